import PyProof.Rows.All
import Wide.All
import OpenK.AllK
import Wide.FinOn
import HandS.ForMost
import HandS.Walk
import HandS.IsInst
import HandS.Zip
import HandS.TupAny
import HandS.Flow
import HandS.Conv
import HandS.Lambda
import HandS.Style
import HandS.Deep
import HandS.Defaults
import HandS.MakeKwOnly
import HandS.HeadHook4
import HandS.HeadEnd
import HandS.Head0
import HandS.Head1
import HandS.Head2
import HandS.More
import HandS.Dict
import HandS.DictComp
import HandS.Star
import HandS.ReplaceLit
import HandS.ExcInit
import HandS.Nested
import KE.KSuper
import KE.KExcSuper
import HandS.ClsMeth
import KE.KTryMore
import HandS.ExcField
import HandS.HotCalls
import HandS.HeadWalk
import PyProof.StrLawsReplace
import PySem.Challenge.RW_bothlots_k03_texts_of_tests
set_option Elab.async false
set_option linter.all false
set_option maxRecDepth 100000
set_option autoImplicit false
/-! DL: a layer of DATA over the hand layer. D: data (trees); Mh: the objects that may change; a body is read as a predicate transformer over D and Mh. -/
namespace DL
open PySem L2

/-! ### data -/
inductive D where
  | non | bl (b : Bool) | int (i : Int) | str (s : Str) | tup (ds : List D) | lst (ds : List D) | ref (a : Addr) | ty (n : String) | scr (ns : List Int)
  /-- an exception that is handled: where it stands, its dict, its fields -/
  | exc (a dd : Addr) (ns : List Str) (ds : List D)

mutual
/-- v shows the data d in the part F of the heap that does not change -/
def DV (K : PySem.W.Frag) (F : Hp) : D → V → Prop
  | .non, v => v = .non
  | .bl b, v => v = .bl b
  | .int i, v => v = .int i
  | .str s, v => v = .str s
  | .ty n, v => v = .ty n
  | .ref a, v => v = .ref a
  | .tup ds, v => ∃ a vs, v = .ref a ∧ SqT K F a vs ∧ DVs K F ds vs
  | .lst ds, v => ∃ a vs, v = .ref a ∧ F a = some (.lst vs) ∧ DVs K F ds vs
  | .scr ns, v => ∃ a, v = .ref a ∧ SqL K F a (ns.map V.int)
  | .exc a dd ns ds, v => v = .ref a ∧ ∃ vs, F dd = some (.xd (ns.zip vs)) ∧ DVs K F ds vs
def DVs (K : PySem.W.Frag) (F : Hp) : List D → List V → Prop
  | [], vs => vs = []
  | d :: ds, vs => ∃ v r, vs = v :: r ∧ DV K F d v ∧ DVs K F ds r
end

def Ex (H H' : Hp) : Prop := ∀ a o, H a = some o → H' a = some o
theorem Ex.refl (H : Hp) : Ex H H := fun _ _ h => h
theorem Ex.trans {H H1 H2 : Hp} (a : Ex H H1) (b : Ex H1 H2) : Ex H H2 := fun x o h => b x o (a x o h)
theorem Ex.sqT {K : PySem.W.Frag} {H H' : Hp} {a : Addr} {xs : List V} (e : Ex H H') (h : SqT K H a xs) : SqT K H' a xs := by
  rcases h with (h | ⟨o, h⟩) | h
  · exact .inl (.inl (e _ _ h))
  · exact .inl (.inr ⟨o, e _ _ h⟩)
  · exact .inr h
theorem Ex.sqL {K : PySem.W.Frag} {H H' : Hp} {a : Addr} {xs : List V} (e : Ex H H') (h : SqL K H a xs) : SqL K H' a xs := by
  rcases h with (h | ⟨o, h⟩) | h
  · exact .inl (.inl (e _ _ h))
  · exact .inl (.inr ⟨o, e _ _ h⟩)
  · exact .inr h
mutual
theorem DV.mono {K : PySem.W.Frag} {F F' : Hp} (e : Ex F F') : ∀ (d : D) {v : V}, DV K F d v → DV K F' d v
  | .non, _, h => by rw [DV] at h ⊢; exact h
  | .bl _, _, h => by rw [DV] at h ⊢; exact h
  | .int _, _, h => by rw [DV] at h ⊢; exact h
  | .str _, _, h => by rw [DV] at h ⊢; exact h
  | .ty _, _, h => by rw [DV] at h ⊢; exact h
  | .ref _, _, h => by rw [DV] at h ⊢; exact h
  | .exc _ _ _ ds, _, h => by
    rw [DV] at h ⊢
    obtain ⟨h1, vs, h2, h3⟩ := h
    exact ⟨h1, vs, e _ _ h2, DVs.mono e ds h3⟩
  | .scr _, _, h => by
    rw [DV] at h ⊢
    obtain ⟨a, h1, h2⟩ := h
    exact ⟨a, h1, e.sqL h2⟩
  | .tup ds, _, h => by
    rw [DV] at h ⊢
    obtain ⟨a, vs, h1, h2, h3⟩ := h
    exact ⟨a, vs, h1, e.sqT h2, DVs.mono e ds h3⟩
  | .lst ds, _, h => by
    rw [DV] at h ⊢
    obtain ⟨a, vs, h1, h2, h3⟩ := h
    exact ⟨a, vs, h1, e _ _ h2, DVs.mono e ds h3⟩
theorem DVs.mono {K : PySem.W.Frag} {F F' : Hp} (e : Ex F F') : ∀ (ds : List D) {vs : List V}, DVs K F ds vs → DVs K F' ds vs
  | [], _, h => by rw [DVs] at h ⊢; exact h
  | d :: ds, _, h => by
    rw [DVs] at h ⊢
    obtain ⟨v, r, h1, h2, h3⟩ := h
    exact ⟨v, r, h1, DV.mono e d h2, DVs.mono e ds h3⟩
end
section
variable {K : PySem.W.Frag} {F : Hp} {v : V} {vs : List V} {d : D} {ds : List D}
theorem dv_non : DV K F .non v ↔ v = .non := by rw [DV]
theorem dv_bl {b : Bool} : DV K F (.bl b) v ↔ v = .bl b := by rw [DV]
theorem dv_int {i : Int} : DV K F (.int i) v ↔ v = .int i := by rw [DV]
theorem dv_str {s : Str} : DV K F (.str s) v ↔ v = .str s := by rw [DV]
theorem dv_ty {s : String} : DV K F (.ty s) v ↔ v = .ty s := by rw [DV]
theorem dv_ref {a : Addr} : DV K F (.ref a) v ↔ v = .ref a := by rw [DV]
theorem dv_tup : DV K F (.tup ds) v ↔ ∃ a vs, v = .ref a ∧ SqT K F a vs ∧ DVs K F ds vs := by rw [DV]
theorem dv_lst : DV K F (.lst ds) v ↔ ∃ a vs, v = .ref a ∧ F a = some (.lst vs) ∧ DVs K F ds vs := by rw [DV]
theorem dv_exc {a dd : Addr} {ns : List Str} {ds : List D} : DV K F (.exc a dd ns ds) v ↔ v = .ref a ∧ ∃ vs, F dd = some (.xd (ns.zip vs)) ∧ DVs K F ds vs := by rw [DV]
theorem dv_scr {ns : List Int} : DV K F (.scr ns) v ↔ ∃ a, v = .ref a ∧ SqL K F a (ns.map V.int) := by rw [DV]
theorem dvs_nil : DVs K F [] vs ↔ vs = [] := by rw [DVs]
theorem dvs_cons : DVs K F (d :: ds) vs ↔ ∃ v r, vs = v :: r ∧ DV K F d v ∧ DVs K F ds r := by rw [DVs]
theorem DVs.length : ∀ {ds : List D} {vs : List V}, DVs K F ds vs → ds.length = vs.length
  | [], _, h => by rw [dvs_nil] at h; subst h; rfl
  | d :: ds, _, h => by
    obtain ⟨v, r, rfl, _, h3⟩ := dvs_cons.mp h
    rw [List.length_cons, List.length_cons, DVs.length h3]
theorem DVs.get : ∀ {ds : List D} {vs : List V} {i : Nat} {d : D}, DVs K F ds vs → ds[i]? = some d → ∃ v, vs[i]? = some v ∧ DV K F d v
  | [], _, _, _, _, e => by simp at e
  | d :: ds, _, 0, _, h, e => by
    obtain ⟨v, r, rfl, h2, h3⟩ := dvs_cons.mp h
    have e' : d = _ := Option.some.inj e
    subst e'
    exact ⟨v, rfl, h2⟩
  | d :: ds, _, i + 1, _, h, e => by
    obtain ⟨v, r, rfl, h2, h3⟩ := dvs_cons.mp h
    exact DVs.get h3 (i := i) e
theorem DVs.getV : ∀ {ds : List D} {vs : List V} {i : Nat} {v : V}, DVs K F ds vs → vs[i]? = some v → ∃ d, ds[i]? = some d ∧ DV K F d v
  | [], _, _, _, h, e => by rw [dvs_nil] at h; subst h; simp at e
  | d :: ds, _, 0, _, h, e => by
    obtain ⟨v, r, rfl, h2, h3⟩ := dvs_cons.mp h
    have e' : v = _ := Option.some.inj e
    subst e'
    exact ⟨d, rfl, h2⟩
  | d :: ds, _, i + 1, _, h, e => by
    obtain ⟨v, r, rfl, h2, h3⟩ := dvs_cons.mp h
    exact DVs.getV h3 (i := i) e
theorem DVs.append : ∀ {ds es : List D} {vs us : List V}, DVs K F ds vs → DVs K F es us → DVs K F (ds ++ es) (vs ++ us)
  | [], _, _, _, h, g => by rw [dvs_nil] at h; subst h; exact g
  | d :: ds, _, _, _, h, g => by
    obtain ⟨v, r, rfl, h2, h3⟩ := dvs_cons.mp h
    exact dvs_cons.mpr ⟨v, _, rfl, h2, DVs.append h3 g⟩
theorem DVs.take : ∀ {ds : List D} {vs : List V} (n : Nat), DVs K F ds vs → DVs K F (ds.take n) (vs.take n)
  | _, _, 0, _ => by rw [List.take_zero, List.take_zero]; exact dvs_nil.mpr rfl
  | [], _, n + 1, h => by rw [dvs_nil] at h; subst h; exact dvs_nil.mpr rfl
  | d :: ds, _, n + 1, h => by
    obtain ⟨v, r, rfl, h2, h3⟩ := dvs_cons.mp h
    exact dvs_cons.mpr ⟨v, _, rfl, h2, DVs.take n h3⟩
theorem DVs.drop : ∀ {ds : List D} {vs : List V} (n : Nat), DVs K F ds vs → DVs K F (ds.drop n) (vs.drop n)
  | _, _, 0, h => h
  | [], _, n + 1, h => by rw [dvs_nil] at h; subst h; exact dvs_nil.mpr rfl
  | d :: ds, _, n + 1, h => by
    obtain ⟨v, r, rfl, h2, h3⟩ := dvs_cons.mp h
    exact DVs.drop n h3
theorem DVs.set {d : D} {v : V} (g : DV K F d v) : ∀ {ds : List D} {vs : List V} (n : Nat), DVs K F ds vs → DVs K F (ds.set n d) (vs.set n v)
  | [], _, n, h => by rw [dvs_nil] at h; subst h; exact dvs_nil.mpr rfl
  | _ :: ds, _, 0, h => by
    obtain ⟨u, r, rfl, h2, h3⟩ := dvs_cons.mp h
    exact dvs_cons.mpr ⟨v, _, rfl, g, h3⟩
  | _ :: ds, _, n + 1, h => by
    obtain ⟨u, r, rfl, h2, h3⟩ := dvs_cons.mp h
    exact dvs_cons.mpr ⟨u, _, rfl, h2, DVs.set g n h3⟩
theorem DVs.one (h : DV K F d v) : DVs K F [d] [v] := dvs_cons.mpr ⟨v, [], rfl, h, dvs_nil.mpr rfl⟩
theorem DVs.two {d' : D} {v' : V} (h : DV K F d v) (h' : DV K F d' v') : DVs K F [d, d'] [v, v'] := dvs_cons.mpr ⟨v, [v'], rfl, h, DVs.one h'⟩
end

/-! ### the objects that may change, and the hidden ones -/
inductive MO where
  | box | lst (ds : List D) | dct (kvs : List (Key × D)) | ins (C : Addr) (fs : List (Str × D))
  /-- the table of the code objects of a def that makes lambdas, all named q -/
  | tab (q : Str)
abbrev Mh := Addr → Option MO
/-- the part of H that stands still: neither in M nor hidden (S) -/
def hid (M : Mh) (S H : Hp) : Hp := fun a => if (M a).isSome || (S a).isSome then none else H a
def setM (M : Mh) (a : Addr) (o : MO) : Mh := fun b => if b = a then some o else M b
def delM (M : Mh) (a : Addr) : Mh := fun b => if b = a then none else M b
def KVD (K : PySem.W.Frag) (F : Hp) {κ : Type} : List (κ × D) → List (κ × V) → Prop
  | [], vs => vs = []
  | (k, d) :: r, vs => ∃ v t, vs = (k, v) :: t ∧ DV K F d v ∧ KVD K F r t
def BoxV (K : PySem.W.Frag) (F : Hp) (vs : List V) : Prop :=
  ∃ (l : Addr) (i big mix cnt : Int) (ns : List Int), vs = [.ref l, .int i, .int big, .int mix, .int cnt] ∧ F l = some (.lst (ns.map V.int)) ∧ 0 ≤ i ∧ 0 ≤ big ∧ 0 ≤ mix ∧ mix < 2147483648
def MOR (K : PySem.W.Frag) (F : Hp) : MO → HO → Prop
  | .box, o => ∃ vs, o = .lst vs ∧ BoxV K F vs
  | .lst ds, o => ∃ vs, o = .lst vs ∧ DVs K F ds vs
  | .dct kvs, o => ∃ ps, o = .dK ps ∧ KVD K F kvs ps
  | .ins C fs, o => ∃ dx ps, o = .ins C dx ps ∧ KVD K F fs ps
  | .tab q, o => ∃ ps : Array Value, o = .tbl ps ∧ TriplesOk ps.toList ∧ ∀ (pos : Pos) (cv : Value), codeAmong pos ps.toList = some cv → ∃ c, cv = .ref c ∧ F c = some (LamX.CodeO c q)
theorem KVD.mono {K : PySem.W.Frag} {F F' : Hp} (e : Ex F F') {κ : Type} : ∀ {kvs : List (κ × D)} {ps : List (κ × V)}, KVD K F kvs ps → KVD K F' kvs ps
  | [], _, h => h
  | (k, d) :: r, _, h => by
    obtain ⟨v, t, h1, h2, h3⟩ := h
    exact ⟨v, t, h1, DV.mono e d h2, KVD.mono e h3⟩
theorem MOR.mono {K : PySem.W.Frag} {F F' : Hp} (e : Ex F F') : ∀ {o : MO} {u : HO}, MOR K F o u → MOR K F' o u
  | .box, _, ⟨vs, h1, l, i, b, m, c, ns, h2, h3, h4⟩ => ⟨vs, h1, l, i, b, m, c, ns, h2, e _ _ h3, h4⟩
  | .lst ds, _, ⟨vs, h1, h2⟩ => ⟨vs, h1, DVs.mono e ds h2⟩
  | .dct _, _, ⟨ps, h1, h2⟩ => ⟨ps, h1, KVD.mono e h2⟩
  | .ins _ _, _, ⟨dx, ps, h1, h2⟩ => ⟨dx, ps, h1, KVD.mono e h2⟩
  | .tab _, _, ⟨ps, h1, h2, h3⟩ => ⟨ps, h1, h2, fun pos cv q => let ⟨c, g1, g2⟩ := h3 pos cv q; ⟨c, g1, e _ _ g2⟩⟩
structure R (K : PySem.W.Frag) (M : Mh) (S H : Hp) : Prop where
  hidden : ∀ a o, S a = some o → H a = some o ∧ M a = none
  chg : ∀ a o, M a = some o → ∃ u, H a = some u ∧ MOR K (hid M S H) o u
section
variable {K : PySem.W.Frag} {M : Mh} {S H : Hp} {p a : Addr} {o : HO} {m : MO}
theorem hid_le (M : Mh) (S H : Hp) : Ex (hid M S H) H := fun a o h => by
  unfold hid at h
  split at h
  · cases h
  · exact h
theorem hid_some {u : HO} : hid M S H a = some u ↔ M a = none ∧ S a = none ∧ H a = some u := by
  unfold hid
  cases h1 : M a <;> cases h2 : S a <;> simp
theorem R.freeM (r : R K M S H) (h : H p = none) : M p = none := by
  cases e : M p with
  | none => rfl
  | some o =>
    obtain ⟨u, q, _⟩ := r.chg p o e
    rw [h] at q
    cases q
theorem R.freeS (r : R K M S H) (h : H p = none) : S p = none := by
  cases e : S p with
  | none => rfl
  | some o =>
    have q := (r.hidden p o e).1
    rw [h] at q
    cases q
/-- a new thing that stands still -/
theorem R.new (r : R K M S H) (h : H p = none) : R K M S (upd H p o) ∧ Ex (hid M S H) (hid M S (upd H p o)) ∧ hid M S (upd H p o) p = some o := by
  have hM := r.freeM h
  have hS := r.freeS h
  have e : Ex (hid M S H) (hid M S (upd H p o)) := fun a u q => by
    obtain ⟨h1, h2, h3⟩ := hid_some.mp q
    exact hid_some.mpr ⟨h1, h2, by rw [upd_ne (ne_of_none h3 h)]; exact h3⟩
  refine ⟨⟨fun a u q => ?_, fun a u q => ?_⟩, e, hid_some.mpr ⟨hM, hS, upd_same⟩⟩
  · obtain ⟨h1, h2⟩ := r.hidden a u q
    exact ⟨by rw [upd_ne (ne_of_none h1 h)]; exact h1, h2⟩
  · obtain ⟨w, h1, h2⟩ := r.chg a u q
    exact ⟨w, by rw [upd_ne (ne_of_none h1 h)]; exact h1, h2.mono e⟩
theorem hid_set (M : Mh) (S H : Hp) (p : Addr) (m : MO) (o : HO) (h : (M p).isSome = true ∨ H p = none) : hid (setM M p m) S (upd H p o) = hid M S H := by
  funext a
  unfold hid setM
  by_cases e : a = p
  · subst e
    rw [if_pos rfl]
    rcases h with h | h
    · rw [h]; simp
    · rw [h]; simp
  · rw [if_neg e, upd_ne e]
/-- a new thing that may change, or one that changes -/
theorem R.put (r : R K M S H) (h : (M p).isSome = true ∨ H p = none) (hm : MOR K (hid M S H) m o) : R K (setM M p m) S (upd H p o) := by
  have he := hid_set M S H p m o h
  have hS : S p = none := by
    rcases h with h | h
    · cases e : S p with
      | none => rfl
      | some u =>
        rw [(r.hidden p u e).2] at h
        cases h
    · exact r.freeS h
  refine ⟨fun a u q => ?_, fun a u q => ?_⟩
  · have ne : a ≠ p := fun z => by rw [z, hS] at q; cases q
    obtain ⟨h1, h2⟩ := r.hidden a u q
    exact ⟨by rw [upd_ne ne]; exact h1, by unfold setM; rw [if_neg ne]; exact h2⟩
  · rw [he]
    unfold setM at q
    by_cases e : a = p
    · subst e
      rw [if_pos rfl] at q
      cases q
      exact ⟨o, upd_same, hm⟩
    · rw [if_neg e] at q
      obtain ⟨w, h1, h2⟩ := r.chg a u q
      exact ⟨w, by rw [upd_ne e]; exact h1, h2⟩
/-- what may change is from now on still -/
theorem R.freeze (r : R K M S H) : R K (delM M p) S H ∧ Ex (hid M S H) (hid (delM M p) S H) := by
  have e : Ex (hid M S H) (hid (delM M p) S H) := fun a u q => by
    obtain ⟨h1, h2, h3⟩ := hid_some.mp q
    refine hid_some.mpr ⟨?_, h2, h3⟩
    unfold delM
    split
    · rfl
    · exact h1
  refine ⟨⟨fun a u q => ?_, fun a u q => ?_⟩, e⟩
  · obtain ⟨h1, h2⟩ := r.hidden a u q
    refine ⟨h1, ?_⟩
    unfold delM
    split
    · rfl
    · exact h2
  · unfold delM at q
    split at q
    · cases q
    · obtain ⟨w, h1, h2⟩ := r.chg a u q
      exact ⟨w, h1, h2.mono e⟩
end

/-! ### readings over data -/
abbrev Env := List (Option D)
/-- an exception: its class, its fields (none: it has no dict) -/
structure XD where
  cls : Value
  fs : Option (List (Str × D))
def XR (K : PySem.W.Frag) (F : Hp) (x : XD) (c : Value) (o : Option Addr) : Prop :=
  c = x.cls ∧ match x.fs with
    | none => o = none
    | some fs => ∃ d ps, o = some d ∧ F d = some (.xd ps) ∧ KVD K F fs ps
abbrev DK := D → Mh → Prop
abbrev XKd := XD → Mh → Prop
abbrev ME := Env → Mh → DK → XKd → Prop
abbrev MT := Env → Mh → (Bool → Mh → Prop) → XKd → Prop
abbrev MA := Env → Mh → (List D → Mh → Prop) → XKd → Prop
structure DEnds where
  nx : Env → Mh → Prop
  rt : DK
  bk : Env → Mh → Prop := fun _ _ => False
  ct : Env → Mh → Prop := fun _ _ => False
abbrev MS := DEnds → Env → Mh → XKd → Prop

structure EnvR (K : PySem.W.Frag) (F : Hp) (Γ : Env) (σ : St) : Prop where
  len : Γ.length = σ.length
  get : ∀ (i : Nat) (d : D), Γ[i]? = some (some d) → ∃ v, σ[i]? = some (some v) ∧ DV K F d v
theorem EnvR.mono {K : PySem.W.Frag} {F F' : Hp} {Γ : Env} {σ : St} (e : Ex F F') (h : EnvR K F Γ σ) : EnvR K F' Γ σ :=
  ⟨h.len, fun i d q => let ⟨v, h1, h2⟩ := h.get i d q; ⟨v, h1, h2.mono e d⟩⟩
theorem EnvR.set {K : PySem.W.Frag} {F : Hp} {Γ : Env} {σ : St} (h : EnvR K F Γ σ) {i : Nat} {d : D} {v : V} (g : DV K F d v) : EnvR K F (Γ.set i (some d)) (σ.set i (some v)) := by
  refine ⟨by simp [h.len], fun j e q => ?_⟩
  by_cases c : i = j
  · subst c
    by_cases hl : i < Γ.length
    · rw [List.getElem?_set_self hl] at q
      cases q
      exact ⟨v, List.getElem?_set_self (by rw [← h.len]; exact hl), g⟩
    · rw [List.getElem?_eq_none (by simp; omega)] at q
      cases q
  · rw [List.getElem?_set_ne c] at q
    obtain ⟨u, h1, h2⟩ := h.get j e q
    exact ⟨u, by rw [List.getElem?_set_ne c]; exact h1, h2⟩
theorem EnvR.wipe1 {K : PySem.W.Frag} {F : Hp} {Γ : Env} {σ : St} (h : EnvR K F Γ σ) {i : Nat} : EnvR K F (Γ.set i none) (σ.set i none) := by
  refine ⟨by simp [h.len], fun j e q => ?_⟩
  by_cases c : i = j
  · subst c
    by_cases hl : i < Γ.length
    · rw [List.getElem?_set_self hl] at q
      cases q
    · rw [List.getElem?_eq_none (by simp; omega)] at q
      cases q
  · rw [List.getElem?_set_ne c] at q
    obtain ⟨u, h1, h2⟩ := h.get j e q
    exact ⟨u, by rw [List.getElem?_set_ne c]; exact h1, h2⟩
def wipeD (Γ : Env) : List Nat → Env
  | [] => Γ
  | v :: vs => (wipeD Γ vs).set v none
theorem EnvR.wipe {K : PySem.W.Frag} {F : Hp} {Γ : Env} {σ : St} (h : EnvR K F Γ σ) : ∀ vs : List Nat, EnvR K F (wipeD Γ vs) (L2.wipe σ vs)
  | [] => h
  | v :: vs => (EnvR.wipe h vs).wipe1

/-- what is to hold behind: the value, the exception -/
def KeepV (K : PySem.W.Frag) (S : Hp) (F : Hp) (k : DK) (Q : VK) : Prop := ∀ d M', k d M' → ∀ H' v, R K M' S H' → Ex F (hid M' S H') → DV K (hid M' S H') d v → Q v H'
def KeepX (K : PySem.W.Frag) (S : Hp) (F : Hp) (kx : XKd) (E : XK) : Prop := ∀ x M', kx x M' → ∀ H' c o, R K M' S H' → Ex F (hid M' S H') → XR K (hid M' S H') x c o → E c o H'
def KeepE (K : PySem.W.Frag) (S : Hp) (F : Hp) (k : Env → Mh → Prop) (Q : St → Hp → Prop) : Prop := ∀ Γ' M', k Γ' M' → ∀ H' σ', R K M' S H' → Ex F (hid M' S H') → EnvR K (hid M' S H') Γ' σ' → Q σ' H'
def KeepB (K : PySem.W.Frag) (S : Hp) (F : Hp) (k : Bool → Mh → Prop) (Q : Bool → Hp → Prop) : Prop := ∀ b M', k b M' → ∀ H', R K M' S H' → Ex F (hid M' S H') → Q b H'
def KeepA (K : PySem.W.Frag) (S : Hp) (F : Hp) (k : List D → Mh → Prop) (Q : List V → Hp → Prop) : Prop := ∀ ds M', k ds M' → ∀ H' vs, R K M' S H' → Ex F (hid M' S H') → DVs K (hid M' S H') ds vs → Q vs H'
/-- the reading over values that a reading over data stands for -/
def tI (K : PySem.W.Frag) (E : XK) (m : ME) : TE := fun σ H Q => ∃ M S Γ k kx, R K M S H ∧ EnvR K (hid M S H) Γ σ ∧ m Γ M k kx ∧ KeepV K S (hid M S H) k Q ∧ KeepX K S (hid M S H) kx E
def tT (K : PySem.W.Frag) (E : XK) (m : MT) : TT := fun σ H Q => ∃ M S Γ k kx, R K M S H ∧ EnvR K (hid M S H) Γ σ ∧ m Γ M k kx ∧ KeepB K S (hid M S H) k Q ∧ KeepX K S (hid M S H) kx E
def tA (K : PySem.W.Frag) (E : XK) (m : MA) : TA := fun σ H Q => ∃ M S Γ k kx, R K M S H ∧ EnvR K (hid M S H) Γ σ ∧ m Γ M k kx ∧ KeepA K S (hid M S H) k Q ∧ KeepX K S (hid M S H) kx E
def tSt (K : PySem.W.Frag) (E : XK) (m : MS) : TS := fun D σ H => ∃ M S Γ De kx, R K M S H ∧ EnvR K (hid M S H) Γ σ ∧ m De Γ M kx ∧
  KeepE K S (hid M S H) De.nx D.nx ∧ KeepV K S (hid M S H) De.rt D.rt ∧ KeepE K S (hid M S H) De.bk D.bk ∧ KeepE K S (hid M S H) De.ct D.ct ∧ KeepX K S (hid M S H) kx E
theorem KeepX.ex {K : PySem.W.Frag} {S F F' : Hp} {kx : XKd} {E : XK} (h : KeepX K S F kx E) (e : Ex F F') : KeepX K S F' kx E := fun x M' q H' c o r e' y => h x M' q H' c o r (e.trans e') y
theorem KeepV.ex {K : PySem.W.Frag} {S F F' : Hp} {k : DK} {Q : VK} (h : KeepV K S F k Q) (e : Ex F F') : KeepV K S F' k Q := fun x M' q H' v r e' y => h x M' q H' v r (e.trans e') y
theorem KeepE.ex {K : PySem.W.Frag} {S F F' : Hp} {k : Env → Mh → Prop} {Q : St → Hp → Prop} (h : KeepE K S F k Q) (e : Ex F F') : KeepE K S F' k Q := fun x M' q H' v r e' y => h x M' q H' v r (e.trans e') y
theorem KeepB.ex {K : PySem.W.Frag} {S F F' : Hp} {k : Bool → Mh → Prop} {Q : Bool → Hp → Prop} (h : KeepB K S F k Q) (e : Ex F F') : KeepB K S F' k Q := fun x M' q H' r e' => h x M' q H' r (e.trans e')
theorem KeepA.ex {K : PySem.W.Frag} {S F F' : Hp} {k : List D → Mh → Prop} {Q : List V → Hp → Prop} (h : KeepA K S F k Q) (e : Ex F F') : KeepA K S F' k Q := fun x M' q H' v r e' y => h x M' q H' v r (e.trans e') y
/-- weaker readings -/
theorem pe_le {X : Cx} {e : Expr} {t t' : TE} (h : PE X e t) (i : ∀ σ H Q, t' σ H Q → t σ H Q) : PE X e t' := ⟨fun pins s σ H Q I q => h.run pins s σ H Q I (i σ H Q q)⟩
theorem pt_le {X : Cx} {e : Expr} {t t' : TT} (h : PT X e t) (i : ∀ σ H Q, t' σ H Q → t σ H Q) : PT X e t' := ⟨fun pins s σ H Q I q => h.run pins s σ H Q I (i σ H Q q)⟩
theorem pa_le {X : Cx} {e : List Expr} {t t' : TA} (h : PA X e t) (i : ∀ σ H Q, t' σ H Q → t σ H Q) : PA X e t' := ⟨fun pos pins s σ H Q I q => h.run pos pins s σ H Q I (i σ H Q q)⟩
theorem ps_le {X : Cx} {e : Stmt} {t t' : TS} (h : PS X e t) (i : ∀ D σ H, t' D σ H → t D σ H) : PS X e t' := ⟨fun pins s σ H D I q => h.run pins s σ H D I (i D σ H q)⟩
theorem pss_le {X : Cx} {e : List Stmt} {t t' : TS} (h : PSs X e t) (i : ∀ D σ H, t' D σ H → t D σ H) : PSs X e t' := ⟨fun pins s σ H D I q => h.run pins s σ H D I (i D σ H q)⟩
end DL
namespace DL
open PySem L2

/-! ### sequences among the data -/
def mls : Option MO → Option (List D)
  | some (.lst ds) => some ds
  | _ => none
def lsOf (M : Mh) : D → Option (List D)
  | .lst ds => some ds
  | .ref a => mls (M a)
  | _ => none
theorem mls_some {o : Option MO} {ds : List D} (h : mls o = some ds) : o = some (.lst ds) := by
  unfold mls at h
  split at h
  · cases h; rfl
  · cases h
section
variable {K : PySem.W.Frag} {M : Mh} {S H : Hp} {d : D} {v : V} {ds : List D}
theorem ls_sq (r : R K M S H) (h : DV K (hid M S H) d v) (e : lsOf M d = some ds) : ∃ a vs, v = .ref a ∧ H a = some (.lst vs) ∧ DVs K (hid M S H) ds vs := by
  cases d with
  | lst es =>
    obtain ⟨a, vs, h1, h2, h3⟩ := dv_lst.mp h
    cases e
    exact ⟨a, vs, h1, hid_le _ _ _ _ _ h2, h3⟩
  | ref a =>
    have e1 := dv_ref.mp h
    obtain ⟨u, h1, vs, rfl, h2⟩ := r.chg a _ (mls_some e)
    exact ⟨a, vs, e1, h1, h2⟩
  | non => cases e
  | bl _ => cases e
  | int _ => cases e
  | str _ => cases e
  | ty _ => cases e
  | scr _ => cases e
  | exc _ _ _ _ => cases e
  | tup _ => cases e
theorem tp_sq (h : DV K (hid M S H) (.tup ds) v) : ∃ a vs, v = .ref a ∧ SqT K H a vs ∧ DVs K (hid M S H) ds vs := by
  obtain ⟨a, vs, h1, h2, h3⟩ := dv_tup.mp h
  exact ⟨a, vs, h1, (hid_le _ _ _).sqT h2, h3⟩
/-- a new list, a new tuple of data -/
theorem new_lst {p : Addr} {vs : List V} (r : R K M S H) (hp : H p = none) (h : DVs K (hid M S H) ds vs) :
    R K M S (upd H p (.lst vs)) ∧ Ex (hid M S H) (hid M S (upd H p (.lst vs))) ∧ DV K (hid M S (upd H p (.lst vs))) (.lst ds) (.ref p) := by
  obtain ⟨h1, h2, h3⟩ := r.new (o := .lst vs) hp
  exact ⟨h1, h2, dv_lst.mpr ⟨p, vs, rfl, h3, DVs.mono h2 _ h⟩⟩
theorem new_tup {p : Addr} {vs : List V} (r : R K M S H) (hp : H p = none) (h : DVs K (hid M S H) ds vs) :
    R K M S (upd H p (.tup vs)) ∧ Ex (hid M S H) (hid M S (upd H p (.tup vs))) ∧ DV K (hid M S (upd H p (.tup vs))) (.tup ds) (.ref p) := by
  obtain ⟨h1, h2, h3⟩ := r.new (o := .tup vs) hp
  exact ⟨h1, h2, dv_tup.mpr ⟨p, vs, rfl, SqT.of h3, DVs.mono h2 _ h⟩⟩
end

/-! ### lifted rules by values -/
def rL1 (K : PySem.W.Frag) (r : D → Mh → DK → Prop) : V → Hp → VK → Prop := fun x H Q => ∃ M S d k, R K M S H ∧ DV K (hid M S H) d x ∧ r d M k ∧ KeepV K S (hid M S H) k Q
def rL2 (K : PySem.W.Frag) (r : D → D → Mh → DK → Prop) : R2 := fun x y H Q => ∃ M S d e k, R K M S H ∧ DV K (hid M S H) d x ∧ DV K (hid M S H) e y ∧ r d e M k ∧ KeepV K S (hid M S H) k Q
def rLc (K : PySem.W.Frag) (r : List D → Mh → DK → Prop) : List V → Hp → VK → Prop := fun xs H Q => ∃ M S ds k, R K M S H ∧ DVs K (hid M S H) ds xs ∧ r ds M k ∧ KeepV K S (hid M S H) k Q
def rLm (K : PySem.W.Frag) (r : D → List D → Mh → DK → Prop) : V → List V → Hp → VK → Prop := fun x xs H Q => ∃ M S d ds k, R K M S H ∧ DV K (hid M S H) d x ∧ DVs K (hid M S H) ds xs ∧ r d ds M k ∧ KeepV K S (hid M S H) k Q
/-- the value d comes, nothing else happens -/
theorem KeepV.now {K : PySem.W.Frag} {M : Mh} {S H : Hp} {k : DK} {Q : VK} {d : D} {v : V} (h : KeepV K S (hid M S H) k Q) (r : R K M S H) (q : k d M) (g : DV K (hid M S H) d v) : Q v H := h d M q H v r (Ex.refl _) g
theorem OpR.sub {X : Cx} {f : Value → Value → Sem Value} {r r' : R2} (h : OpR X f r) (i : ∀ x y H Q, r' x y H Q → r x y H Q) : OpR X f r' := fun pins s σ H x y v u Q I rx ry q => h pins s σ H x y v u Q I rx ry (i x y H Q q)
theorem CallR.sub {X : Cx} {f : Value} {r r' : List V → Hp → VK → Prop} (h : CallR X f r) (i : ∀ xs H Q, r' xs H Q → r xs H Q) : CallR X f r' := fun pins s σ H xs us Q I rx q => h pins s σ H xs us Q I rx (i xs H Q q)
theorem IxR.sub {X : Cx} {r r' : R2} (h : IxR X r) (i : ∀ x y H Q, r' x y H Q → r x y H Q) : IxR X r' := fun a b pins s σ H x y v u Q I rx ry q => h a b pins s σ H x y v u Q I rx ry (i x y H Q q)
theorem MtR.sub {X : Cx} {id : String} {r r' : V → List V → Hp → VK → Prop} (h : MtR X id r) (i : ∀ x xs H Q, r' x xs H Q → r x xs H Q) : MtR X id r' := fun pins s σ H x xs v us Q I rx rs q => h pins s σ H x xs v us Q I rx rs (i x xs H Q q)
theorem SlR.sub {X : Cx} {r r' : V → Option Int → Option Int → Hp → VK → Prop} (h : SlR X r) (i : ∀ x a b H Q, r' x a b H Q → r x a b H Q) : SlR X r' := fun pins s σ H x v vl vu lo hi sl Q I rx hs pl pu q => h pins s σ H x v vl vu lo hi sl Q I rx hs pl pu (i x lo hi H Q q)

/-! ### readings of expressions -/
def mVar (i : Nat) : ME := fun Γ M k _ => ∃ d, Γ[i]? = some (some d) ∧ k d M
def mC (d : D) : ME := fun _ M k _ => k d M
def mOp (r : D → D → Mh → DK → Prop) (ma mb : ME) : ME := fun Γ M k kx => ma Γ M (fun x M1 => mb Γ M1 (fun y M2 => r x y M2 k) kx) kx
def mUn (r : D → Mh → DK → Prop) (ma : ME) : ME := fun Γ M k kx => ma Γ M (fun x M1 => r x M1 k) kx
def mNil : MA := fun _ M k _ => k [] M
def mCons (ma : ME) (mr : MA) : MA := fun Γ M k kx => ma Γ M (fun x M1 => mr Γ M1 (fun xs M2 => k (x :: xs) M2) kx) kx
def mTup (ma : MA) : ME := fun Γ M k kx => ma Γ M (fun ds M1 => ds.length ≤ sizeLine ∧ k (.tup ds) M1) kx
def mLst (ma : MA) : ME := fun Γ M k kx => ma Γ M (fun ds M1 => ds.length ≤ sizeLine ∧ k (.lst ds) M1) kx
/-- a list that is going to be changed -/
def mLstM (ma : MA) : ME := fun Γ M k kx => ma Γ M (fun ds M1 => ds.length ≤ sizeLine ∧ ∀ p, M1 p = none → k (.ref p) (setM M1 p (.lst ds))) kx
def mCB (r : List D → Mh → DK → Prop) (ma : MA) : ME := fun Γ M k kx => ma Γ M (fun ds M1 => r ds M1 k) kx
def mBM (r : D → List D → Mh → DK → Prop) (mo : ME) (ma : MA) : ME := fun Γ M k kx => mo Γ M (fun d M1 => ma Γ M1 (fun ds M2 => r d ds M2 k) kx) kx
def mIf (mt : MT) (ma mb : ME) : ME := fun Γ M k kx => mt Γ M (fun b M1 => if b = true then ma Γ M1 k kx else mb Γ M1 k kx) kx
def mAndV (ma mb : ME) : ME := fun Γ M k kx => ma Γ M (fun x M1 => ∃ c, x = .bl c ∧ if c = true then mb Γ M1 k kx else k (.bl false) M1) kx
def mOrV (ma mb : ME) : ME := fun Γ M k kx => ma Γ M (fun x M1 => ∃ c, x = .bl c ∧ if c = true then k (.bl true) M1 else mb Γ M1 k kx) kx
def mNotV (ma : ME) : ME := fun Γ M k kx => ma Γ M (fun x M1 => ∃ c, x = .bl c ∧ k (.bl (!c)) M1) kx
def mTest (ma : ME) : MT := fun Γ M k kx => ma Γ M (fun x M1 => ∃ c, x = .bl c ∧ k c M1) kx
def mAnd (ma mb : MT) : MT := fun Γ M k kx => ma Γ M (fun c M1 => if c = true then mb Γ M1 k kx else k false M1) kx
def mOr (ma mb : MT) : MT := fun Γ M k kx => ma Γ M (fun c M1 => if c = true then k true M1 else mb Γ M1 k kx) kx
def mNot (ma : MT) : MT := fun Γ M k kx => ma Γ M (fun c M1 => k (!c) M1) kx
def mChain (r r' : D → D → Mh → DK → Prop) (ma mb mc : ME) : ME := fun Γ M k kx => ma Γ M (fun x M1 => mb Γ M1 (fun y M2 => r x y M2 fun z M3 => ∃ c, z = .bl c ∧ if c = true then mc Γ M3 (fun w M4 => r' y w M4 k) kx else k (.bl false) M3) kx) kx
abbrev MP := Env → Mh → (Option Int → Mh → Prop) → XKd → Prop
def mNoPart : MP := fun _ M k _ => k none M
def mPart (ma : ME) : MP := fun Γ M k kx => ma Γ M (fun x M1 => ∃ i, x = .int i ∧ k (some i) M1) kx
def mSl (r : D → Option Int → Option Int → Mh → DK → Prop) (mo : ME) (ml mu : MP) : ME := fun Γ M k kx => mo Γ M (fun d M1 => ml Γ M1 (fun lo M2 => mu Γ M2 (fun hi M3 => r d lo hi M3 k) kx) kx) kx
/-- a call of an own def -/
abbrev MF := List D → Mh → DK → XKd → Prop
def mCall (f : MF) (ma : MA) : ME := fun Γ M k kx => ma Γ M (fun ds M1 => f ds M1 k kx) kx
def mCallK (f : MF) (g : List D → List D → List D) (ma mk : MA) : ME := fun Γ M k kx => ma Γ M (fun ds M1 => mk Γ M1 (fun es M2 => f (g ds es) M2 k kx) kx) kx

section
variable {K : PySem.W.Frag} {E : XK}
theorem tI_op {r : D → D → Mh → DK → Prop} {ma mb : ME} {σ : St} {H : Hp} {Q : VK} (h : tI K E (mOp r ma mb) σ H Q) : tOp (rL2 K r) (tI K E ma) (tI K E mb) σ H Q := by
  obtain ⟨M, S, Γ, k, kx, hr, er, hm, kv, kxx⟩ := h
  refine ⟨M, S, Γ, _, kx, hr, er, hm, fun x M1 q1 H1 v1 r1 e1 d1 => ?_, kxx⟩
  refine ⟨M1, S, Γ, _, kx, r1, er.mono e1, q1, fun y M2 q2 H2 v2 r2 e2 d2 => ?_, kxx.ex e1⟩
  exact ⟨M2, S, x, y, k, r2, d1.mono e2 _, d2, q2, kv.ex (e1.trans e2)⟩
theorem tI_un {r : D → Mh → DK → Prop} {ma : ME} {σ : St} {H : Hp} {Q : VK} (h : tI K E (mUn r ma) σ H Q) : tUn (rL1 K r) (tI K E ma) σ H Q := by
  obtain ⟨M, S, Γ, k, kx, hr, er, hm, kv, kxx⟩ := h
  refine ⟨M, S, Γ, _, kx, hr, er, hm, fun x M1 q1 H1 v1 r1 e1 d1 => ?_, kxx⟩
  exact ⟨M1, S, x, k, r1, d1, q1, kv.ex e1⟩
theorem tA_cons {ma : ME} {mr : MA} {σ : St} {H : Hp} {Q : List V → Hp → Prop} (h : tA K E (mCons ma mr) σ H Q) : tCons (tI K E ma) (tA K E mr) σ H Q := by
  obtain ⟨M, S, Γ, k, kx, hr, er, hm, kv, kxx⟩ := h
  refine ⟨M, S, Γ, _, kx, hr, er, hm, fun x M1 q1 H1 v1 r1 e1 d1 => ?_, kxx⟩
  refine ⟨M1, S, Γ, _, kx, r1, er.mono e1, q1, fun ys M2 q2 H2 v2 r2 e2 d2 => ?_, kxx.ex e1⟩
  exact kv _ M2 q2 H2 _ r2 (e1.trans e2) (dvs_cons.mpr ⟨v1, v2, rfl, d1.mono e2 _, d2⟩)
theorem tI_cb {r : List D → Mh → DK → Prop} {ma : MA} {σ : St} {H : Hp} {Q : VK} (h : tI K E (mCB r ma) σ H Q) : tCB (rLc K r) (tA K E ma) σ H Q := by
  obtain ⟨M, S, Γ, k, kx, hr, er, hm, kv, kxx⟩ := h
  refine ⟨M, S, Γ, _, kx, hr, er, hm, fun xs M1 q1 H1 v1 r1 e1 d1 => ?_, kxx⟩
  exact ⟨M1, S, xs, k, r1, d1, q1, kv.ex e1⟩
/-- the promise of a def by its reading over data -/
def spI (K : PySem.W.Frag) (f : MF) : Sp := fun vs H Q E => ∃ M S ds k kx, R K M S H ∧ DVs K (hid M S H) ds vs ∧ f ds M k kx ∧ KeepV K S (hid M S H) k Q ∧ KeepX K S (hid M S H) kx E
theorem tI_call {f : MF} {ma : MA} {σ : St} {H : Hp} {Q : VK} (h : tI K E (mCall f ma) σ H Q) : tCall (spI K f) [] E (tA K E ma) σ H Q := by
  obtain ⟨M, S, Γ, k, kx, hr, er, hm, kv, kxx⟩ := h
  refine ⟨M, S, Γ, _, kx, hr, er, hm, fun xs M1 q1 H1 v1 r1 e1 d1 => ?_, kxx⟩
  exact ⟨M1, S, xs, k, kx, r1, by rw [List.append_nil]; exact d1, q1, kv.ex e1, kxx.ex e1⟩
end

section
variable {X : Cx} {E : XK} {a b c : Expr} {ma mb mc : ME} {pos : Pos} {mt mt' : MT} {rest : List Expr}
theorem de_var (i : Nat) {x : Str} (hN : X.N[i]? = some x := by rfl) (hv : Vis X.env.scope x := by first | exact Or.inl rfl | exact Or.inr (Or.inl rfl) | exact Or.inr (Or.inr rfl)) (hd : (x == ("__debug__" : Str)) = false := by decide)
    (hcd : (x == ("__classdict__" : Str)) = false := by decide) : PE X (.Name x pos) (tI X.K E (mVar i)) := by
  refine pe_le (pe_var hN hv hd hcd) fun σ H Q h => ?_
  obtain ⟨M, S, Γ, k, kx, hr, er, ⟨d, e, hm⟩, kv, _⟩ := h
  obtain ⟨v, h1, h2⟩ := er.get i d e
  exact ⟨v, h1, kv.now hr hm h2⟩
theorem de_c {v : V} {d : D} (h : PE X a (tC v)) (g : ∀ F, DV X.K F d v) : PE X a (tI X.K E (mC d)) := by
  refine pe_le h fun σ H Q h => ?_
  obtain ⟨M, S, Γ, k, kx, hr, er, hm, kv, _⟩ := h
  exact kv.now hr hm (g _)
theorem de_int {i : Int} {j} : PE X (.Constant (.int i) j pos) (tI X.K E (mC (.int i))) := de_c pe_int fun _ => dv_int.mpr rfl
theorem de_bl {i : Bool} {j} : PE X (.Constant (.bool i) j pos) (tI X.K E (mC (.bl i))) := de_c pe_bl fun _ => dv_bl.mpr rfl
theorem de_non {j} : PE X (.Constant .none j pos) (tI X.K E (mC .non)) := de_c pe_non fun _ => dv_non.mpr rfl
theorem de_str {i : Str} {j} : PE X (.Constant (.str i) j pos) (tI X.K E (mC (.str i))) := de_c pe_str fun _ => dv_str.mpr rfl
theorem de_op {op : Operator} {r : D → D → Mh → DK → Prop} (ho : OpR X (binaryOp op) (rL2 X.K r)) (ha : PE X a (tI X.K E ma)) (hb : PE X b (tI X.K E mb)) : PE X (.BinOp a op b pos) (tI X.K E (mOp r ma mb)) :=
  pe_le (pe_op ho ha hb) fun _ _ _ h => tI_op h
theorem de_un {op : UnaryOp} {r : D → Mh → DK → Prop} (ho : UnR X (unaryOp op) (rL1 X.K r)) (ha : PE X a (tI X.K E ma)) : PE X (.UnaryOp op a pos) (tI X.K E (mUn r ma)) :=
  pe_le (pe_un ho ha) fun _ _ _ h => tI_un h
theorem de_cmp {op : CmpOp} {r : D → D → Mh → DK → Prop} (ho : OpR X (compareOp op) (rL2 X.K r)) (ha : PE X a (tI X.K E ma)) (hb : PE X b (tI X.K E mb)) (hm : behindInMarks op b = false) : PE X (.Compare a [op] [b] pos) (tI X.K E (mOp r ma mb)) :=
  pe_le (pe_cmpR ho ha hb hm) fun _ _ _ h => tI_op h
/-- a test by its value, a bool -/
theorem tT_test {m : ME} {σ : St} {H : Hp} {Q : Bool → Hp → Prop} (h : tT X.K E (mTest m) σ H Q) : tI X.K E m σ H fun x H1 => ∃ c, x = .bl c ∧ Q c H1 := by
  obtain ⟨M, S, Γ, k, kx, hr, er, hm, kv, kxx⟩ := h
  refine ⟨M, S, Γ, _, kx, hr, er, hm, fun x M1 q1 H1 v1 r1 e1 d1 => ?_, kxx⟩
  obtain ⟨c, rfl, q⟩ := q1
  exact ⟨c, dv_bl.mp d1, kv c M1 q H1 r1 e1⟩
theorem dt_cmp {op : CmpOp} {r : D → D → Mh → DK → Prop} (ho : OpR X (compareOp op) (rL2 X.K r)) (ha : PE X a (tI X.K E ma)) (hb : PE X b (tI X.K E mb)) (hm : behindInMarks op b = false) : PT X (.Compare a [op] [b] pos) (tT X.K E (mTest (mOp r ma mb))) :=
  pt_le (pt_cmpR ho ha hb hm) fun _ _ _ h => tI_op (tT_test h)
theorem dt_val (ha : PE X a (tI X.K E ma)) (he : ∀ whole, isTrue a X.env whole = (do let v ← whole; standAt a.pos; holding [v] (truthy v)) := by intro _; rfl) : PT X a (tT X.K E (mTest ma)) :=
  pt_le (pt_val ha he) fun _ _ _ h => tT_test h
theorem dt_not (ha : PT X a (tT X.K E mt)) : PT X (.UnaryOp .Not a pos) (tT X.K E (mNot mt)) :=
  pt_le (pt_not ha) fun _ _ _ ⟨M, S, Γ, k, kx, hr, er, hm, kv, kxx⟩ => ⟨M, S, Γ, _, kx, hr, er, hm, fun b M1 q H1 r1 e1 => kv _ M1 q H1 r1 e1, kxx⟩
theorem pw_le {X : Cx} {e : Expr} {t t' : TT} (h : PW X e t) (i : ∀ σ H Q, t' σ H Q → t σ H Q) : PW X e t' := ⟨fun wh pins s σ H Q I q => h.run wh pins s σ H Q I (i σ H Q q)⟩
theorem dw_and1 (ha : PT X a (tT X.K E mt)) : PW X (.BoolOp .And [a] pos) (tT X.K E mt) := pw_and1 ha
theorem dw_or1 (ha : PT X a (tT X.K E mt)) : PW X (.BoolOp .Or [a] pos) (tT X.K E mt) := pw_or1 ha
theorem dw_and (ha : PT X a (tT X.K E mt)) (hb : PW X (.BoolOp .And (b :: rest) pos) (tT X.K E mt')) : PW X (.BoolOp .And (a :: b :: rest) pos) (tT X.K E (mAnd mt mt')) := by
  refine pw_le (pw_and ha hb) fun σ H Q ⟨M, S, Γ, k, kx, hr, er, hm, kv, kxx⟩ => ?_
  refine ⟨M, S, Γ, _, kx, hr, er, hm, fun c M1 q1 H1 r1 e1 => ?_, kxx⟩
  cases c with
  | true => exact ⟨M1, S, Γ, k, kx, r1, er.mono e1, q1, kv.ex e1, kxx.ex e1⟩
  | false => exact kv _ M1 q1 H1 r1 e1
theorem dw_or (ha : PT X a (tT X.K E mt)) (hb : PW X (.BoolOp .Or (b :: rest) pos) (tT X.K E mt')) : PW X (.BoolOp .Or (a :: b :: rest) pos) (tT X.K E (mOr mt mt')) := by
  refine pw_le (pw_or ha hb) fun σ H Q ⟨M, S, Γ, k, kx, hr, er, hm, kv, kxx⟩ => ?_
  refine ⟨M, S, Γ, _, kx, hr, er, hm, fun c M1 q1 H1 r1 e1 => ?_, kxx⟩
  cases c with
  | true => exact kv _ M1 q1 H1 r1 e1
  | false => exact ⟨M1, S, Γ, k, kx, r1, er.mono e1, q1, kv.ex e1, kxx.ex e1⟩
theorem de_one {op} (h : PE X a (tI X.K E ma)) : PE X (.BoolOp op [a] pos) (tI X.K E ma) := pe_one h
theorem de_and (ha : PE X a (tI X.K E ma)) (hb : PE X (.BoolOp .And (b :: rest) pos) (tI X.K E mb)) : PE X (.BoolOp .And (a :: b :: rest) pos) (tI X.K E (mAndV ma mb)) := by
  refine pe_le (pe_and ha hb) fun σ H Q ⟨M, S, Γ, k, kx, hr, er, hm, kv, kxx⟩ => ?_
  refine ⟨M, S, Γ, _, kx, hr, er, hm, fun x M1 ⟨c, ex, q1⟩ H1 v1 r1 e1 d1 => ?_, kxx⟩
  subst ex
  refine ⟨c, dv_bl.mp d1, ?_⟩
  cases c with
  | true => exact ⟨M1, S, Γ, k, kx, r1, er.mono e1, q1, kv.ex e1, kxx.ex e1⟩
  | false => exact kv _ M1 q1 H1 _ r1 e1 (dv_bl.mpr rfl)
theorem de_or (ha : PE X a (tI X.K E ma)) (hb : PE X (.BoolOp .Or (b :: rest) pos) (tI X.K E mb)) : PE X (.BoolOp .Or (a :: b :: rest) pos) (tI X.K E (mOrV ma mb)) := by
  refine pe_le (pe_or ha hb) fun σ H Q ⟨M, S, Γ, k, kx, hr, er, hm, kv, kxx⟩ => ?_
  refine ⟨M, S, Γ, _, kx, hr, er, hm, fun x M1 ⟨c, ex, q1⟩ H1 v1 r1 e1 d1 => ?_, kxx⟩
  subst ex
  refine ⟨c, dv_bl.mp d1, ?_⟩
  cases c with
  | true => exact kv _ M1 q1 H1 _ r1 e1 (dv_bl.mpr rfl)
  | false => exact ⟨M1, S, Γ, k, kx, r1, er.mono e1, q1, kv.ex e1, kxx.ex e1⟩
theorem de_not (ha : PE X a (tI X.K E ma)) : PE X (.UnaryOp .Not a pos) (tI X.K E (mNotV ma)) := by
  refine pe_le (pe_not ha) fun σ H Q ⟨M, S, Γ, k, kx, hr, er, hm, kv, kxx⟩ => ?_
  refine ⟨M, S, Γ, _, kx, hr, er, hm, fun x M1 ⟨c, ex, q1⟩ H1 v1 r1 e1 d1 => ?_, kxx⟩
  subst ex
  exact ⟨c, dv_bl.mp d1, kv _ M1 q1 H1 _ r1 e1 (dv_bl.mpr rfl)⟩
theorem de_if (hc : PT X c (tT X.K E mt)) (ha : PE X a (tI X.K E ma)) (hb : PE X b (tI X.K E mb)) : PE X (.IfExp c a b pos) (tI X.K E (mIf mt ma mb)) := by
  refine pe_le (pe_ifExp hc ha hb) fun σ H Q ⟨M, S, Γ, k, kx, hr, er, hm, kv, kxx⟩ => ?_
  refine ⟨M, S, Γ, _, kx, hr, er, hm, fun c M1 q1 H1 r1 e1 => ?_, kxx⟩
  cases c with
  | true => exact ⟨M1, S, Γ, k, kx, r1, er.mono e1, q1, kv.ex e1, kxx.ex e1⟩
  | false => exact ⟨M1, S, Γ, k, kx, r1, er.mono e1, q1, kv.ex e1, kxx.ex e1⟩
theorem tI_chain {r r' : D → D → Mh → DK → Prop} {σ : St} {H : Hp} {Q : VK} (h : tI X.K E (mChain r r' ma mb mc) σ H Q) : tChain (rL2 X.K r) (rL2 X.K r') (tI X.K E ma) (tI X.K E mb) (tI X.K E mc) σ H Q := by
  obtain ⟨M, S, Γ, k, kx, hr, er, hm, kv, kxx⟩ := h
  refine ⟨M, S, Γ, _, kx, hr, er, hm, fun x M1 q1 H1 v1 r1 e1 d1 => ?_, kxx⟩
  refine ⟨M1, S, Γ, _, kx, r1, er.mono e1, q1, fun y M2 q2 H2 v2 r2 e2 d2 => ?_, kxx.ex e1⟩
  refine ⟨M2, S, x, y, _, r2, d1.mono e2 _, d2, q2, fun z M3 ⟨c, ez, q3⟩ H3 v3 r3 e3 d3 => ?_⟩
  subst ez
  refine ⟨c, dv_bl.mp d3, ?_⟩
  have e13 := (e1.trans e2).trans e3
  cases c with
  | true =>
    refine ⟨M3, S, Γ, _, kx, r3, er.mono e13, q3, fun w M4 q4 H4 v4 r4 e4 d4 => ?_, kxx.ex e13⟩
    exact ⟨M4, S, y, w, k, r4, d2.mono (e3.trans e4) _, d4, q4, kv.ex (e13.trans e4)⟩
  | false => exact kv _ M3 q3 H3 _ r3 e13 (dv_bl.mpr rfl)
theorem de_chain {op op' : CmpOp} {r r' : D → D → Mh → DK → Prop} (ho : OpR X (compareOp op) (rL2 X.K r)) (ho' : OpR X (compareOp op') (rL2 X.K r')) (ha : PE X a (tI X.K E ma)) (hb : PE X b (tI X.K E mb)) (hc : PE X c (tI X.K E mc))
    (hm : lastMarks [op, op'] [b, c] = false := by with_unfolding_all rfl) : PE X (.Compare a [op, op'] [b, c] pos) (tI X.K E (mChain r r' ma mb mc)) := pe_le (pe_chain ho ho' ha hb hc hm) fun _ _ _ h => tI_chain h
theorem dt_chain {op op' : CmpOp} {r r' : D → D → Mh → DK → Prop} (ho : OpR X (compareOp op) (rL2 X.K r)) (ho' : OpR X (compareOp op') (rL2 X.K r')) (ha : PE X a (tI X.K E ma)) (hb : PE X b (tI X.K E mb)) (hc : PE X c (tI X.K E mc))
    (hm : lastMarks [op, op'] [b, c] = false := by with_unfolding_all rfl) : PT X (.Compare a [op, op'] [b, c] pos) (tT X.K E (mTest (mChain r r' ma mb mc))) := pt_le (pt_chain ho ho' ha hb hc hm) fun _ _ _ h => tI_chain (tT_test h)

/-! arguments, displays -/
variable {es : List Expr} {mA : MA} {e : Expr}
theorem da_nil : PA X [] (tA X.K E mNil) := pa_le pa_nil fun σ H Q ⟨M, S, Γ, k, kx, hr, er, hm, kv, kxx⟩ => kv [] M hm H [] hr (Ex.refl _) (dvs_nil.mpr rfl)
theorem da_cons (ha : PE X e (tI X.K E ma)) (hr : PA X es (tA X.K E mA)) (hs : starEach (e :: es) X.env = (false, eval e X.env) :: starEach es X.env := by rfl) : PA X (e :: es) (tA X.K E (mCons ma mA)) :=
  pa_le (pa_cons ha hr hs) fun _ _ _ h => tA_cons h
theorem de_tup {x1} (h : PA X es (tA X.K E mA)) : PE X (.Tuple es x1 pos) (tI X.K E (mTup mA)) := by
  refine pe_le (pe_tup h) fun σ H Q ⟨M, S, Γ, k, kx, hr, er, hm, kv, kxx⟩ => ?_
  refine ⟨M, S, Γ, _, kx, hr, er, hm, fun ds M1 q1 H1 vs r1 e1 d1 => ?_, kxx⟩
  refine ⟨by rw [← d1.length]; exact q1.1, fun p hp => ?_⟩
  obtain ⟨h1, h2, h3⟩ := new_tup r1 hp d1
  exact kv _ M1 q1.2 _ _ h1 (e1.trans h2) h3
theorem de_lst (h : PA X es (tA X.K E mA)) : PE X (.List es pos) (tI X.K E (mLst mA)) := by
  refine pe_le (pe_lst h) fun σ H Q ⟨M, S, Γ, k, kx, hr, er, hm, kv, kxx⟩ => ?_
  refine ⟨M, S, Γ, _, kx, hr, er, hm, fun ds M1 q1 H1 vs r1 e1 d1 => ?_, kxx⟩
  refine ⟨by rw [← d1.length]; exact q1.1, fun p hp => ?_⟩
  obtain ⟨h1, h2, h3⟩ := new_lst r1 hp d1
  exact kv _ M1 q1.2 _ _ h1 (e1.trans h2) h3
theorem de_lstM (h : PA X es (tA X.K E mA)) : PE X (.List es pos) (tI X.K E (mLstM mA)) := by
  refine pe_le (pe_lst h) fun σ H Q ⟨M, S, Γ, k, kx, hr, er, hm, kv, kxx⟩ => ?_
  refine ⟨M, S, Γ, _, kx, hr, er, hm, fun ds M1 q1 H1 vs r1 e1 d1 => ?_, kxx⟩
  refine ⟨by rw [← d1.length]; exact q1.1, fun p hp => ?_⟩
  refine kv _ _ (q1.2 p (r1.freeM hp)) _ _ (r1.put (.inr hp) ⟨vs, rfl, d1⟩) ?_ (dv_ref.mpr rfl)
  rw [hid_set _ _ _ _ _ _ (.inr hp)]
  exact e1
/-! subscripts, slices -/
theorem de_ix {r : D → D → Mh → DK → Prop} (hr : IxR X (rL2 X.K r)) (ha : PE X a (tI X.K E ma)) (hb : PE X b (tI X.K E mb)) (hs : PlainIx b) : PE X (.Subscript a b pos) (tI X.K E (mOp r ma mb)) :=
  pe_le (pe_ix hr ha hb hs) fun _ _ _ h => tI_op h
abbrev tP (K : PySem.W.Frag) (E : XK) (m : MP) : TO := fun σ H Q => ∃ M S Γ k kx, R K M S H ∧ EnvR K (hid M S H) Γ σ ∧ m Γ M k kx ∧ (∀ o M', k o M' → ∀ H', R K M' S H' → Ex (hid M S H) (hid M' S H') → Q o H') ∧ KeepX K S (hid M S H) kx E
theorem po_le {X : Cx} {e : Option Expr} {t t' : TO} (h : PO X e t) (i : ∀ σ H Q, t' σ H Q → t σ H Q) : PO X e t' := ⟨fun pins s σ H Q I q => h.run pins s σ H Q I (i σ H Q q)⟩
theorem dp_none : PO X none (tP X.K E mNoPart) := po_le po_none fun σ H Q ⟨M, S, Γ, k, kx, hr, er, hm, kv, kxx⟩ => kv none M hm H hr (Ex.refl _)
theorem dp_some (h : PE X a (tI X.K E ma)) : PO X (some a) (tP X.K E (mPart ma)) := po_le (po_some h) fun σ H Q ⟨M, S, Γ, k, kx, hr, er, hm, kv, kxx⟩ =>
  ⟨M, S, Γ, _, kx, hr, er, hm, fun x M1 ⟨i, ex, q1⟩ H1 v1 r1 e1 d1 => ⟨i, by subst ex; exact dv_int.mp d1, kv _ M1 q1 H1 r1 e1⟩, kxx⟩
theorem de_slice {r : D → Option Int → Option Int → Mh → DK → Prop} {lo hi : Option Expr} {ml mh : MP} {p2 : Pos}
    (hr : SlR X (fun x l u H Q => ∃ M S d k, R X.K M S H ∧ DV X.K (hid M S H) d x ∧ r d l u M k ∧ KeepV X.K S (hid M S H) k Q)) (he : PE X a (tI X.K E ma)) (hl : PO X lo (tP X.K E ml)) (hu : PO X hi (tP X.K E mh)) :
    PE X (.Subscript a (.Slice lo hi none p2) pos) (tI X.K E (mSl r ma ml mh)) := by
  refine pe_le (pe_slice hr he hl hu) fun σ H Q ⟨M, S, Γ, k, kx, hr, er, hm, kv, kxx⟩ => ?_
  refine ⟨M, S, Γ, _, kx, hr, er, hm, fun x M1 q1 H1 v1 r1 e1 d1 => ?_, kxx⟩
  refine ⟨M1, S, Γ, _, kx, r1, er.mono e1, q1, fun l M2 q2 H2 r2 e2 => ?_, kxx.ex e1⟩
  refine ⟨M2, S, Γ, _, kx, r2, er.mono (e1.trans e2), q2, fun u M3 q3 H3 r3 e3 => ?_, kxx.ex (e1.trans e2)⟩
  exact ⟨M3, S, x, k, r3, d1.mono (e2.trans e3) _, q3, kv.ex ((e1.trans e2).trans e3)⟩
/-! calls -/
variable {x : Str} {p : Pos}
theorem de_callB {id : String} {r : List D → Mh → DK → Prop} (hc : CallR X (.builtin id) (rLc X.K r)) (hg : Gl X x) (hm : X.mg x = none) (hv : bootBuiltins x = some (.builtin id)) (ha : PA X (e :: es) (tA X.K E mA)) (hn : x ≠ "__name__" := by decide) (hdb : (x == ("__debug__" : Str)) = false := by decide)
    (he : starEach (e :: es) X.env = (false, eval e X.env) :: starEach es X.env := by rfl) (hpl : (backTo pos (starEach es X.env)).any (·.1) = false := by rfl) : PE X (.Call (.Name x p) (e :: es) [] pos) (tI X.K E (mCB r mA)) :=
  pe_le (pe_callB hc hg hm hv ha hn hdb he hpl) fun _ _ _ h => tI_cb h
theorem de_callTy {T : String} {r : List D → Mh → DK → Prop} (hc : CallR X (.type T) (rLc X.K r)) (hg : Gl X x) (hm : X.mg x = none) (hv : bootBuiltins x = some (.type T)) (ha : PA X (e :: es) (tA X.K E mA)) (hn : x ≠ "__name__" := by decide) (hdb : (x == ("__debug__" : Str)) = false := by decide)
    (he : starEach (e :: es) X.env = (false, eval e X.env) :: starEach es X.env := by rfl) (hpl : (backTo pos (starEach es X.env)).any (·.1) = false := by rfl) : PE X (.Call (.Name x p) (e :: es) [] pos) (tI X.K E (mCB r mA)) :=
  pe_le (pe_callTy hc hg hm hv ha hn hdb he hpl) fun _ _ _ h => tI_cb h
theorem de_call {CX : CXT} {k : Nat} {f : Addr} {fd : FuncData} {ps : List Str} {m : MF} (F : FnOk X.prog X.w X.K X.mg X.base CX k f fd ps (spI X.K m)) (hr : Room k X.A) (hg : Gl X x) (hm : X.mg x = some (.ref f)) (hk : PySem.W.keepIn X.K (.ref f) = true) (hb : Binds X.K fd ps []) (hx : Passes CX X E)
    (ha : PA X (e :: es) (tA X.K E mA)) (hdb : (x == ("__debug__" : Str)) = false := by decide) (he : starEach (e :: es) X.env = (false, eval e X.env) :: starEach es X.env := by rfl) (hpl : (backTo pos (starEach es X.env)).any (·.1) = false := by rfl) :
    PE X (.Call (.Name x p) (e :: es) [] pos) (tI X.K E (mCall m mA)) := pe_le (pe_call F hr hg hm hk hb .nil hx ha hdb he hpl) fun _ _ _ h => tI_call h
end
end DL
namespace DL
open PySem L2
section
variable {X : Cx}
/-! ### arithmetic, + of texts, lists, tuples -/
def dAdd (d e : D) (M : Mh) (k : DK) : Prop := match d, e with
  | .int i, .int j => k (.int (i + j)) M
  | .str s, .str t => s.length + t.length ≤ sizeLine ∧ k (.str (s ++ t)) M
  | .tup xs, .tup ys => xs.length + ys.length ≤ sizeLine ∧ k (.tup (xs ++ ys)) M
  | d, e => ∃ xs ys, lsOf M d = some xs ∧ lsOf M e = some ys ∧ xs.length + ys.length ≤ sizeLine ∧ k (.lst (xs ++ ys)) M
theorem do_add : OpR X (binaryOp .Add) (rL2 X.K dAdd) := by
  refine OpR.sub (op_add.or (op_add_str.or (op_catA.or op_cat))) fun x y H Q ⟨M, S, d, e, k, r, hd, he, h, kv⟩ => ?_
  unfold dAdd at h
  split at h
  · exact .inl ⟨_, _, dv_int.mp hd, dv_int.mp he, kv.now r h (dv_int.mpr rfl)⟩
  · exact .inr (.inl ⟨_, _, dv_str.mp hd, dv_str.mp he, h.1, kv.now r h.2 (dv_str.mpr rfl)⟩)
  · rename_i xs ys
    obtain ⟨a, vs, rfl, h1, h2⟩ := tp_sq hd
    obtain ⟨b, us, rfl, g1, g2⟩ := tp_sq he
    refine .inr (.inr (.inl ⟨a, b, vs, us, rfl, rfl, h1, g1, by rw [← h2.length, ← g2.length]; exact h.1, fun e => ?_, fun _ e => ?_, fun _ _ p hp => ?_⟩))
    · subst e
      have : xs = [] := List.eq_nil_of_length_eq_zero h2.length
      subst this
      exact kv.now r h.2 he
    · subst e
      have : ys = [] := List.eq_nil_of_length_eq_zero g2.length
      subst this
      rw [List.append_nil] at h
      exact kv.now r h.2 hd
    · obtain ⟨q1, q2, q3⟩ := new_tup r hp (h2.append g2)
      exact kv _ M h.2 _ _ q1 q2 q3
  · obtain ⟨xs, ys, e1, e2, hz, h⟩ := h
    obtain ⟨a, vs, rfl, h1, h2⟩ := ls_sq r hd e1
    obtain ⟨b, us, rfl, g1, g2⟩ := ls_sq r he e2
    refine .inr (.inr (.inr ⟨a, b, vs, us, rfl, rfl, h1, g1, by rw [← h2.length, ← g2.length]; exact hz, fun p hp => ?_⟩))
    obtain ⟨q1, q2, q3⟩ := new_lst r hp (h2.append g2)
    exact kv _ M h _ _ q1 q2 q3
/-- ints alone -/
def dI2 (C : Int → Int → Prop) (g : Int → Int → D) (d e : D) (M : Mh) (k : DK) : Prop := ∃ i j, d = .int i ∧ e = .int j ∧ C i j ∧ k (g i j) M
theorem do_I {f : Value → Value → Sem Value} {C : Int → Int → Prop} {g : Int → Int → V} {g' : Int → Int → D} (h : OpR X f (rI C g)) (hg : ∀ F i j, DV X.K F (g' i j) (g i j)) : OpR X f (rL2 X.K (dI2 C g')) :=
  OpR.sub h fun x y H Q ⟨M, S, d, e, k, r, hd, he, ⟨i, j, e1, e2, hc, q⟩, kv⟩ => by
    subst e1 e2
    exact ⟨i, j, dv_int.mp hd, dv_int.mp he, hc, kv.now r q (hg _ i j)⟩
theorem do_I0 {f : Value → Value → Sem Value} {g : Int → Int → V} {g' : Int → Int → D} (h : OpR X f (rI0 g)) (hg : ∀ F i j, DV X.K F (g' i j) (g i j)) : OpR X f (rL2 X.K (dI2 (fun _ _ => True) g')) :=
  OpR.sub h fun x y H Q ⟨M, S, d, e, k, r, hd, he, ⟨i, j, e1, e2, hc, q⟩, kv⟩ => by
    subst e1 e2
    exact ⟨i, j, dv_int.mp hd, dv_int.mp he, kv.now r q (hg _ i j)⟩
abbrev dSub := dI2 (fun _ _ => True) fun i j => .int (i - j)
theorem do_sub : OpR X (binaryOp .Sub) (rL2 X.K dSub) := do_I0 op_sub fun _ _ _ => dv_int.mpr rfl
abbrev dMod := dI2 (fun _ j => 0 < j) fun i j => .int (i % j)
theorem do_mod : OpR X (binaryOp .Mod) (rL2 X.K dMod) := do_I op_mod fun _ _ _ => dv_int.mpr rfl
abbrev dDiv := dI2 CDiv fun i j => .int (i / j)
theorem do_div : OpR X (binaryOp .FloorDiv) (rL2 X.K dDiv) := do_I op_fdiv fun _ _ _ => dv_int.mpr rfl
abbrev dPow := dI2 CPow fun i j => .int (i ^ j.toNat)
theorem do_pow : OpR X (binaryOp .Pow) (rL2 X.K dPow) := do_I op_pow fun _ _ _ => dv_int.mpr rfl
abbrev dLt := dI2 (fun _ _ => True) fun i j => .bl (decide (i < j))
theorem do_lt : OpR X (compareOp .Lt) (rL2 X.K dLt) := do_I0 op_lt fun _ _ _ => dv_bl.mpr rfl
abbrev dLe := dI2 (fun _ _ => True) fun i j => .bl (decide (i ≤ j))
theorem do_le : OpR X (compareOp .LtE) (rL2 X.K dLe) := do_I0 op_le fun _ _ _ => dv_bl.mpr rfl
abbrev dGt := dI2 (fun _ _ => True) fun i j => .bl (decide (j < i))
theorem do_gt : OpR X (compareOp .Gt) (rL2 X.K dGt) := do_I0 op_gt fun _ _ _ => dv_bl.mpr rfl
abbrev dGe := dI2 (fun _ _ => True) fun i j => .bl (decide (j ≤ i))
theorem do_ge : OpR X (compareOp .GtE) (rL2 X.K dGe) := do_I0 op_ge fun _ _ _ => dv_bl.mpr rfl
/-- text * int -/
def repS (s : Str) (n : Int) : Str := ⟨(List.replicate n.toNat s.cps).foldl (· ++ ·) #[]⟩
theorem rep_size (a : Array Nat) : ∀ (n : Nat) (b : Array Nat), ((List.replicate n a).foldl (· ++ ·) b).size = b.size + n * a.size
  | 0, b => by simp
  | n + 1, b => by
    rw [List.replicate_succ, List.foldl_cons, rep_size a n, Array.size_append, Nat.succ_mul]
    omega
theorem op_mul_str : OpR X (binaryOp .Mult) (fun x y H Q => ∃ z j, x = .str z ∧ y = .int j ∧ 1 < j ∧ j < 1000 ∧ 0 < z.length ∧ z.length ≤ 1000 ∧ Q (.str (repS z j)) H) := by
  intro pins s σ H x y v u Q I rx ry h
  obtain ⟨z, j, rfl, rfl, h1, h2, h3, h4, q⟩ := h
  obtain ⟨t, rfl⟩ := rx
  obtain ⟨t', rfl⟩ := ry
  have hn1 : ¬ j < 1 := by omega
  have hne : (j == 1 || z.length == 0) = false := by
    rw [Bool.or_eq_false_iff]
    exact ⟨beq_eq_false_iff_ne.mpr (by omega), beq_eq_false_iff_ne.mpr (by omega)⟩
  have hl : z.length * j.toNat ≤ 1000 * 1000 := Nat.mul_le_mul h4 (by omega)
  have hsz : PySem.Builtin.Str.tooLong (z.length * j.toNat) = false := by
    unfold PySem.Builtin.Str.tooLong
    have : sizeLine = 16777216 := rfl
    simp only [decide_eq_false_iff_not]
    omega
  refine PySem.P.mul_str ?_ (fun _ _ => ?_) (fun _ _ => hsz) ?_
  · rw [Bool.or_eq_false_iff]
    exact ⟨decide_eq_false (by omega), decide_eq_false (by omega)⟩
  · have : (2 ^ 63 - 1 : Int) / j ≥ 1000 := by
      refine (Int.le_ediv_iff_mul_le (by omega)).mpr ?_
      omega
    omega
  · rw [if_neg hn1, if_neg (by rw [hne]; decide)]
    refine ⟨?_, ⟨.str (repS z j), H, I.tok _, ⟨_, rfl⟩, q⟩⟩
    have e : (⟨(List.replicate j.toNat z.cps).foldl (· ++ ·) #[]⟩ : Str).length = z.length * j.toNat := by
      show ((List.replicate j.toNat z.cps).foldl (· ++ ·) #[]).size = z.cps.size * j.toNat
      rw [rep_size]
      simp [Nat.mul_comm]
    rw [e]
    have : sizeLine = 16777216 := rfl
    omega
def dMul (d e : D) (M : Mh) (k : DK) : Prop := match d, e with
  | .int i, .int j => CMul i j ∧ k (.int (i * j)) M
  | .str z, .int j => 1 < j ∧ j < 1000 ∧ 0 < z.length ∧ z.length ≤ 1000 ∧ k (.str (repS z j)) M
  | d, e => ∃ xs j, lsOf M d = some xs ∧ e = .int j ∧ -(2 ^ 63) ≤ j ∧ j < 2 ^ 63 ∧ xs.length * j.toNat ≤ sizeLine ∧ k (.lst (List.replicate j.toNat xs).flatten) M
theorem DVs.rep {K : PySem.W.Frag} {F : Hp} {ds : List D} {vs : List V} (h : DVs K F ds vs) : ∀ n : Nat, DVs K F (List.replicate n ds).flatten (List.replicate n vs).flatten
  | 0 => dvs_nil.mpr rfl
  | n + 1 => by
    rw [List.replicate_succ, List.replicate_succ, List.flatten_cons, List.flatten_cons]
    exact h.append (DVs.rep h n)
theorem do_mul : OpR X (binaryOp .Mult) (rL2 X.K dMul) := by
  refine OpR.sub (op_mul.or (op_mul_str.or op_rep)) fun x y H Q ⟨M, S, d, e, k, r, hd, he, h, kv⟩ => ?_
  unfold dMul at h
  split at h
  · exact .inl ⟨_, _, dv_int.mp hd, dv_int.mp he, h.1, kv.now r h.2 (dv_int.mpr rfl)⟩
  · exact .inr (.inl ⟨_, _, dv_str.mp hd, dv_int.mp he, h.1, h.2.1, h.2.2.1, h.2.2.2.1, kv.now r h.2.2.2.2 (dv_str.mpr rfl)⟩)
  · obtain ⟨xs, j, e1, rfl, h1, h2, h3, h⟩ := h
    obtain ⟨a, vs, rfl, g1, g2⟩ := ls_sq r hd e1
    refine .inr (.inr ⟨a, j, vs, rfl, dv_int.mp he, g1, h1, h2, by rw [← g2.length]; exact h3, fun p hp => ?_⟩)
    obtain ⟨q1, q2, q3⟩ := new_lst r hp (g2.rep j.toNat)
    exact kv _ M h _ _ q1 q2 q3
abbrev dNeg (d : D) (M : Mh) (k : DK) : Prop := ∃ i, d = .int i ∧ k (.int (-i)) M
theorem du_neg : UnR X (unaryOp .USub) (rL1 X.K dNeg) := fun pins s σ H x v Q I rx ⟨M, S, d, k, r, hd, ⟨i, e, q⟩, kv⟩ =>
  un_neg pins s σ H x v Q I rx ⟨i, by subst e; exact dv_int.mp hd, kv.now r q (dv_int.mpr rfl)⟩

/-! ### == and != -/
mutual
def toPy : D → Option PyData
  | .non => some .none
  | .bl b => some (.bool b)
  | .int i => some (.int i)
  | .str s => some (.str s)
  | .tup ds => (toPys ds).map .tuple
  | .lst ds => (toPys ds).map .list
  | .ref _ => none
  | .ty _ => none
  | .scr _ => none
  | .exc _ _ _ _ => none
def toPys : List D → Option (List PyData)
  | [] => some []
  | d :: ds => match toPy d, toPys ds with
    | some x, some xs => some (x :: xs)
    | _, _ => none
end
mutual
theorem dp_of {K : PySem.W.Frag} {F H : Hp} (e : Ex F H) : ∀ (d : D) {v : V} {x : PyData}, DV K F d v → toPy d = some x → Dp K H v x
  | .non, _, _, h, q => by rw [dv_non] at h; subst h; cases q; exact .non
  | .bl _, _, _, h, q => by rw [dv_bl] at h; subst h; cases q; exact .bl _
  | .int _, _, _, h, q => by rw [dv_int] at h; subst h; cases q; exact .int _
  | .str _, _, _, h, q => by rw [dv_str] at h; subst h; cases q; exact .str _
  | .ref _, _, _, _, q => by cases q
  | .ty _, _, _, _, q => by cases q
  | .scr _, _, _, _, q => by cases q
  | .exc _ _ _ _, _, _, _, q => by cases q
  | .tup ds, _, _, h, q => by
    obtain ⟨a, vs, rfl, h2, h3⟩ := dv_tup.mp h
    rw [toPy] at q
    cases e1 : toPys ds with
    | none => rw [e1] at q; cases q
    | some xs =>
      rw [e1] at q
      cases q
      exact .tup (e.sqT h2) (dps_of e ds h3 e1)
  | .lst ds, _, _, h, q => by
    obtain ⟨a, vs, rfl, h2, h3⟩ := dv_lst.mp h
    rw [toPy] at q
    cases e1 : toPys ds with
    | none => rw [e1] at q; cases q
    | some xs =>
      rw [e1] at q
      cases q
      exact .lst (SqL.of (e _ _ h2)) (dps_of e ds h3 e1)
theorem dps_of {K : PySem.W.Frag} {F H : Hp} (e : Ex F H) : ∀ (ds : List D) {vs : List V} {xs : List PyData}, DVs K F ds vs → toPys ds = some xs → DpAll K H vs xs
  | [], _, _, h, q => by rw [dvs_nil] at h; subst h; rw [toPys] at q; cases q; exact .nil
  | d :: ds, _, _, h, q => by
    obtain ⟨v, r, rfl, h2, h3⟩ := dvs_cons.mp h
    rw [toPys] at q
    cases e1 : toPy d with
    | none => rw [e1] at q; cases q
    | some x =>
      cases e2 : toPys ds with
      | none => rw [e1, e2] at q; cases q
      | some xs =>
        rw [e1, e2] at q
        cases q
        exact .cons (dp_of e d h2 e1) (dps_of e ds h3 e2)
end
/-- plain things, told apart at once -/
def eqS : D → D → Option Bool
  | .str a, .str b => some (decide (a = b))
  | .int a, .int b => some (decide (a = b))
  | .bl a, .bl b => some (decide (a = b))
  | .non, .non => some true
  | .non, .str _ => some false | .str _, .non => some false
  | .non, .int _ => some false | .int _, .non => some false
  | .non, .bl _ => some false | .bl _, .non => some false
  | .int _, .str _ => some false | .str _, .int _ => some false
  | .bl _, .str _ => some false | .str _, .bl _ => some false
  | _, _ => none
def Deep (d : D) (x : PyData) : Prop := toPy d = some x ∧ SeqAt.shaped x = true
def dEqB (neg : Bool) (d e : D) (M : Mh) (k : DK) : Prop := match eqS d e with
  | some b => k (.bl (if neg then !b else b)) M
  | none => ∃ x y, Deep d x ∧ Deep e y ∧ k (.bl (if neg then !(PyData.eqv x y) else PyData.eqv x y)) M
abbrev dEq := dEqB false
abbrev dNe := dEqB true
theorem eqS_of {K : PySem.W.Frag} {F : Hp} {d e : D} {x y : V} {b : Bool} (hd : DV K F d x) (he : DV K F e y) (h : eqS d e = some b) : scal x y = true ∧ decide (x = y) = b := by
  cases d <;> cases e <;> first
    | (cases h; done)
    | (rw [eqS] at h; cases h; simp only [dv_non, dv_bl, dv_int, dv_str] at hd he; subst hd he; exact ⟨rfl, by simp⟩)
theorem do_eq (hu : X.A.units + 64 < cLine) : OpR X (compareOp .Eq) (rL2 X.K dEq) := by
  refine OpR.sub (op_eq.or (op_eqD hu)) fun x y H Q ⟨M, S, d, e, k, r, hd, he, h, kv⟩ => ?_
  unfold dEq dEqB at h
  split at h
  · rename_i b q
    obtain ⟨h1, h2⟩ := eqS_of hd he q
    exact .inl ⟨h1, by rw [h2]; exact kv.now r h (dv_bl.mpr rfl)⟩
  · obtain ⟨u, w, ⟨h1, h2⟩, ⟨h3, h4⟩, h⟩ := h
    exact .inr ⟨u, w, dp_of (hid_le _ _ _) d hd h1, dp_of (hid_le _ _ _) e he h3, h2, h4, kv.now r h (dv_bl.mpr rfl)⟩
theorem do_ne (hu : X.A.units + 64 < cLine) : OpR X (compareOp .NotEq) (rL2 X.K dNe) := by
  refine OpR.sub (op_ne.or (op_neD hu)) fun x y H Q ⟨M, S, d, e, k, r, hd, he, h, kv⟩ => ?_
  unfold dNe dEqB at h
  split at h
  · rename_i b q
    obtain ⟨h1, h2⟩ := eqS_of hd he q
    exact .inl ⟨h1, by rw [h2]; exact kv.now r h (dv_bl.mpr rfl)⟩
  · obtain ⟨u, w, ⟨h1, h2⟩, ⟨h3, h4⟩, h⟩ := h
    exact .inr ⟨u, w, dp_of (hid_le _ _ _) d hd h1, dp_of (hid_le _ _ _) e he h3, h2, h4, kv.now r h (dv_bl.mpr rfl)⟩
/-! ### is -/
def isNon : D → Bool
  | .non => true
  | _ => false
def dIsB (neg : Bool) (d e : D) (M : Mh) (k : DK) : Prop := match e with
  | .non => k (.bl (if neg then !isNon d else isNon d)) M
  | .bl b => ∃ a, d = .bl a ∧ k (.bl (if neg then !decide (a = b) else decide (a = b))) M
  | _ => False
abbrev dIs := dIsB false
abbrev dIsNot := dIsB true
theorem non_iff {K : PySem.W.Frag} {F : Hp} {d : D} {x : V} (h : DV K F d x) : decide (x = .non) = isNon d := by
  cases d with
  | tup ds => obtain ⟨a, vs, rfl, _⟩ := dv_tup.mp h; simp [isNon]
  | lst ds => obtain ⟨a, vs, rfl, _⟩ := dv_lst.mp h; simp [isNon]
  | scr ds => obtain ⟨a, rfl, _⟩ := dv_scr.mp h; simp [isNon]
  | exc _ _ _ _ => obtain ⟨rfl, _⟩ := dv_exc.mp h; simp [isNon]
  | non => rw [dv_non] at h; subst h; simp [isNon]
  | bl _ => rw [dv_bl] at h; subst h; simp [isNon]
  | int _ => rw [dv_int] at h; subst h; simp [isNon]
  | str _ => rw [dv_str] at h; subst h; simp [isNon]
  | ty _ => rw [dv_ty] at h; subst h; simp [isNon]
  | ref _ => rw [dv_ref] at h; subst h; simp [isNon]
theorem do_is : OpR X (compareOp .Is) (rL2 X.K dIs) := by
  refine OpR.sub (op_isN.or op_isBl) fun x y H Q ⟨M, S, d, e, k, r, hd, he, h, kv⟩ => ?_
  unfold dIs dIsB at h
  split at h
  · exact .inl ⟨dv_non.mp he, by rw [non_iff hd]; exact kv.now r h (dv_bl.mpr rfl)⟩
  · obtain ⟨a, rfl, h⟩ := h
    exact .inr ⟨a, _, dv_bl.mp hd, dv_bl.mp he, kv.now r h (dv_bl.mpr rfl)⟩
  · exact h.elim
theorem do_isNot : OpR X (compareOp .IsNot) (rL2 X.K dIsNot) := by
  refine OpR.sub (op_notN.or op_notBl) fun x y H Q ⟨M, S, d, e, k, r, hd, he, h, kv⟩ => ?_
  unfold dIsNot dIsB at h
  split at h
  · exact .inl ⟨dv_non.mp he, by rw [non_iff hd]; exact kv.now r h (dv_bl.mpr rfl)⟩
  · obtain ⟨a, rfl, h⟩ := h
    exact .inr ⟨a, _, dv_bl.mp hd, dv_bl.mp he, kv.now r h (dv_bl.mpr rfl)⟩
  · exact h.elim
/-! ### in -/
def flat : D → Bool
  | .non => true | .bl _ => true | .int _ => true | .str _ => true | _ => false
/-- == of flat data -/
def eqF : D → D → Bool
  | .non, .non => true
  | .bl a, .bl b => a == b
  | .bl a, .int b => (if a then 1 else 0) == b
  | .int a, .bl b => a == (if b then 1 else 0)
  | .int a, .int b => a == b
  | .str a, .str b => a == b
  | _, _ => false
def inF (d : D) (ds : List D) : Bool := ds.any fun e => eqF e d
def sqOf (M : Mh) : D → Option (List D)
  | .tup ds => some ds
  | d => lsOf M d
def dInB (neg : Bool) (d e : D) (M : Mh) (k : DK) : Prop := match d, e with
  | .str s, .str z => ∃ c, s = ⟨#[c]⟩ ∧ k (.bl (if neg then !decide (c ∈ z.cps.toList) else decide (c ∈ z.cps.toList))) M
  | d, e => ∃ ds, sqOf M e = some ds ∧ flat d = true ∧ ds.all flat = true ∧ k (.bl (if neg then !inF d ds else inF d ds)) M
abbrev dIn := dInB false
abbrev dNotIn := dInB true
theorem sq_of {K : PySem.W.Frag} {M : Mh} {S H : Hp} {d : D} {v : V} {ds : List D} (r : R K M S H) (h : DV K (hid M S H) d v) (e : sqOf M d = some ds) : ∃ a vs, v = .ref a ∧ (SqL K H a vs ∨ SqT K H a vs) ∧ DVs K (hid M S H) ds vs := by
  cases d with
  | tup es =>
    cases e
    obtain ⟨a, vs, h1, h2, h3⟩ := tp_sq h
    exact ⟨a, vs, h1, .inr h2, h3⟩
  | lst es => obtain ⟨a, vs, h1, h2, h3⟩ := ls_sq r h e; exact ⟨a, vs, h1, .inl (SqL.of h2), h3⟩
  | ref es => obtain ⟨a, vs, h1, h2, h3⟩ := ls_sq r h e; exact ⟨a, vs, h1, .inl (SqL.of h2), h3⟩
  | non => cases e
  | bl _ => cases e
  | int _ => cases e
  | str _ => cases e
  | ty _ => cases e
  | scr _ => cases e
  | exc _ _ _ _ => cases e
theorem flat_of {K : PySem.W.Frag} {F : Hp} {d : D} {v : V} (h : DV K F d v) (f : flat d = true) : flatV v = true := by
  cases d <;> first
    | (exact absurd (show false = true from f) Bool.false_ne_true)
    | (simp only [dv_non, dv_bl, dv_int, dv_str] at h; subst h; rfl)
theorem eqF_of {K : PySem.W.Frag} {F : Hp} {d e : D} {v u : V} (h : DV K F d v) (g : DV K F e u) (f : flat d = true) (f' : flat e = true) : eqV v u = eqF d e := by
  cases d <;> first
    | (exact absurd (show false = true from f) Bool.false_ne_true)
    | (cases e <;> first
        | (exact absurd (show false = true from f') Bool.false_ne_true)
        | (simp only [dv_non, dv_bl, dv_int, dv_str] at h g; subst h g; rfl))
theorem inF_of {K : PySem.W.Frag} {F : Hp} {d : D} {v : V} (h : DV K F d v) (f : flat d = true) : ∀ {ds : List D} {vs : List V}, DVs K F ds vs → ds.all flat = true → vs.all flatV = true ∧ inV v vs = inF d ds
  | [], _, g, _ => by rw [dvs_nil] at g; subst g; exact ⟨rfl, rfl⟩
  | e :: es, _, g, q => by
    obtain ⟨u, r, rfl, h2, h3⟩ := dvs_cons.mp g
    rw [List.all_cons, Bool.and_eq_true] at q
    obtain ⟨i1, i2⟩ := inF_of h f h3 q.2
    refine ⟨by rw [List.all_cons, flat_of h2 q.1, i1]; rfl, ?_⟩
    unfold inV inF at i2 ⊢
    rw [List.any_cons, List.any_cons, eqF_of h2 h q.1 f, i2]
theorem do_in : OpR X (compareOp .In) (rL2 X.K dIn) := by
  refine OpR.sub (op_in_sign.or op_in_seq) fun x y H Q ⟨M, S, d, e, k, r, hd, he, h, kv⟩ => ?_
  unfold dIn dInB at h
  split at h
  · obtain ⟨c, rfl, h⟩ := h
    exact .inl ⟨c, _, dv_str.mp hd, dv_str.mp he, kv.now r h (dv_bl.mpr rfl)⟩
  · obtain ⟨ds, e1, f, fs, h⟩ := h
    obtain ⟨a, vs, rfl, h2, h3⟩ := sq_of r he e1
    obtain ⟨i1, i2⟩ := inF_of hd f h3 fs
    exact .inr ⟨a, vs, rfl, h2, flat_of hd f, i1, by rw [i2]; exact kv.now r h (dv_bl.mpr rfl)⟩
theorem do_notIn : OpR X (compareOp .NotIn) (rL2 X.K dNotIn) := by
  refine OpR.sub (op_notIn_sign.or op_notIn_seq) fun x y H Q ⟨M, S, d, e, k, r, hd, he, h, kv⟩ => ?_
  unfold dNotIn dInB at h
  split at h
  · obtain ⟨c, rfl, h⟩ := h
    exact .inl ⟨c, _, dv_str.mp hd, dv_str.mp he, kv.now r h (dv_bl.mpr rfl)⟩
  · obtain ⟨ds, e1, f, fs, h⟩ := h
    obtain ⟨a, vs, rfl, h2, h3⟩ := sq_of r he e1
    obtain ⟨i1, i2⟩ := inF_of hd f h3 fs
    exact .inr ⟨a, vs, rfl, h2, flat_of hd f, i1, by rw [i2]; exact kv.now r h (dv_bl.mpr rfl)⟩
/-! ### x[i], x[i:j] -/
def dIx (d e : D) (M : Mh) (k : DK) : Prop := match d with
  | .str z => ∃ i c, e = .int i ∧ z.length ≤ sizeLine ∧ atI z.cps.toList i = some c ∧ k (.str ⟨#[c]⟩) M
  | d => ∃ i ds x, e = .int i ∧ sqOf M d = some ds ∧ atI ds i = some x ∧ k x M
theorem atI_of {K : PySem.W.Frag} {F : Hp} {ds : List D} {vs : List V} {i : Int} {d : D} (h : DVs K F ds vs) (e : atI ds i = some d) : ∃ v, atI vs i = some v ∧ DV K F d v := by
  unfold atI at e ⊢
  rw [h.length] at e
  cases q : ixN vs.length i with
  | none => rw [q] at e; cases e
  | some j =>
    rw [q] at e
    exact h.get (i := j) e
theorem dx_seq : IxR X (rL2 X.K dIx) := by
  refine IxR.sub ix_seq fun x y H Q ⟨M, S, d, e, k, r, hd, he, h, kv⟩ => ?_
  unfold dIx at h
  split at h
  · obtain ⟨i, c, rfl, hz, h1, h⟩ := h
    exact .inr (.inr ⟨_, i, c, dv_str.mp hd, dv_int.mp he, hz, h1, kv.now r h (dv_str.mpr rfl)⟩)
  · obtain ⟨i, ds, z, rfl, e1, e2, h⟩ := h
    obtain ⟨a, vs, rfl, h2, h3⟩ := sq_of r hd e1
    obtain ⟨v, g1, g2⟩ := atI_of h3 e2
    rcases h2 with h2 | h2
    · exact .inl ⟨a, vs, i, v, rfl, dv_int.mp he, h2, g1, kv.now r h g2⟩
    · exact .inr (.inl ⟨a, vs, i, v, rfl, dv_int.mp he, h2, g1, kv.now r h g2⟩)
def cutD (xs : List D) (lo hi : Option Int) : List D := (xs.drop (HT.sIx xs.length 0 lo)).take (HT.sIx xs.length xs.length hi - HT.sIx xs.length 0 lo)
theorem cut_of {K : PySem.W.Frag} {F : Hp} {ds : List D} {vs : List V} (lo hi : Option Int) (h : DVs K F ds vs) : DVs K F (cutD ds lo hi) (cutV vs lo hi) := by
  unfold cutD cutV
  rw [h.length]
  exact (h.drop _).take _
theorem dvs_ints {K : PySem.W.Frag} {F : Hp} : ∀ ns : List Int, DVs K F (ns.map D.int) (ns.map V.int)
  | [] => dvs_nil.mpr rfl
  | n :: ns => dvs_cons.mpr ⟨.int n, _, rfl, dv_int.mpr rfl, dvs_ints ns⟩
def dSlice (d : D) (lo hi : Option Int) (M : Mh) (k : DK) : Prop := match d with
  | .str z => z.length ≤ sizeLine ∧ k (.str (cutS z lo hi)) M
  | .tup ds => k (.tup (cutD ds lo hi)) M
  | .scr ns => k (.lst (cutD (ns.map D.int) lo hi)) M
  | d => ∃ ds, lsOf M d = some ds ∧ k (.lst (cutD ds lo hi)) M
theorem ds_slice : SlR X (fun x l u H Q => ∃ M S d k, R X.K M S H ∧ DV X.K (hid M S H) d x ∧ dSlice d l u M k ∧ KeepV X.K S (hid M S H) k Q) := by
  refine SlR.sub (sl_str.or (sl_tupA.or sl_list)) fun x lo hi H Q ⟨M, S, d, k, r, hd, h, kv⟩ => ?_
  unfold dSlice at h
  split at h
  · exact .inl ⟨_, dv_str.mp hd, h.1, kv.now r h.2 (dv_str.mpr rfl)⟩
  · rename_i ds
    obtain ⟨a, vs, rfl, h2, h3⟩ := tp_sq hd
    refine .inr (.inl ⟨a, vs, rfl, h2, fun e => ?_, fun _ p hp => ?_⟩)
    · have e1 : cutD ds lo hi = ds := by
        unfold cutD
        rw [h3.length, e.1, e.2, List.drop_zero, Nat.sub_zero, ← h3.length, List.take_length]
      rw [e1] at h
      exact kv.now r h hd
    · obtain ⟨q1, q2, q3⟩ := new_tup r hp (cut_of lo hi h3)
      exact kv _ M h _ _ q1 q2 q3
  · obtain ⟨a, rfl, h2⟩ := dv_scr.mp hd
    refine .inr (.inr ⟨a, _, rfl, (hid_le _ _ _).sqL h2, fun p hp => ?_⟩)
    obtain ⟨q1, q2, q3⟩ := new_lst r hp (cut_of lo hi (dvs_ints _))
    exact kv _ M h _ _ q1 q2 q3
  · obtain ⟨ds, e1, h⟩ := h
    obtain ⟨a, vs, rfl, h2, h3⟩ := ls_sq r hd e1
    refine .inr (.inr ⟨a, vs, rfl, SqL.of h2, fun p hp => ?_⟩)
    obtain ⟨q1, q2, q3⟩ := new_lst r hp (cut_of lo hi h3)
    exact kv _ M h _ _ q1 q2 q3
/-! ### built-in calls -/
def cLen (ds : List D) (M : Mh) (k : DK) : Prop := ∃ d, ds = [d] ∧ match d with
  | .str z => z.length ≤ sizeLine ∧ k (.int z.length) M
  | d => ∃ es, sqOf M d = some es ∧ k (.int es.length) M
theorem dc_one {K : PySem.W.Frag} {F : Hp} {d : D} {vs : List V} (h : DVs K F [d] vs) : ∃ v, vs = [v] ∧ DV K F d v := by
  obtain ⟨v, r, rfl, h2, h3⟩ := dvs_cons.mp h
  rw [dvs_nil] at h3
  subst h3
  exact ⟨v, rfl, h2⟩
theorem dc_two {K : PySem.W.Frag} {F : Hp} {d e : D} {vs : List V} (h : DVs K F [d, e] vs) : ∃ v u, vs = [v, u] ∧ DV K F d v ∧ DV K F e u := by
  obtain ⟨v, r, rfl, h2, h3⟩ := dvs_cons.mp h
  obtain ⟨u, rfl, h4⟩ := dc_one h3
  exact ⟨v, u, rfl, h2, h4⟩
theorem dc_len : CallR X (.builtin "len") (rLc X.K cLen) := by
  refine CallR.sub (call_len_str.or call_len_seq) fun xs H Q ⟨M, S, ds, k, r, hd, ⟨d, e, h⟩, kv⟩ => ?_
  subst e
  obtain ⟨v, rfl, hv⟩ := dc_one hd
  split at h
  · exact .inl ⟨_, by rw [dv_str.mp hv], h.1, kv.now r h.2 (dv_int.mpr rfl)⟩
  · obtain ⟨es, e1, h⟩ := h
    obtain ⟨a, vs, rfl, h2, h3⟩ := sq_of r hv e1
    exact .inr ⟨a, vs, rfl, h2, by rw [← h3.length]; exact kv.now r h (dv_int.mpr rfl)⟩
def blsOf : List D → Option (List Bool)
  | [] => some []
  | .bl b :: r => (blsOf r).map (b :: ·)
  | _ => none
theorem bls_of {K : PySem.W.Frag} {F : Hp} : ∀ {ds : List D} {vs : List V} {bs : List Bool}, DVs K F ds vs → blsOf ds = some bs → vs = bs.map V.bl
  | [], _, _, h, e => by rw [dvs_nil] at h; subst h; cases e; rfl
  | d :: ds, _, _, h, e => by
    obtain ⟨v, r, rfl, h2, h3⟩ := dvs_cons.mp h
    cases d <;> first | (cases e; done) | skip
    rw [blsOf] at e
    cases q : blsOf ds with
    | none => rw [q] at e; cases e
    | some cs =>
      rw [q] at e
      cases e
      rw [dv_bl.mp h2, bls_of h3 q]
      rfl
def cAll (ds : List D) (M : Mh) (k : DK) : Prop := ∃ d es bs, ds = [d] ∧ lsOf M d = some es ∧ blsOf es = some bs ∧ k (.bl (bs.all id)) M
def cAny (ds : List D) (M : Mh) (k : DK) : Prop := ∃ d es bs, ds = [d] ∧ lsOf M d = some es ∧ blsOf es = some bs ∧ k (.bl (bs.any id)) M
theorem dc_all (hc : X.calm = true) : CallR X (.builtin "all") (rLc X.K cAll) := by
  refine CallR.sub (cr_all hc) fun xs H Q ⟨M, S, ds, k, r, hd, ⟨d, es, bs, e, e1, e2, h⟩, kv⟩ => ?_
  subst e
  obtain ⟨v, rfl, hv⟩ := dc_one hd
  obtain ⟨a, vs, rfl, h2, h3⟩ := ls_sq r hv e1
  exact ⟨a, bs, rfl, by rw [← bls_of h3 e2]; exact SqL.of h2, kv.now r h (dv_bl.mpr rfl)⟩
theorem dc_any (hc : X.calm = true) : CallR X (.builtin "any") (rLc X.K cAny) := by
  refine CallR.sub (cr_any hc) fun xs H Q ⟨M, S, ds, k, r, hd, ⟨d, es, bs, e, e1, e2, h⟩, kv⟩ => ?_
  subst e
  obtain ⟨v, rfl, hv⟩ := dc_one hd
  obtain ⟨a, vs, rfl, h2, h3⟩ := ls_sq r hv e1
  exact ⟨a, bs, rfl, by rw [← bls_of h3 e2]; exact SqL.of h2, kv.now r h (dv_bl.mpr rfl)⟩
def cInt (ds : List D) (M : Mh) (k : DK) : Prop := ∃ i, ds = [.int i] ∧ k (.int i) M
theorem dc_int : CallR X (.type "int") (rLc X.K cInt) := CallR.sub call_int1 fun xs H Q ⟨M, S, ds, k, r, hd, ⟨i, e, h⟩, kv⟩ => by
  subst e
  obtain ⟨v, rfl, hv⟩ := dc_one hd
  exact .inl ⟨i, by rw [dv_int.mp hv], kv.now r h (dv_int.mpr rfl)⟩
def cAbs (ds : List D) (M : Mh) (k : DK) : Prop := ∃ i, ds = [.int i] ∧ k (.int (if i < 0 then -i else i)) M
theorem dc_abs : CallR X (.builtin "abs") (rLc X.K cAbs) := CallR.sub call_abs fun xs H Q ⟨M, S, ds, k, r, hd, ⟨i, e, h⟩, kv⟩ => by
  subst e
  obtain ⟨v, rfl, hv⟩ := dc_one hd
  exact ⟨i, by rw [dv_int.mp hv], kv.now r h (dv_int.mpr rfl)⟩
def cMin (ds : List D) (M : Mh) (k : DK) : Prop := ∃ i j, ds = [.int i, .int j] ∧ k (.int (if j < i then j else i)) M
theorem dc_min (hc : X.calm = true) : CallR X (.builtin "min") (rLc X.K cMin) := CallR.sub (call_min2 hc) fun xs H Q ⟨M, S, ds, k, r, hd, ⟨i, j, e, h⟩, kv⟩ => by
  subst e
  obtain ⟨v, u, rfl, hv, he⟩ := dc_two hd
  exact ⟨i, j, by rw [dv_int.mp hv, dv_int.mp he], kv.now r h (dv_int.mpr rfl)⟩
def cList (ds : List D) (M : Mh) (k : DK) : Prop := ∃ d es, ds = [d] ∧ sqOf M d = some es ∧ k (.lst es) M
theorem dc_list : CallR X (.type "list") (rLc X.K cList) := CallR.sub call_list_of fun xs H Q ⟨M, S, ds, k, r, hd, ⟨d, es, e, e1, h⟩, kv⟩ => by
  subst e
  obtain ⟨v, rfl, hv⟩ := dc_one hd
  obtain ⟨a, vs, rfl, h2, h3⟩ := sq_of r hv e1
  refine ⟨a, vs, rfl, h2, fun p hp => ?_⟩
  obtain ⟨q1, q2, q3⟩ := new_lst r hp h3
  exact kv _ M h _ _ q1 q2 q3
def cTuple (ds : List D) (M : Mh) (k : DK) : Prop := ∃ d es, ds = [d] ∧ sqOf M d = some es ∧ k (.tup es) M
theorem dc_tuple : CallR X (.type "tuple") (rLc X.K cTuple) := CallR.sub call_tuple_of fun xs H Q ⟨M, S, ds, k, r, hd, ⟨d, es, e, e1, h⟩, kv⟩ => by
  subst e
  obtain ⟨v, rfl, hv⟩ := dc_one hd
  have g := hv
  obtain ⟨a, vs, rfl, h2, h3⟩ := sq_of r hv e1
  refine ⟨a, vs, rfl, ?_⟩
  rcases h2 with h2 | h2
  · refine .inl ⟨h2, fun p hp => ?_⟩
    obtain ⟨q1, q2, q3⟩ := new_tup r hp h3
    exact kv _ M h _ _ q1 q2 q3
  · refine .inr ⟨h2, ?_⟩
    cases d with
    | tup fs => cases e1; exact kv.now r h g
    | lst fs =>
      obtain ⟨b, us, eb, h4, h5⟩ := ls_sq r g e1
      cases eb
      rcases h2 with (h2 | ⟨o, h2⟩) | ⟨o, _, _, hk, _⟩
      · rw [h4] at h2; cases h2
      · rw [h4] at h2; cases h2
      · exact kv _ M h _ _ r (Ex.refl _) (dv_tup.mpr ⟨a, vs, rfl, .inr ⟨o, _, _, hk, ‹_›⟩, h3⟩)
    | ref fs =>
      obtain ⟨b, us, eb, h4, h5⟩ := ls_sq r g e1
      cases eb
      rcases h2 with (h2 | ⟨o, h2⟩) | ⟨o, _, _, hk, _⟩
      · rw [h4] at h2; cases h2
      · rw [h4] at h2; cases h2
      · exact kv _ M h _ _ r (Ex.refl _) (dv_tup.mpr ⟨a, vs, rfl, .inr ⟨o, _, _, hk, ‹_›⟩, h3⟩)
    | non => cases e1
    | bl _ => cases e1
    | int _ => cases e1
    | str _ => cases e1
    | ty _ => cases e1
    | scr _ => cases e1
    | exc _ _ _ _ => cases e1
end
end DL
namespace DL
open PySem L2
/-! ### isinstance -/
def tyM : Option MO → String
  | some .box => "list"
  | some (.lst _) => "list"
  | some (.dct _) => "dict"
  | _ => "?"
def tyN (M : Mh) : D → String
  | .non => "NoneType" | .bl _ => "bool" | .int _ => "int" | .str _ => "str" | .tup _ => "tuple" | .lst _ => "list" | .ref a => tyM (M a) | .ty _ => "?" | .scr _ => "?" | .exc _ _ _ _ => "?"
def tys : List String := ["NoneType", "bool", "int", "str", "tuple", "list", "dict"]
def isiB (a b : String) : Bool := decide (a = b) || (decide (a = "bool") && decide (b = "int"))
theorem kit_tab : ∀ a ∈ tys, ∀ b ∈ tys, kitB a b = some (isiB a b) := by decide +kernel
theorem ty_of {K : PySem.W.Frag} {M : Mh} {S H : Hp} {d : D} {v : V} (r : R K M S H) (h : DV K (hid M S H) d v) (e : tyN M d ∈ tys) : TyX K H v (.type (tyN M d)) := by
  cases d with
  | non => rw [dv_non.mp h]; exact .base .non
  | bl _ => rw [dv_bl.mp h]; exact .base (.bl _)
  | int _ => rw [dv_int.mp h]; exact .base (.int _)
  | str _ => rw [dv_str.mp h]; exact .base (.str _)
  | ty _ => exact absurd e (by show ¬ "?" ∈ tys; decide)
  | scr _ => exact absurd e (by show ¬ "?" ∈ tys; decide)
  | exc _ _ _ _ => exact absurd e (by show ¬ "?" ∈ tys; decide)
  | tup ds =>
    obtain ⟨a, vs, rfl, h2, h3⟩ := tp_sq h
    rcases h2 with (h2 | ⟨o, h2⟩) | ⟨o, _, _, hk, hc, _⟩
    · exact .base (.tup h2)
    · exact .fTuple h2
    · exact .kTuple hk hc
  | lst ds =>
    obtain ⟨a, vs, rfl, h2, h3⟩ := dv_lst.mp h
    exact .base (.lst (hid_le _ _ _ _ _ h2))
  | ref a =>
    rw [dv_ref.mp h]
    have e' : tyM (M a) ∈ tys := e
    show TyX K H (.ref a) (.type (tyM (M a)))
    cases q : M a with
    | none => rw [q] at e'; exact absurd e' (by show ¬ "?" ∈ tys; decide)
    | some o =>
      obtain ⟨u, h1, h2⟩ := r.chg a o q
      cases o with
      | box => obtain ⟨vs, rfl, _⟩ := h2; exact .base (.lst h1)
      | lst _ => obtain ⟨vs, rfl, _⟩ := h2; exact .base (.lst h1)
      | dct _ => obtain ⟨vs, rfl, _⟩ := h2; exact .base (.dK h1)
      | ins _ _ => rw [q] at e'; exact absurd e' (by show ¬ "?" ∈ tys; decide)
      | tab _ => rw [q] at e'; exact absurd e' (by show ¬ "?" ∈ tys; decide)
section
variable {X : Cx} {E : XK} {a : Expr} {ma : ME} {pos p p2 : Pos}
def dIsi (n : String) (d : D) (M : Mh) (k : DK) : Prop := tyN M d ∈ tys ∧ k (.bl (isiB (tyN M d) n)) M
/-- isinstance(x, T), T a built-in class -/
theorem de_isi {T : Str} {n : String} (hg : Gl X "isinstance") (hm : X.mg "isinstance" = none) (ha : PE X a (tI X.K E ma)) (hgT : Gl X T) (hmT : X.mg T = none) (hv : bootBuiltins T = some (.type n)) (hn : n ∈ tys) (hnn : T ≠ "__name__" := by decide) (hd : (T == ("__debug__" : Str)) = false := by decide)
    (hs : starEach [a, .Name T p2] X.env = (false, eval a X.env) :: starEach [.Name T p2] X.env := by rfl) (hs2 : starEach [.Name T p2] X.env = [(false, eval (.Name T p2) X.env)] := by rfl) (hpl : (backTo pos (starEach [.Name T p2] X.env)).any (·.1) = false := by rfl) :
    PE X (.Call (.Name "isinstance" p) [a, .Name T p2] [] pos) (tI X.K E (mUn (dIsi n) ma)) := by
  refine pe_le (pe_callB call_isi hg hm (by decide +kernel) (pa_cons ha (pa_cons (pe_bltn (v := .ty n) hgT hmT hv rfl hnn hd) pa_nil (by exact hs2)) hs) (by decide) (by decide) hs hpl) fun σ H Q ⟨M, S, Γ, k, kx, hr, er, hm, kv, kxx⟩ => ?_
  refine ⟨M, S, Γ, _, kx, hr, er, hm, fun d M1 q1 H1 v1 r1 e1 d1 => ?_, kxx⟩
  exact ⟨v1, .ty n, _, _, _, rfl, .ty n, ty_of r1 d1 q1.1, kit_ty (kit_tab _ q1.1 _ hn), kv _ M1 q1.2 H1 _ r1 e1 (dv_bl.mpr rfl)⟩
def dIsi2 (n m : String) (d : D) (M : Mh) (k : DK) : Prop := tyN M d ∈ tys ∧ k (.bl (isiB (tyN M d) n || isiB (tyN M d) m)) M
/-- isinstance(x, (T, U)) -/
theorem de_isi2 {T U : Str} {n m : String} {p3 p4 : Pos} {kk : Nat} (hg : Gl X "isinstance") (hm : X.mg "isinstance" = none) (ha : PE X a (tI X.K E ma)) (hgT : Gl X T) (hmT : X.mg T = none) (hv : bootBuiltins T = some (.type n)) (hn : n ∈ tys)
    (hgU : Gl X U) (hmU : X.mg U = none) (hvU : bootBuiltins U = some (.type m)) (hnU : m ∈ tys) (hnn : T ≠ "__name__" := by decide) (hd : (T == ("__debug__" : Str)) = false := by decide) (hnn2 : U ≠ "__name__" := by decide) (hd2 : (U == ("__debug__" : Str)) = false := by decide)
    (ht2 : starEach [.Name U p3] X.env = [(false, eval (.Name U p3) X.env)] := by rfl) (ht1 : starEach [.Name T p2, .Name U p3] X.env = (false, eval (.Name T p2) X.env) :: starEach [.Name U p3] X.env := by rfl)
    (hs : starEach [a, .Tuple [.Name T p2, .Name U p3] kk p4] X.env = (false, eval a X.env) :: starEach [.Tuple [.Name T p2, .Name U p3] kk p4] X.env := by rfl)
    (hs2 : starEach [.Tuple [.Name T p2, .Name U p3] kk p4] X.env = [(false, eval (.Tuple [.Name T p2, .Name U p3] kk p4) X.env)] := by rfl) (hpl : (backTo pos (starEach [.Tuple [.Name T p2, .Name U p3] kk p4] X.env)).any (·.1) = false := by rfl) :
    PE X (.Call (.Name "isinstance" p) [a, .Tuple [.Name T p2, .Name U p3] kk p4] [] pos) (tI X.K E (mUn (dIsi2 n m) ma)) := by
  refine pe_le (pe_callB call_isiT hg hm (by decide +kernel) (pa_cons ha (pa_cons (pe_tup (pa_cons (pe_bltn (v := .ty n) hgT hmT hv rfl hnn hd) (pa_cons (pe_bltn (v := .ty m) hgU hmU hvU rfl hnn2 hd2) pa_nil (by exact ht2)) ht1)) pa_nil (by exact hs2)) hs) (by decide) (by decide) hs hpl) fun σ H Q ⟨M, S, Γ, k, kx, hr, er, hm, kv, kxx⟩ => ?_
  refine ⟨M, S, Γ, _, kx, hr, er, hm, fun d M1 q1 H1 v1 r1 e1 d1 => ?_, kxx⟩
  refine ⟨by show 2 ≤ sizeLine; decide, fun q hq => ?_⟩
  obtain ⟨g1, g2, g3⟩ := r1.new (o := .tup [.ty n, .ty m]) hq
  refine ⟨v1, q, [.ty n, .ty m], _, [.type n, .type m], _, rfl, upd_same, .cons (.ty n) (.cons (.ty m) .nil), ty_of g1 (d1.mono g2 _) q1.1, ?_, kv _ M1 q1.2 _ _ g1 (e1.trans g2) (dv_bl.mpr rfl)⟩
  refine kitAny_cons (kit_ty (kit_tab _ q1.1 _ hn)) (fun e => ?_) (fun e => by rw [e]; rfl)
  rw [e, Bool.false_or]
  exact kitAny_cons (kit_ty (kit_tab _ q1.1 _ hnU)) (fun e => by rw [e]; exact kitAny_nil) (fun e => e)
end
/-! ### statements -/
def mNext : MS := fun De Γ M _ => De.nx Γ M
def mSeq (m u : MS) : MS := fun De Γ M kx => m { De with nx := fun Γ' M' => u De Γ' M' kx } Γ M kx
def mBreak : MS := fun De Γ M _ => De.bk Γ M
def mCont : MS := fun De Γ M _ => De.ct Γ M
def mDrop (m : ME) : MS := fun De Γ M kx => m Γ M (fun _ M1 => De.nx Γ M1) kx
def mRet (m : ME) : MS := fun De Γ M kx => m Γ M De.rt kx
def mRetN : MS := fun De _ M _ => De.rt .non M
def mIfS (c : MT) (m u : MS) : MS := fun De Γ M kx => c Γ M (fun b M1 => if b = true then m De Γ M1 kx else u De Γ M1 kx) kx
def mNever : MS := fun _ _ _ _ => False
/-- targets: a name, a tuple of targets -/
inductive Tg where
  | nm (i : Nat) | tp (ts : List Tg)
mutual
def bindT : Tg → D → Env → Option Env
  | .nm i, d, Γ => some (Γ.set i (some d))
  | .tp ts, .tup ds, Γ => bindTs ts ds Γ
  | .tp _, _, _ => none
def bindTs : List Tg → List D → Env → Option Env
  | [], [], Γ => some Γ
  | t :: ts, d :: ds, Γ => match bindT t d Γ with
    | some Γ1 => bindTs ts ds Γ1
    | none => none
  | _, _, _ => none
end
mutual
def gOf (K : PySem.W.Frag) : Tg → TG
  | .nm i => gName i
  | .tp ts => gTup K ts.length (gsOf K ts)
def gsOf (K : PySem.W.Frag) : List Tg → TGs
  | [] => gNil
  | t :: ts => gCons (gOf K t) (gsOf K ts)
end
mutual
/-- the slots that a target stores to -/
def slotsT : Tg → List Nat
  | .nm i => [i]
  | .tp ts => slotsTs ts
def slotsTs : List Tg → List Nat
  | [] => []
  | t :: ts => slotsT t ++ slotsTs ts
end
theorem bindTs_len : ∀ {ts : List Tg} {ds : List D} {Γ Γ1 : Env}, bindTs ts ds Γ = some Γ1 → ds.length = ts.length
  | [], [], _, _, _ => rfl
  | [], _ :: _, _, _, h => by simp [bindTs] at h
  | _ :: _, [], _, _, h => by simp [bindTs] at h
  | t :: ts, d :: ds, Γ, Γ1, h => by
    rw [bindTs] at h
    cases q : bindT t d Γ with
    | none => rw [q] at h; cases h
    | some Γ2 =>
      rw [q] at h
      rw [List.length_cons, List.length_cons, bindTs_len h]
mutual
theorem g_ok {K : PySem.W.Frag} {M : Mh} {S H : Hp} : ∀ (t : Tg) {d : D} {v : V} {Γ Γ1 : Env} {σ : St} {Q : St → Hp → Prop}, DV K (hid M S H) d v → EnvR K (hid M S H) Γ σ → bindT t d Γ = some Γ1 →
    (∀ σ1, EnvR K (hid M S H) Γ1 σ1 → (∀ vs, (∀ i ∈ slotsT t, i ∈ vs) → wipe σ1 vs = wipe σ vs) → Q σ1 H) → gOf K t v σ H Q
  | .nm i, d, v, Γ, Γ1, σ, Q, hd, er, e, q => by
    rw [bindT] at e
    cases e
    rw [gOf]
    refine q _ (er.set hd) fun vs hv => ?_
    exact wipe_set (hv i (by rw [slotsT]; exact List.mem_singleton.mpr rfl))
  | .tp ts, d, v, Γ, Γ1, σ, Q, hd, er, e, q => by
    cases d with
    | tup ds =>
      rw [bindT] at e
      obtain ⟨a, vs, rfl, h2, h3⟩ := tp_sq hd
      rw [gOf]
      refine ⟨a, vs, rfl, h2, by rw [← h3.length]; exact bindTs_len e, ?_⟩
      exact gs_ok ts h3 er e fun σ1 e1 w => q σ1 e1 fun vs hv => w vs (fun i hi => hv i (by rw [slotsT]; exact hi))
    | _ => simp [bindT] at e
theorem gs_ok {K : PySem.W.Frag} {M : Mh} {S H : Hp} : ∀ (ts : List Tg) {ds : List D} {vs : List V} {Γ Γ1 : Env} {σ : St} {Q : St → Hp → Prop}, DVs K (hid M S H) ds vs → EnvR K (hid M S H) Γ σ → bindTs ts ds Γ = some Γ1 →
    (∀ σ1, EnvR K (hid M S H) Γ1 σ1 → (∀ vs, (∀ i ∈ slotsTs ts, i ∈ vs) → wipe σ1 vs = wipe σ vs) → Q σ1 H) → gsOf K ts vs σ H Q
  | [], [], vs, Γ, Γ1, σ, Q, hd, er, e, q => by
    rw [bindTs] at e
    cases e
    rw [gsOf]
    exact ⟨dvs_nil.mp hd, q _ er fun _ _ => rfl⟩
  | [], _ :: _, _, _, _, _, _, _, _, e, _ => by simp [bindTs] at e
  | _ :: _, [], _, _, _, _, _, _, _, e, _ => by simp [bindTs] at e
  | t :: ts, d :: ds, vs, Γ, Γ1, σ, Q, hd, er, e, q => by
    rw [bindTs] at e
    cases e2 : bindT t d Γ with
    | none => rw [e2] at e; cases e
    | some Γ2 =>
      rw [e2] at e
      obtain ⟨v, r, rfl, h2, h3⟩ := dvs_cons.mp hd
      rw [gsOf]
      refine ⟨v, r, rfl, ?_⟩
      refine g_ok t h2 er e2 fun σ2 r2 w2 => ?_
      refine gs_ok ts h3 r2 e fun σ3 r3 w3 => ?_
      refine q σ3 r3 fun vs hv => ?_
      rw [w3 vs fun i hi => hv i (by rw [slotsTs]; exact List.mem_append_right _ hi), w2 vs fun i hi => hv i (by rw [slotsTs]; exact List.mem_append_left _ hi)]
theorem wipe_set {σ : St} {i : Nat} {v : Option V} : ∀ {vs : List Nat}, i ∈ vs → wipe (σ.set i v) vs = wipe σ vs
  | [], h => by cases h
  | j :: vs, h => by
    show (wipe (σ.set i v) vs).set j none = (wipe σ vs).set j none
    rcases List.mem_cons.mp h with rfl | h
    · exact wipe_set2
    · rw [wipe_set h]
theorem wipe_set2 {σ : St} {i : Nat} {v : Option V} : ∀ {vs : List Nat}, (wipe (σ.set i v) vs).set i none = (wipe σ vs).set i none
  | [] => by
    show (σ.set i v).set i none = σ.set i none
    rw [List.set_set]
  | j :: vs => by
    show ((wipe (σ.set i v) vs).set j none).set i none = ((wipe σ vs).set j none).set i none
    by_cases e : i = j
    · subst e
      rw [List.set_set, List.set_set]
      exact wipe_set2
    · rw [List.set_comm _ _ (Ne.symm e), List.set_comm _ _ (Ne.symm e), wipe_set2]
end
def mAsg (m : ME) (t : Tg) : MS := fun De Γ M kx => m Γ M (fun d M1 => ∃ Γ1, bindT t d Γ = some Γ1 ∧ De.nx Γ1 M1) kx
def mPar (i j : Nat) (ma : MA) : MS := fun De Γ M kx => ma Γ M (fun ds M1 => ∃ d e, ds = [d, e] ∧ De.nx ((Γ.set i (some d)).set j (some e)) M1) kx
/-! ### walks -/
structure WalkD (K : PySem.W.Frag) (J : It) (ds : List D) (G : Mh → Prop) (F : Hp) : Prop where
  goes : ∀ i M S H, i < ds.length → R K M S H → Ex F (hid M S H) → G M → J.go i H
  stops : ∀ M S H, R K M S H → Ex F (hid M S H) → G M → J.stop ds.length H
  yields : ∀ (i : Nat) (d : D) M S H x H', ds[i]? = some d → R K M S H → Ex F (hid M S H) → G M → J.yld i H x H' → R K M S H' ∧ Ex (hid M S H) (hid M S H') ∧ DV K (hid M S H') d x
abbrev MI := Env → Mh → (List D → (Mh → Prop) → Mh → Prop) → XKd → Prop
def iI (K : PySem.W.Frag) (E : XK) (m : MI) : TI := fun σ H Rr => ∃ M S Γ k kx, R K M S H ∧ EnvR K (hid M S H) Γ σ ∧ m Γ M k kx ∧
  (∀ ds G M', k ds G M' → ∀ H' J, R K M' S H' → Ex (hid M S H) (hid M' S H') → WalkD K J ds G (hid M' S H') → Rr J H') ∧ KeepX K S (hid M S H) kx E
def loopFor (t : Tg) (G : Mh → Prop) (body : MS) (De : DEnds) (kx : XKd) : List D → Env → Mh → Prop
  | [], Γ, M => G M ∧ De.nx Γ M
  | d :: ds, Γ, M => G M ∧ ∃ Γ1, bindT t d Γ = some Γ1 ∧ body { De with nx := loopFor t G body De kx ds, ct := loopFor t G body De kx ds, bk := De.nx } Γ1 M kx
def mFor (t : Tg) (mi : MI) (body : MS) : MS := fun De Γ M kx => mi Γ M (fun ds G M1 => loopFor t G body De kx ds Γ M1) kx
def loopLc (t : Tg) (G : Mh → Prop) (tt : MT) (te : ME) (Γ : Env) (k : List D → Mh → Prop) (kx : XKd) : List D → List D → Mh → Prop
  | acc, [], M => G M ∧ k acc M
  | acc, d :: ds, M => G M ∧ ∃ Γ1, bindT t d Γ = some Γ1 ∧ tt Γ1 M (fun b M1 => if b = true then te Γ1 M1 (fun y M2 => loopLc t G tt te Γ k kx (acc ++ [y]) ds M2) kx else loopLc t G tt te Γ k kx acc ds M1) kx
def noX : XKd := fun _ _ => False
def mYes : MT := fun _ M k _ => k true M
def mLc (t : Tg) (mi : MI) (tt : MT) (te : ME) (vs : List Nat) : ME := fun Γ M k kx => mi Γ M (fun ds G M1 => ds.length ≤ sizeLine ∧ loopLc t G tt te (wipeD Γ vs) (fun acc M2 => k (.lst acc) M2) noX [] ds M1) kx
section
variable {X : Cx} {E : XK} {pos : Pos} {e : Expr} {m : ME} {st : Stmt} {rest : List Stmt} {ms mu : MS}
theorem KeepE.seq {K : PySem.W.Frag} {S F : Hp} {u : MS} {De : DEnds} {kx : XKd} {D : Ends} (h1 : KeepE K S F De.nx D.nx) (h2 : KeepV K S F De.rt D.rt) (h3 : KeepE K S F De.bk D.bk) (h4 : KeepE K S F De.ct D.ct) (h5 : KeepX K S F kx E) :
    KeepE K S F (fun Γ' M' => u De Γ' M' kx) (tSt K E u D) := fun Γ' M' q H' σ' r e er => ⟨M', S, Γ', De, kx, r, er, q, h1.ex e, h2.ex e, h3.ex e, h4.ex e, h5.ex e⟩
theorem dss_nil : PSs X [] (tSt X.K E mNext) := pss_le pss_nil fun D σ H ⟨M, S, Γ, De, kx, r, er, h, h1, h2, h3, h4, h5⟩ => h1 Γ M h H σ r (Ex.refl _) er
theorem dss_cons (h1 : PS X st (tSt X.K E ms)) (h2 : PSs X rest (tSt X.K E mu)) : PSs X (st :: rest) (tSt X.K E (mSeq ms mu)) :=
  pss_le (pss_cons h1 h2) fun D σ H ⟨M, S, Γ, De, kx, r, er, h, k1, k2, k3, k4, k5⟩ => ⟨M, S, Γ, _, kx, r, er, h, KeepE.seq k1 k2 k3 k4 k5, k2, k3, k4, k5⟩
theorem dss_one (h1 : PS X st (tSt X.K E ms)) : PSs X [st] (tSt X.K E ms) := pss_one h1
theorem ds_pass : PS X (.Pass pos) (tSt X.K E mNext) := ps_le ps_pass fun D σ H ⟨M, S, Γ, De, kx, r, er, h, h1, h2, h3, h4, h5⟩ => h1 Γ M h H σ r (Ex.refl _) er
theorem ds_break : PS X (.Break pos) (tSt X.K E mBreak) := ps_le ps_break fun D σ H ⟨M, S, Γ, De, kx, r, er, h, h1, h2, h3, h4, h5⟩ => h3 Γ M h H σ r (Ex.refl _) er
theorem ds_cont : PS X (.Continue pos) (tSt X.K E mCont) := ps_le ps_continue fun D σ H ⟨M, S, Γ, De, kx, r, er, h, h1, h2, h3, h4, h5⟩ => h4 Γ M h H σ r (Ex.refl _) er
theorem ds_expr (he : PE X e (tI X.K E m)) (hs : swapsWith e none pos.line X.env = pure false := by rfl) : PS X (.Expr e pos) (tSt X.K E (mDrop m)) :=
  ps_le (ps_expr he hs) fun D σ H ⟨M, S, Γ, De, kx, r, er, h, h1, h2, h3, h4, h5⟩ => ⟨M, S, Γ, _, kx, r, er, h, fun d M1 q H1 v r1 e1 d1 => h1 Γ M1 q H1 σ r1 e1 (er.mono e1), h5⟩
theorem ds_ret (he : PE X e (tI X.K E m)) : PS X (.Return (some e) pos) (tSt X.K E (mRet m)) :=
  ps_le (ps_ret he) fun D σ H ⟨M, S, Γ, De, kx, r, er, h, h1, h2, h3, h4, h5⟩ => ⟨M, S, Γ, _, kx, r, er, h, h2, h5⟩
theorem ds_retN : PS X (.Return none pos) (tSt X.K E mRetN) := ps_le ps_retN fun D σ H ⟨M, S, Γ, De, kx, r, er, h, h1, h2, h3, h4, h5⟩ => h2 _ M h H _ r (Ex.refl _) (dv_non.mpr rfl)
theorem ds_never : PS X st (tSt X.K E mNever) := ps_le ps_never fun D σ H ⟨M, S, Γ, De, kx, r, er, h, h1, h2, h3, h4, h5⟩ => h
theorem ds_if {c : Expr} {a b : List Stmt} {mc : MT} (hc : PT X c (tT X.K E mc)) (ha : PSs X a (tSt X.K E ms)) (hb : PSs X b (tSt X.K E mu)) : PS X (.If c a b pos) (tSt X.K E (mIfS mc ms mu)) := by
  refine ps_le (ps_if hc ha hb) fun D σ H ⟨M, S, Γ, De, kx, r, er, h, h1, h2, h3, h4, h5⟩ => ?_
  refine ⟨M, S, Γ, _, kx, r, er, h, fun c M1 q1 H1 r1 e1 => ?_, h5⟩
  cases c with
  | true => exact ⟨M1, S, Γ, De, kx, r1, er.mono e1, q1, h1.ex e1, h2.ex e1, h3.ex e1, h4.ex e1, h5.ex e1⟩
  | false => exact ⟨M1, S, Γ, De, kx, r1, er.mono e1, q1, h1.ex e1, h2.ex e1, h3.ex e1, h4.ex e1, h5.ex e1⟩
theorem ds_asg {tg : Expr} {t : Tg} (he : PE X e (tI X.K E m)) (hg : PG X tg (gOf X.K t)) (hs : swapsWithSole [tg] e pos.line X.env = pure false := by rfl) (hw : swappedStores [tg] e X.env = pure none := by rfl)
    (h1 : (assignEach [tg] X.env).map (·.2) = [assign tg X.env] := by rfl) : PS X (.Assign [tg] e pos) (tSt X.K E (mAsg m t)) := by
  refine ps_le (ps_asg he hg hs hw h1) fun D σ H ⟨M, S, Γ, De, kx, r, er, h, h1, h2, h3, h4, h5⟩ => ?_
  refine ⟨M, S, Γ, _, kx, r, er, h, fun d M1 ⟨Γ1, eb, q⟩ H1 v r1 e1 d1 => ?_, h5⟩
  exact g_ok t d1 (er.mono e1) eb fun σ1 e2 _ => h1 Γ1 M1 q H1 σ1 r1 e1 e2
theorem ds_set {i : Nat} {x : Str} {pos' : Pos} (hN : X.N.Nodup) (hi : X.N[i]? = some x) (hx : Loc X.env.scope x) (he : PE X e (tI X.K E m)) (hs : swapsWith e (some (.Name x pos')) pos.line X.env = pure false := by rfl) (hf : X.fn x = true ∨ X.env.scope.names.lookup x = some .local := by first | exact .inl rfl | exact .inr rfl | assumption) :
    PS X (.Assign [.Name x pos'] e pos) (tSt X.K E (mAsg m (.nm i))) := by
  refine ps_le (ps_set hN hi hx he hs hf) fun D σ H ⟨M, S, Γ, De, kx, r, er, h, h1, h2, h3, h4, h5⟩ => ?_
  refine ⟨M, S, Γ, _, kx, r, er, h, fun d M1 ⟨Γ1, eb, q⟩ H1 v r1 e1 d1 => ?_, h5⟩
  rw [bindT] at eb
  cases eb
  exact h1 _ M1 q H1 _ r1 e1 ((er.mono e1).set d1)
theorem ds_par {i j : Nat} {x y : Str} {a b : Expr} {ma : MA} {px py pt : Pos} {kt k2 pt2} (hc : X.calm = true) (hN : X.N.Nodup) (hi : X.N[i]? = some x) (hj : X.N[j]? = some y) (hij : i ≠ j)
    (hx : X.env.scope.names.lookup x = some .local) (hy : X.env.scope.names.lookup y = some .local) (ha : PA X [a, b] (tA X.K E ma))
    (hw : PS X (.Assign [.Tuple [.Name x px, .Name y py] kt pt] (.Tuple [a, b] k2 pt2) pos) (tPar i j (tA X.K E ma))) :
    PS X (.Assign [.Tuple [.Name x px, .Name y py] kt pt] (.Tuple [a, b] k2 pt2) pos) (tSt X.K E (mPar i j ma)) := by
  refine ps_le hw fun D σ H ⟨M, S, Γ, De, kx, r, er, h, h1, h2, h3, h4, h5⟩ => ?_
  refine ⟨M, S, Γ, _, kx, r, er, h, fun ds M1 ⟨d, e, eq, q⟩ H1 vs r1 e1 d1 => ?_, h5⟩
  subst eq
  obtain ⟨v, u, rfl, g1, g2⟩ := dc_two d1
  exact ⟨v, u, rfl, h1 _ M1 q H1 _ r1 e1 (((er.mono e1).set g1).set g2)⟩
/-! for -/
theorem ds_for {tg iter : Expr} {body : List Stmt} {t : Tg} {mi : MI} (hp : PassesOwn (model X.prog X.w) X.A X.env X.xe) (hc : X.calm = true) (hi : PI X tg iter (iI X.K E mi)) (hg : PG X tg (gOf X.K t)) (hb : PSs X body (tSt X.K E ms))
    (hs : ∀ x, foldedSetIterable iter X.env x = pure x := by intro _; rfl) : PS X (.For tg iter body [] pos) (tSt X.K E (mFor t mi ms)) := by
  refine ps_le (ps_for hp hc hi hg hb hs) fun D σ H ⟨M, S, Γ, De, kx, r, er, h, h1, h2, h3, h4, h5⟩ => ?_
  refine ⟨M, S, Γ, _, kx, r, er, h, fun ds G M1 q H1 J r1 e1 w => ?_, h5⟩
  refine ⟨fun i n σ' H' => n = ds.length - i ∧ i ≤ ds.length ∧ ∃ Γ' M', R X.K M' S H' ∧ EnvR X.K (hid M' S H') Γ' σ' ∧ Ex (hid M1 S H1) (hid M' S H') ∧ loopFor t G ms De kx (ds.drop i) Γ' M',
    ⟨ds.length, by omega, Nat.zero_le _, Γ, M1, r1, er.mono e1, Ex.refl _, q⟩, ?_⟩
  rintro i n σ' H' ⟨rfl, hi, Γ', M', r', er', ee, hl⟩
  by_cases hlt : i < ds.length
  · have hd : ds.drop i = ds[i] :: ds.drop (i + 1) := List.drop_eq_getElem_cons hlt
    rw [hd] at hl
    obtain ⟨hG, Γ1, eb, hbody⟩ := hl
    refine .inr ⟨w.goes i M' S H' hlt r' ee hG, fun σ2 H2 => ∃ Γ2 M2, R X.K M2 S H2 ∧ EnvR X.K (hid M2 S H2) Γ2 σ2 ∧ Ex (hid M1 S H1) (hid M2 S H2) ∧ loopFor t G ms De kx (ds.drop (i + 1)) Γ2 M2,
      fun σ2 H2 ⟨Γ2, M2, a, b, c, d⟩ => ⟨ds.length - (i + 1), by omega, rfl, hlt, Γ2, M2, a, b, c, d⟩, fun x H2 y => ?_⟩
    obtain ⟨r2, e2, d2⟩ := w.yields i ds[i] M' S H' x H2 (List.getElem?_eq_getElem hlt) r' ee hG y
    refine g_ok t d2 (er'.mono e2) eb fun σ3 er3 _ => ?_
    have e3 := ee.trans e2
    refine ⟨M', S, Γ1, _, kx, r2, er3, hbody, ?_, h2.ex (e1.trans e3), h1.ex (e1.trans e3), ?_, h5.ex (e1.trans e3)⟩
    · exact fun Γ4 M4 q4 H4 σ4 r4 e4 er4 => ⟨Γ4, M4, r4, er4, e3.trans e4, q4⟩
    · exact fun Γ4 M4 q4 H4 σ4 r4 e4 er4 => ⟨Γ4, M4, r4, er4, e3.trans e4, q4⟩
  · have hd : ds.drop i = [] := List.drop_eq_nil_of_le (by omega)
    rw [hd] at hl
    obtain ⟨hG, hn⟩ := hl
    have ei : i = ds.length := by omega
    subst ei
    exact .inl ⟨w.stops M' S H' r' ee hG, h1 Γ' M' hn H' σ' r' (e1.trans ee) er'⟩
/-! comprehensions -/
theorem pts_le {X : Cx} {e : List Expr} {t t' : TT} (h : PTs X e t) (i : ∀ σ H Q, t' σ H Q → t σ H Q) : PTs X e t' := ⟨fun pins s σ H Q I q => h.run pins s σ H Q I (i σ H Q q)⟩
theorem dts_nil : PTs X [] (tT X.K E mYes) := pts_le pts_nil fun σ H Q ⟨M, S, Γ, k, kx, r, er, h, h1, h2⟩ => h1 _ M h H r (Ex.refl _)
theorem dts_one {c : Expr} {mt : MT} (h : PT X c (tT X.K E mt)) : PTs X [c] (tT X.K E mt) := pts_one h
def addS (S : Hp) (D : Addr) (o : HO) : Hp := fun a => if a = D then some o else S a
theorem hid_addS {M : Mh} {S H : Hp} {D : Addr} {o : HO} : hid M (addS S D o) (upd H D o) = fun a => if a = D then none else hid M S H a := by
  funext a
  unfold hid addS
  by_cases e : a = D
  · subst e
    simp
  · rw [if_neg e, if_neg e, upd_ne e]
theorem XR.mono {K : PySem.W.Frag} {F F' : Hp} (e : Ex F F') {x : XD} {c : Value} {o : Option Addr} (h : XR K F x c o) : XR K F' x c o := by
  obtain ⟨h1, h2⟩ := h
  refine ⟨h1, ?_⟩
  cases q : x.fs with
  | none => rw [q] at h2; exact h2
  | some fs =>
    rw [q] at h2
    obtain ⟨d, ps, g1, g2, g3⟩ := h2
    exact ⟨d, ps, g1, e _ _ g2, KVD.mono e g3⟩
theorem wipe_wipe {σ : St} : ∀ {vs : List Nat}, wipe (wipe σ vs) vs = wipe σ vs := by
  intro vs
  have key : ∀ (us : List Nat), (∀ i ∈ us, i ∈ vs) → wipe (wipe σ us) vs = wipe σ vs := by
    intro us
    induction us with
    | nil => intro _; rfl
    | cons j us ih =>
      intro h
      show wipe ((wipe σ us).set j none) vs = wipe σ vs
      rw [wipe_set (h j (List.mem_cons_self)), ih fun i hi => h i (List.mem_cons_of_mem _ hi)]
  exact key vs fun _ h => h
theorem lc_ok {K : PySem.W.Frag} {E' : XK} {t : Tg} {tt : MT} {te : ME} {vs : List Nat} {mi : MI} (hv : ∀ i ∈ slotsT t, i ∈ vs) {σ : St} {H : Hp} {Q : VK} (h : tI K E (mLc t mi tt te vs) σ H Q) : tLc (iI K E mi) (gOf K t) (tT K E' tt) (tI K E' te) vs σ H Q := by
  obtain ⟨M, S, Γ, k, kx, r, er, h, h1, h5⟩ := h
  refine ⟨M, S, Γ, _, kx, r, er, h, fun ds G M1 ⟨hz, q⟩ H1 J r1 e1 w => ?_, h5⟩
  intro D hD
  have hM1 : M1 D = none := r1.freeM hD
  have hS : S D = none := r1.freeS hD
  -- with the new list hidden
  have hid1 : ∀ (M' : Mh) (H' : Hp) (o : HO), M' D = none → H' D = some o → hid M' (addS S D o) H' = fun a => if a = D then none else hid M' S H' a := fun M' H' o hm hh => by
    funext a
    unfold hid addS
    by_cases e : a = D
    · subst e; simp
    · rw [if_neg e, if_neg e]
  refine ⟨fun i n H' => n = ds.length - i ∧ i ≤ ds.length ∧ ∃ M' acc us, R K M' (addS S D (.lst us)) H' ∧ DVs K (hid M' (addS S D (.lst us)) H') acc us ∧ us.length ≤ i ∧ Ex (hid M1 S H1) (hid M' (addS S D (.lst us)) H') ∧ loopLc t G tt te (wipeD Γ vs) (fun acc M2 => k (.lst acc) M2) noX acc (ds.drop i) M', ⟨ds.length, by omega, Nat.zero_le _, M1, [], [], ?_, dvs_nil.mpr rfl, Nat.le_refl _, ?_, q⟩, ?_⟩
  · have rn := (r1.new (o := .lst []) hD).1
    refine ⟨fun a u e => ?_, fun a u e => ?_⟩
    · unfold addS at e
      by_cases c : a = D
      · subst c
        rw [if_pos rfl] at e
        cases e
        exact ⟨upd_same, hM1⟩
      · rw [if_neg c] at e
        exact rn.hidden a u e
    · obtain ⟨y, g1, g2⟩ := r1.chg a u e
      refine ⟨y, by rw [upd_ne (ne_of_none g1 hD)]; exact g1, g2.mono ?_⟩
      rw [hid_addS]
      intro b z hb
      have nb : b ≠ D := fun c => by subst c; rw [(hid_some.mp hb).2.2] at hD; cases hD
      show (if b = D then none else hid M1 S H1 b) = some z
      rw [if_neg nb]
      exact hb
  · rw [hid_addS]
    intro b z hb
    have nb : b ≠ D := fun c => by subst c; rw [(hid_some.mp hb).2.2] at hD; cases hD
    show (if b = D then none else hid M1 S H1 b) = some z
    rw [if_neg nb]
    exact hb
  · rintro i n H' ⟨rfl, hi, M', acc, us, r', da, hu, ee, hl⟩
    have hHD : H' D = some (.lst us) := (r'.hidden D (.lst us) (by unfold addS; rw [if_pos rfl])).1
    have hMD : M' D = none := (r'.hidden D (.lst us) (by unfold addS; rw [if_pos rfl])).2
    -- the same without hiding it
    have unh : ∀ {M'' : Mh} {H'' : Hp} {us' : List V}, R K M'' (addS S D (.lst us')) H'' → R K M'' S H'' ∧ Ex (hid M'' (addS S D (.lst us')) H'') (hid M'' S H'') := fun {M'' H'' us'} rr => by
      have ex : Ex (hid M'' (addS S D (.lst us')) H'') (hid M'' S H'') := fun b z hb => by
        obtain ⟨g1, g2, g3⟩ := hid_some.mp hb
        refine hid_some.mpr ⟨g1, ?_, g3⟩
        unfold addS at g2
        split at g2
        · cases g2
        · exact g2
      refine ⟨⟨fun a u e => rr.hidden a u ?_, fun a u e => ?_⟩, ex⟩
      · unfold addS
        have : a ≠ D := fun c => by subst c; rw [hS] at e; cases e
        rw [if_neg this]
        exact e
      · obtain ⟨y, g1, g2⟩ := rr.chg a u e
        exact ⟨y, g1, g2.mono ex⟩
    obtain ⟨ru, eu⟩ := unh r'
    by_cases hlt : i < ds.length
    · have hd : ds.drop i = ds[i] :: ds.drop (i + 1) := List.drop_eq_getElem_cons hlt
      rw [hd] at hl
      obtain ⟨hG, Γ1, eb, htest⟩ := hl
      refine .inr ⟨w.goes i M' _ H' hlt r' ee hG, fun H2 => ∃ M2 acc us, R K M2 (addS S D (.lst us)) H2 ∧ DVs K (hid M2 (addS S D (.lst us)) H2) acc us ∧ us.length ≤ i + 1 ∧ Ex (hid M1 S H1) (hid M2 (addS S D (.lst us)) H2) ∧ loopLc t G tt te (wipeD Γ vs) (fun acc M2 => k (.lst acc) M2) noX acc (ds.drop (i + 1)) M2,
        fun H2 ⟨M2, acc, us, a, b, c, d, e⟩ => ⟨ds.length - (i + 1), by omega, rfl, hlt, M2, acc, us, a, b, c, d, e⟩, fun x H2 y => ?_⟩
      -- the item, the list hidden
      obtain ⟨r2, e2, d2⟩ := w.yields i ds[i] M' _ H' x H2 (List.getElem?_eq_getElem hlt) r' ee hG y
      have e02 : Ex (hid M S H) (hid M' (addS S D (.lst us)) H2) := e1.trans (ee.trans e2)
      have kxS : ∀ {F' : Hp}, KeepX K (addS S D (.lst us)) F' noX E' := fun {F'} _ _ z => z.elim
      refine g_ok t d2 ((er.wipe vs).mono e02) eb fun σ1 er1 hw => ⟨by rw [hw vs hv, wipe_wipe], ?_⟩
      refine ⟨M', addS S D (.lst us), Γ1, _, noX, r2, er1, htest, fun b M3 q3 H3 r3 e3 => ?_, kxS⟩
      cases b with
      | false => exact ⟨M3, acc, us, r3, da.mono (e2.trans e3) _, by omega, ee.trans (e2.trans e3), q3⟩
      | true =>
        refine ⟨M3, addS S D (.lst us), Γ1, _, noX, r3, er1.mono e3, q3, fun y4 M4 q4 H4 v4 r4 e4 d4 => ?_, kxS⟩
        have hHD4 : H4 D = some (.lst us) := (r4.hidden D (.lst us) (by unfold addS; rw [if_pos rfl])).1
        have hMD4 : M4 D = none := (r4.hidden D (.lst us) (by unfold addS; rw [if_pos rfl])).2
        have eh : hid M4 (addS S D (.lst (us ++ [v4]))) (upd H4 D (.lst (us ++ [v4]))) = hid M4 (addS S D (.lst us)) H4 := by
          funext b
          unfold hid addS
          by_cases c : b = D
          · subst c; simp
          · rw [if_neg c, if_neg c, upd_ne c]
        refine ⟨us, hHD4, by omega, M4, acc ++ [y4], us ++ [v4], ⟨fun b u e => ?_, fun b u e => ?_⟩, ?_, by rw [List.length_append, List.length_singleton]; omega, ?_, q4⟩
        · unfold addS at e
          by_cases c : b = D
          · subst c
            rw [if_pos rfl] at e
            cases e
            exact ⟨upd_same, hMD4⟩
          · rw [if_neg c] at e
            rw [upd_ne c]
            exact r4.hidden b u (by unfold addS; rw [if_neg c]; exact e)
        · obtain ⟨y, g1, g2⟩ := r4.chg b u e
          have nb : b ≠ D := fun c => by subst c; rw [hMD4] at e; cases e
          exact ⟨y, by rw [upd_ne nb]; exact g1, by rw [eh]; exact g2⟩
        · rw [eh]
          exact (da.mono (e2.trans (e3.trans e4)) _).append (DVs.one d4)
        · rw [eh]
          exact ee.trans (e2.trans (e3.trans e4))
    · have hd : ds.drop i = [] := List.drop_eq_nil_of_le (by omega)
      rw [hd] at hl
      obtain ⟨hG, hn⟩ := hl
      have ei : i = ds.length := by omega
      subst ei
      refine .inl ⟨w.stops M' _ H' r' ee hG, ?_⟩
      refine h1 _ M' hn H' _ ru (e1.trans (ee.trans eu)) (dv_lst.mpr ⟨D, us, rfl, hid_some.mpr ⟨hMD, hS, hHD⟩, da.mono eu _⟩)
end
end DL
namespace DL
open PySem L2 PySem.Spec PyProof.Rows
section
variable {X : Cx} {E E' : XK} {tg iter elt : Expr} {pos : Pos} {t : Tg} {mi : MI} {tt : MT} {te : ME} {ifs : List Expr} {scope : Scope} {own : List (Str × Nat)}
theorem de_lc (hc : X.calm = true) (hN : X.N.Nodup) (hi : PI X tg iter (iI X.K E mi)) (ok : BlkOk X.N X.env.scope scope own) (hv : ∀ i ∈ slotsT t, i ∈ own.map (·.2))
    (hg : ∀ (s : Shared) (H : Hp) (C : Addr) (cl : List (Str × Addr)) (fp : List Addr), PG (X.blk s H scope (compEnvC scope cl C X.env) fp) tg (gOf X.K t))
    (ht : ∀ (s : Shared) (H : Hp) (C : Addr) (cl : List (Str × Addr)) (fp : List Addr), PTs (X.blk s H scope (compEnvC scope cl C X.env) fp) ifs (tT X.K E' tt))
    (he : ∀ (s : Shared) (H : Hp) (C : Addr) (cl : List (Str × Addr)) (fp : List Addr), PE (X.blk s H scope (compEnvC scope cl C X.env) fp) elt (tI X.K E' te)) (hs : ∀ x, foldedSetIterable iter X.env x = pure x := by intro _; rfl) :
    PE X (.ListComp elt [⟨tg, iter, ifs, 0⟩] scope pos) (tI X.K E (mLc t mi tt te (own.map (·.2)))) :=
  pe_le (pe_lc hc hN hi ok hg ht he hs) fun _ _ _ h => lc_ok hv h
theorem ds_setLc {i : Nat} {y : Str} {py spos : Pos} (hc : X.calm = true) (hN : X.N.Nodup) (hy : X.N[i]? = some y) (hyl : X.env.scope.names.lookup y = some .local)
    (hsw : swapsWith (.ListComp elt [⟨tg, iter, ifs, 0⟩] scope pos) (some (.Name y py)) spos.line X.env = pure true) (hi : PI X tg iter (iI X.K E mi)) (ok : BlkOk X.N X.env.scope scope own) (hv : ∀ i ∈ slotsT t, i ∈ own.map (·.2))
    (hg : ∀ (s : Shared) (H : Hp) (C : Addr) (cl : List (Str × Addr)) (fp : List Addr), PG (X.blk s H scope (compEnvC scope cl C X.env) fp) tg (gOf X.K t))
    (ht : ∀ (s : Shared) (H : Hp) (C : Addr) (cl : List (Str × Addr)) (fp : List Addr), PTs (X.blk s H scope (compEnvC scope cl C X.env) fp) ifs (tT X.K E' tt))
    (he : ∀ (s : Shared) (H : Hp) (C : Addr) (cl : List (Str × Addr)) (fp : List Addr), PE (X.blk s H scope (compEnvC scope cl C X.env) fp) elt (tI X.K E' te)) (hs : ∀ x, foldedSetIterable iter X.env x = pure x := by intro _; rfl) :
    PS X (.Assign [.Name y py] (.ListComp elt [⟨tg, iter, ifs, 0⟩] scope pos) spos) (tSt X.K E (mAsg (mLc t mi tt te (own.map (·.2))) (.nm i))) := by
  refine ps_le (ps_setLc hc hN hy hyl hsw hi ok hg ht he hs) fun D σ H ⟨M, S, Γ, De, kx, r, er, h, h1, h2, h3, h4, h5⟩ => ?_
  refine lc_ok hv ⟨M, S, Γ, _, kx, r, er, h, fun d M1 ⟨Γ1, eb, q⟩ H1 v r1 e1 d1 => ?_, h5⟩
  rw [bindT] at eb
  cases eb
  exact h1 _ M1 q H1 _ r1 e1 ((er.mono e1).set d1)
end
/-! ### what is walked -/
def anyG : Mh → Prop := fun _ => True
def signs (z : Str) : List D := z.cps.toList.map fun c => .str ⟨#[c]⟩
def mSeqI (m : ME) : MI := fun Γ M k kx => m Γ M (fun d M1 => match d with
  | .str z => k (signs z) anyG M1
  | .tup ds => k ds anyG M1
  | .lst ds => k ds anyG M1
  | .ref a => ∃ ds, M1 a = some (.lst ds) ∧ k ds (fun M => M a = some (.lst ds)) M1
  | _ => False) kx
def intsD (lo : Int) (n : Nat) : List D := (List.range n).map fun (i : Nat) => D.int (lo + (i : Int))
def mRange1 (ma : ME) : MI := fun Γ M k kx => ma Γ M (fun d M1 => ∃ j : Int, d = .int j ∧ -(2 ^ 62) ≤ j ∧ j < 2 ^ 62 ∧ k (intsD 0 j.toNat) anyG M1) kx
def pairs (xs ys : List D) : List D := (xs.zip ys).map fun p => .tup [p.1, p.2]
def mZip (ma mb : ME) : MI := fun Γ M k kx => ma Γ M (fun d M1 => mb Γ M1 (fun e M2 => match d, e with
  | .tup xs, .tup ys => k (pairs xs ys) anyG M2
  | d, e => ∃ xs ys, lsOf M2 d = some xs ∧ lsOf M2 e = some ys ∧ k (pairs xs ys) (fun M => lsOf M d = some xs ∧ lsOf M e = some ys) M2) kx) kx
section
variable {K : PySem.W.Frag}
theorem walkD_list {a : Addr} {vs : List V} {ds : List D} {F : Hp} (h : F a = some (.lst vs)) (hd : DVs K F ds vs) : WalkD K (Itl K a) ds anyG F := by
  have sq : ∀ {M : Mh} {S H : Hp}, Ex F (hid M S H) → SqL K H a vs := fun e => SqL.of (hid_le _ _ _ _ _ (e _ _ h))
  refine ⟨fun i M S H hi _ e _ => ?_, fun M S H _ e _ => ⟨vs, sq e, by rw [hd.length]; exact Nat.le_refl _⟩, fun i d M S H x H' q r e _ y => ?_⟩
  · rw [hd.length] at hi
    exact ⟨vs, vs[i], sq e, List.getElem?_eq_getElem hi⟩
  · obtain ⟨rfl, y⟩ := y
    obtain ⟨v, g1, g2⟩ := hd.get q
    have g3 := y vs (sq e)
    rw [g1] at g3
    cases g3
    exact ⟨r, Ex.refl _, g2.mono e _⟩
theorem walkD_mut {a : Addr} {ds : List D} {F : Hp} : WalkD K (Itl K a) ds (fun M => M a = some (.lst ds)) F := by
  have sq : ∀ {M : Mh} {S H : Hp}, R K M S H → M a = some (.lst ds) → ∃ vs, SqL K H a vs ∧ DVs K (hid M S H) ds vs := fun r g => by
    obtain ⟨u, h1, vs, rfl, h2⟩ := r.chg a _ g
    exact ⟨vs, SqL.of h1, h2⟩
  refine ⟨fun i M S H hi r _ g => ?_, fun M S H r _ g => ?_, fun i d M S H x H' q r e g y => ?_⟩
  · obtain ⟨vs, h1, h2⟩ := sq r g
    rw [h2.length] at hi
    exact ⟨vs, vs[i], h1, List.getElem?_eq_getElem hi⟩
  · obtain ⟨vs, h1, h2⟩ := sq r g
    exact ⟨vs, h1, by rw [h2.length]; exact Nat.le_refl _⟩
  · obtain ⟨vs, h1, h2⟩ := sq r g
    obtain ⟨rfl, y⟩ := y
    obtain ⟨v, g1, g2⟩ := h2.get q
    have g3 := y vs h1
    rw [g1] at g3
    cases g3
    exact ⟨r, Ex.refl _, g2⟩
theorem walkD_tup {a : Addr} {vs : List V} {ds : List D} {F : Hp} (h : SqT K F a vs) (hd : DVs K F ds vs) : WalkD K (Itt K a) ds anyG F := by
  have sq : ∀ {M : Mh} {S H : Hp}, Ex F (hid M S H) → SqT K H a vs := fun e => (e.trans (hid_le _ _ _)).sqT h
  refine ⟨fun i M S H hi _ e _ => ?_, fun M S H _ e _ => ⟨vs, sq e, by rw [hd.length]; exact Nat.le_refl _⟩, fun i d M S H x H' q r e _ y => ?_⟩
  · rw [hd.length] at hi
    exact ⟨vs, vs[i], sq e, List.getElem?_eq_getElem hi⟩
  · obtain ⟨rfl, y⟩ := y
    obtain ⟨v, g1, g2⟩ := hd.get q
    have g3 := y vs (sq e)
    rw [g1] at g3
    cases g3
    exact ⟨r, Ex.refl _, g2.mono e _⟩
theorem walkD_str {z : Str} {F : Hp} : WalkD K (Its z) (signs z) anyG F := by
  have hl : (signs z).length = z.cps.size := by unfold signs; simp
  refine ⟨fun i M S H hi _ _ _ => ?_, fun M S H _ _ _ => ?_, fun i d M S H x H' q r e _ y => ?_⟩
  · rw [hl] at hi
    exact walk_str.goes i H hi trivial
  · rw [hl]
    exact walk_str.stops H trivial
  · have hi : i < z.cps.size := by
      rw [← hl]
      exact (List.getElem?_eq_some_iff.mp q).1
    obtain ⟨rfl, c, g1, rfl⟩ := walk_str.yields i H x H' hi trivial y
    refine ⟨r, Ex.refl _, ?_⟩
    unfold signs at q
    rw [List.getElem?_map] at q
    have g2 : z.cps.toList[i]? = some c := by simpa using g1
    rw [g2] at q
    cases q
    exact dv_str.mpr rfl
theorem walkD_range {lo : Int} {n : Nat} {F : Hp} : WalkD K (Itr lo n) (intsD lo n) anyG F := by
  have hl : (intsD lo n).length = n := by unfold intsD; simp
  refine ⟨fun i M S H hi _ _ _ => by rw [hl] at hi; exact hi, fun M S H _ _ _ => by rw [hl]; exact Nat.le_refl _, fun i d M S H x H' q r e _ y => ?_⟩
  obtain ⟨rfl, rfl⟩ := y
  refine ⟨r, Ex.refl _, ?_⟩
  unfold intsD at q
  rw [List.getElem?_map] at q
  have hi : i < n := by
    cases c : (List.range n)[i]? with
    | none => rw [c] at q; cases q
    | some j => have := (List.getElem?_eq_some_iff.mp c).1; simpa using this
  rw [List.getElem?_range hi] at q
  cases q
  exact dv_int.mpr rfl
theorem pairs_get {xs ys : List D} {i : Nat} {d : D} (h : (pairs xs ys)[i]? = some d) : ∃ x y, xs[i]? = some x ∧ ys[i]? = some y ∧ d = .tup [x, y] := by
  unfold pairs at h
  rw [List.getElem?_map] at h
  cases c : (xs.zip ys)[i]? with
  | none => rw [c] at h; cases h
  | some p =>
    rw [c] at h
    cases h
    obtain ⟨h1, h2⟩ := List.getElem?_zip_eq_some.mp c
    exact ⟨p.1, p.2, h1, h2, rfl⟩
theorem pairs_len (xs ys : List D) : (pairs xs ys).length = min xs.length ys.length := by unfold pairs; simp
/-- the pair that a walk lays anew -/
theorem pair_new {M : Mh} {S H : Hp} {T : Addr} {v u : V} {d e : D} (r : R K M S H) (hT : H T = none) (h1 : DV K (hid M S H) d v) (h2 : DV K (hid M S H) e u) :
    R K M S (upd H T (.tup [v, u])) ∧ Ex (hid M S H) (hid M S (upd H T (.tup [v, u]))) ∧ DV K (hid M S (upd H T (.tup [v, u]))) (.tup [d, e]) (.ref T) := new_tup r hT (DVs.two h1 h2)
theorem walkD_zipT {a b : Addr} {vs us : List V} {xs ys : List D} {F : Hp} (h : SqT K F a vs) (hx : DVs K F xs vs) (h' : SqT K F b us) (hy : DVs K F ys us) : WalkD K (RZ.ItzT K a b) (pairs xs ys) anyG F := by
  have sq1 : ∀ {M : Mh} {S H : Hp}, Ex F (hid M S H) → SqT K H a vs := fun e => (e.trans (hid_le _ _ _)).sqT h
  have sq2 : ∀ {M : Mh} {S H : Hp}, Ex F (hid M S H) → SqT K H b us := fun e => (e.trans (hid_le _ _ _)).sqT h'
  have hl : (pairs xs ys).length = min vs.length us.length := by rw [pairs_len, hx.length, hy.length]
  refine ⟨fun i M S H hi _ e _ => ?_, fun M S H _ e _ => ?_, fun i d M S H x H' q r e _ y => ?_⟩
  · rw [hl] at hi
    exact ⟨vs, us, vs[i]'(by omega), us[i]'(by omega), sq1 e, sq2 e, List.getElem?_eq_getElem (by omega), List.getElem?_eq_getElem (by omega)⟩
  · exact ⟨vs, us, sq1 e, sq2 e, by rw [hl]; omega⟩
  · obtain ⟨d1, d2, q1, q2, rfl⟩ := pairs_get q
    obtain ⟨T, x1, x2, rfl, hT, rfl, g1, g2⟩ := y
    obtain ⟨w1, k1, k2⟩ := hx.get q1
    obtain ⟨w2, k3, k4⟩ := hy.get q2
    cases k1.symm.trans (g1 vs (sq1 e))
    cases k3.symm.trans (g2 us (sq2 e))
    exact pair_new r hT (k2.mono e _) (k4.mono e _)
theorem walkD_zipL {a b : Addr} {d e : D} {va vb : V} {xs ys : List D} {F : Hp} (ha : DV K F d (.ref a)) (hb : DV K F e (.ref b)) :
    WalkD K (Itz K a b) (pairs xs ys) (fun M => lsOf M d = some xs ∧ lsOf M e = some ys) F := by
  have sq : ∀ {M : Mh} {S H : Hp}, R K M S H → Ex F (hid M S H) → (lsOf M d = some xs ∧ lsOf M e = some ys) → ∃ vs us, (SqL K H a vs ∧ SqL K H b us) ∧ DVs K (hid M S H) xs vs ∧ DVs K (hid M S H) ys us := fun r ex g => by
    obtain ⟨a', vs, e1, h1, h2⟩ := ls_sq r (ha.mono ex _) g.1
    obtain ⟨b', us, e2, h3, h4⟩ := ls_sq r (hb.mono ex _) g.2
    cases e1
    cases e2
    exact ⟨vs, us, ⟨SqL.of h1, SqL.of h3⟩, h2, h4⟩
  refine ⟨fun i M S H hi r ex g => ?_, fun M S H r ex g => ?_, fun i dd M S H x H' q r ex g y => ?_⟩
  · obtain ⟨vs, us, h1, h2, h3⟩ := sq r ex g
    rw [pairs_len, h2.length, h3.length] at hi
    exact (walk_zip rfl).goes i H hi h1
  · obtain ⟨vs, us, h1, h2, h3⟩ := sq r ex g
    rw [pairs_len, h2.length, h3.length]
    exact (walk_zip rfl).stops H h1
  · obtain ⟨vs, us, h1, h2, h3⟩ := sq r ex g
    have hi := (List.getElem?_eq_some_iff.mp q).1
    rw [pairs_len, h2.length, h3.length] at hi
    obtain ⟨d1, d2, q1, q2, rfl⟩ := pairs_get q
    obtain ⟨T, x1, x2, rfl, hT, rfl, g1, g2⟩ := (walk_zip rfl).yields i H x H' hi h1 y
    obtain ⟨w1, k1, k2⟩ := h2.get q1
    obtain ⟨w2, k3, k4⟩ := h3.get q2
    cases k1.symm.trans g1
    cases k3.symm.trans g2
    exact pair_new r hT k2 k4
end
section
variable {X : Cx} {E : XK} {tg l e1 e2 : Expr} {m ma mb : ME} {p pos tpos : Pos}
theorem pi_le {X : Cx} {tg iter : Expr} {w w' : TI} (h : PI X tg iter w) (i : ∀ σ H R, w' σ H R → w σ H R) : PI X tg iter w' := ⟨fun pins s σ H R I q => h.run pins s σ H R I (i σ H R q)⟩
/-- a text, a tuple, a list, whichever it is -/
def iAny (K : PySem.W.Frag) (tl : TE) : TI := fun σ H Rr => tl σ H fun x H1 => (∃ z, x = .str z ∧ Rr (Its z) H1) ∨ (∃ a xs, x = .ref a ∧ SqT K H1 a xs ∧ Rr (Itt K a) H1) ∨ ∃ a xs, x = .ref a ∧ SqL K H1 a xs ∧ Rr (Itl K a) H1
theorem pi_any {tl : TE} (hl : PE X l tl) : PI X tg l (iAny X.K tl) := by
  refine ⟨fun pins s σ H Rr I hq => thn (hl.run pins s σ H _ I hq) fun u s1 ⟨x, H1, I1, r1, q1⟩ => ?_⟩
  rcases q1 with ⟨z, ex, q⟩ | ⟨a, xs, ex, hx, q⟩ | ⟨a, xs, ex, hx, q⟩
  · subst ex
    obtain ⟨tk, rfl⟩ := r1
    cases hz : z.cps.all (· < 128) with
    | false => exact wpAny_pyIter_wide hz (pi_one (tk := s1.toks) I1 _ (turn_str _ z tk "str_iterator" (.inr rfl)) ⟨_, Heap.get?_push_size _ rfl, rfl, rfl⟩ q)
    | true => exact wpAny_pyIter_ascii hz (pi_one (tk := s1.toks) I1 _ (turn_str _ z tk "str_ascii_iterator" (.inl rfl)) ⟨_, Heap.get?_push_size _ rfl, rfl, rfl⟩ q)
  · subst ex
    cases r1
    obtain ⟨its, _, hT, _⟩ := I1.tuple hx
    exact wpAny_pyIter_tuple (show s1.heap.IsTuple a its.toArray from hT) (pi_one (tk := s1.toks) I1 _ (turn_tuple a _) ⟨_, Heap.get?_push_size _ rfl, rfl, rfl⟩ q)
  · subst ex
    cases r1
    obtain ⟨its, _, hT, _⟩ := I1.list hx
    exact wpAny_pyIter_list hT.isList (pi_one (tk := s1.toks) I1 _ (turn_list a _) ⟨_, Heap.get?_push_size _ rfl, rfl, rfl⟩ q)
theorem di_seq (hl : PE X l (tI X.K E m)) : PI X tg l (iI X.K E (mSeqI m)) := by
  refine pi_le (pi_any hl) fun σ H Rr ⟨M, S, Γ, k, kx, r, er, h, h1, h5⟩ => ?_
  refine ⟨M, S, Γ, _, kx, r, er, h, fun d M1 q H1 v r1 e1 d1 => ?_, h5⟩
  cases d with
  | str z => exact .inl ⟨z, dv_str.mp d1, h1 _ _ M1 q H1 _ r1 e1 walkD_str⟩
  | tup ds =>
    obtain ⟨a, vs, rfl, g1, g2⟩ := dv_tup.mp d1
    exact .inr (.inl ⟨a, vs, rfl, (hid_le _ _ _).sqT g1, h1 _ _ M1 q H1 _ r1 e1 (walkD_tup g1 g2)⟩)
  | lst ds =>
    obtain ⟨a, vs, rfl, g1, g2⟩ := dv_lst.mp d1
    exact .inr (.inr ⟨a, vs, rfl, SqL.of (hid_le _ _ _ _ _ g1), h1 _ _ M1 q H1 _ r1 e1 (walkD_list g1 g2)⟩)
  | ref a =>
    obtain ⟨ds, q0, q⟩ := q
    obtain ⟨u, g1, vs, rfl, g2⟩ := r1.chg a _ q0
    exact .inr (.inr ⟨a, vs, dv_ref.mp d1, SqL.of g1, h1 _ _ M1 q H1 _ r1 e1 walkD_mut⟩)
  | non => exact q.elim
  | bl _ => exact q.elim
  | int _ => exact q.elim
  | ty _ => exact q.elim
  | scr _ => exact q.elim
  | exc _ _ _ _ => exact q.elim
theorem di_range1 (hg : Gl X "range") (hm : X.mg "range" = none) (ha : PE X l (tI X.K E m)) (hs : starEach [l] X.env = [(false, eval l X.env)] := by rfl) : PI X tg (.Call (.Name "range" p) [l] [] pos) (iI X.K E (mRange1 m)) := by
  refine pi_le (pi_range1 hg hm (pa_cons ha pa_nil hs) hs) fun σ H Rr ⟨M, S, Γ, k, kx, r, er, h, h1, h5⟩ => ?_
  refine ⟨M, S, Γ, _, kx, r, er, h, fun d M1 ⟨j, ej, q1, q2, q⟩ H1 v r1 e1 d1 => ?_, h5⟩
  subst ej
  refine ⟨j, by rw [dv_int.mp d1], q1, q2, h1 _ _ M1 q H1 _ r1 e1 walkD_range⟩
theorem di_zip {elts : List Expr} {kk : Nat} (hg : Gl X "zip") (hm : X.mg "zip" = none) (ha : PE X e1 (tI X.K E ma)) (hb : PE X e2 (tI X.K E mb)) (hs2 : starEach [e2] X.env = [(false, eval e2 X.env)] := by rfl)
    (hs : starEach [e1, e2] X.env = (false, eval e1 X.env) :: starEach [e2] X.env := by rfl) (hpl : (backTo pos (starEach [e2] X.env)).any (·.1) = false := by rfl) :
    PI X (.Tuple elts kk tpos) (.Call (.Name "zip" p) [e1, e2] [] pos) (iI X.K E (mZip ma mb)) := by
  refine pi_le (RZ.pi_zipA hg hm (pa_cons ha (pa_cons hb pa_nil hs2) hs) hs hpl) fun σ H Rr ⟨M, S, Γ, k, kx, r, er, h, h1, h5⟩ => ?_
  refine ⟨M, S, Γ, _, kx, r, er, h, fun d M1 q H1 v r1 e1 d1 => ?_, h5⟩
  refine ⟨M1, S, Γ, _, kx, r1, er.mono e1, q, fun e M2 q2 H2 u r2 e2 d2 => ?_, h5.ex e1⟩
  have d1' := d1.mono e2 _
  dsimp only at q2
  split at q2
  · obtain ⟨a, vs, rfl, g1, g2⟩ := dv_tup.mp d1'
    obtain ⟨b, us, rfl, g3, g4⟩ := dv_tup.mp d2
    exact ⟨a, b, vs, us, rfl, .inr ⟨(hid_le _ _ _).sqT g1, (hid_le _ _ _).sqT g3, h1 _ _ M2 q2 H2 _ r2 (e1.trans e2) (walkD_zipT g1 g2 g3 g4)⟩⟩
  · obtain ⟨xs, ys, l1, l2, q2⟩ := q2
    obtain ⟨a, vs, rfl, g1, g2⟩ := ls_sq r2 d1' l1
    obtain ⟨b, us, rfl, g3, g4⟩ := ls_sq r2 d2 l2
    exact ⟨a, b, vs, us, rfl, .inl ⟨SqL.of g1, SqL.of g3, h1 _ _ M2 q2 H2 _ r2 (e1.trans e2) (walkD_zipL (va := .non) (vb := .non) d1' d2)⟩⟩
end
end DL
namespace DL
open PySem L2 PySem.Spec PyProof.Rows
/-! ### o[i] = e, for a list that may change -/
def mSetIx (me mo mi : ME) : MS := fun De Γ M kx => me Γ M (fun d M1 => mo Γ M1 (fun o M2 => mi Γ M2 (fun i M3 => ∃ a ds j n, o = .ref a ∧ M3 a = some (.lst ds) ∧ i = .int n ∧ ixN ds.length n = some j ∧ De.nx Γ (setM M3 a (.lst (ds.set j d)))) kx) kx) kx
section
variable {X : Cx} {E : XK} {e o i : Expr} {me mo mi : ME} {pos p2 : Pos}
theorem ds_setIx (he : PE X e (tI X.K E me)) (ho : PE X o (tI X.K E mo)) (hi : PE X i (tI X.K E mi))
    (ha : ∀ v, assign (.Subscript o i p2) X.env v = (do
      let ov ← holding [v] (eval o X.env)
      let iv ← holding [v, ov] (eval i X.env)
      standAt p2
      holding [v, ov, iv] (setItem ov iv v)
      release [v, ov, iv] []) := by intro _; rfl)
    (hs : swapsWithSole [.Subscript o i p2] e pos.line X.env = pure false := by rfl) (hw : swappedStores [.Subscript o i p2] e X.env = pure none := by rfl)
    (h1 : (assignEach [.Subscript o i p2] X.env).map (·.2) = [assign (.Subscript o i p2) X.env] := by rfl) : PS X (.Assign [.Subscript o i p2] e pos) (tSt X.K E (mSetIx me mo mi)) := by
  refine ps_le (ps_asg he (pg_sub ho hi set_list ha) hs hw h1) fun D σ H ⟨M, S, Γ, De, kx, r, er, h, h1, h2, h3, h4, h5⟩ => ?_
  refine ⟨M, S, Γ, _, kx, r, er, h, fun d M1 q1 H1 v1 r1 e1 d1 => ?_, h5⟩
  refine ⟨M1, S, Γ, _, kx, r1, er.mono e1, q1, fun oo M2 q2 H2 v2 r2 e2 d2 => ?_, h5.ex e1⟩
  refine ⟨M2, S, Γ, _, kx, r2, er.mono (e1.trans e2), q2, fun ii M3 q3 H3 v3 r3 e3 d3 => ?_, h5.ex (e1.trans e2)⟩
  obtain ⟨a, ds, j, n, rfl, g1, rfl, g2, q⟩ := q3
  obtain ⟨u, g3, vs, rfl, g4⟩ := r3.chg a _ g1
  have d1' := d1.mono (e2.trans e3) _
  have hs : (M3 a).isSome = true := by rw [g1]; rfl
  refine ⟨a, vs, n, j, dv_ref.mp d2, dv_int.mp d3, g3, by rw [← g4.length]; exact g2, ?_⟩
  refine h1 Γ _ q _ σ (r3.put (.inl hs) ⟨_, rfl, g4.set d1' j⟩) ?_ ?_
  · rw [hid_set _ _ _ _ _ _ (.inl hs)]
    exact (e1.trans e2).trans e3
  · rw [hid_set _ _ _ _ _ _ (.inl hs)]
    exact er.mono ((e1.trans e2).trans e3)
end
/-! ### a def -/
def startD (n : Nat) (ds : List D) : Env := ds.map some ++ List.replicate (n - ds.length) none
theorem start_ok {K : PySem.W.Frag} {F : Hp} {N : List Str} {ds : List D} {vs : List V} (h : DVs K F ds vs) : EnvR K F (startD N.length ds) (L2.start N vs) := by
  unfold startD L2.start
  refine ⟨by simp [h.length], fun i d q => ?_⟩
  rw [h.length] at q
  by_cases hi : i < ds.length
  · rw [List.getElem?_append_left (by simpa using hi), List.getElem?_map] at q
    cases c : ds[i]? with
    | none => rw [c] at q; cases q
    | some e =>
      rw [c] at q
      cases q
      obtain ⟨v, g1, g2⟩ := h.get c
      refine ⟨v, ?_, g2⟩
      rw [List.getElem?_append_left (by rw [List.length_map, ← h.length]; exact hi), List.getElem?_map, g1]
      rfl
  · rw [List.getElem?_append_right (by simpa using hi), List.getElem?_replicate] at q
    split at q
    · cases q
    · cases q
theorem passN {X : Cx} {E : XK} : Passes CX0 X E := fun _ _ _ _ _ _ _ h => h.elim
section
variable {P : Program} {w : World} {K : PySem.W.Frag} {mg : Str → Option Value} {base : Heap} {x qual : Str} {params : Arguments} {body : List Stmt} {scope : Scope} {dvs : List V} {kws : List (Str × V)} {f : Addr} {fd : FuncData}
/-- a def that lets no exception out -/
theorem d_ok0 {N ps : List Str} {k : Nat} {m : MS} {s : MF} (F : FunD K x qual params body scope dvs kws f fd) (S : FnScope N ps scope)
    (hb : ∀ (cdv : Value) (A : Around) (outer : List PySem.Env) (sh : Shared) (H : Hp) (E : XK), Room k (A.deeper (envOfC qual scope sh.heap.objs.size f cdv)) → PSs (cxOf CX0 P w K mg base N qual scope f cdv A outer sh H E).nox body (tSt K E0 m))
    (len : ∀ ds M k kx, s ds M k kx → ds.length = ps.length)
    (hs : ∀ ds M k kx, s ds M k kx → m { nx := fun _ M' => k .non M', rt := k } (startD N.length ds) M noX) : FnOk P w K mg base CX0 (k + 1) f fd ps (spI K s) := by
  refine F.ok S (fun vs H Q E ⟨M, S, ds, k, kx, r, hd, h, _⟩ => by rw [← hd.length]; exact len _ _ _ _ h) fun cdv A outer sh H vs Q E hr ⟨M, S, ds, k, kx, r, hd, h, kv, kxx⟩ => ⟨_, PSs.nox (hb cdv A outer sh H E hr), ?_⟩
  refine ⟨M, S, _, _, noX, r, start_ok hd, hs _ _ _ _ h, fun Γ' M' q H' σ' r' e' er' => kv _ M' q H' _ r' e' (dv_non.mpr rfl), kv, fun Γ' M' q => q.elim, fun Γ' M' q => q.elim, fun _ _ q => q.elim⟩
theorem FnOk.spec {CX : CXT} {ps : List Str} {k : Nat} {s s' : MF} (F : FnOk P w K mg base CX k f fd ps (spI K s)) (h : ∀ ds M k kx, s' ds M k kx → s ds M k kx) : FnOk P w K mg base CX k f fd ps (spI K s') :=
  F.imp fun vs H Q E ⟨M, S, ds, k, kx, r, hd, q, kv, kxx⟩ => ⟨M, S, ds, k, kx, r, hd, h _ _ _ _ q, kv, kxx⟩
end
/-! ### the box -/
def BoxD (ds : List D) : Prop := ∃ (ns : List Int) (i big mix cnt : Int), ds = [.lst (ns.map D.int), .int i, .int big, .int mix, .int cnt] ∧ 0 ≤ i ∧ 0 ≤ big ∧ 0 ≤ mix ∧ mix < 2147483648
section
variable {K : PySem.W.Frag} {M : Mh} {S H : Hp} {b : Addr}
theorem hid_dom {M M' : Mh} {S H : Hp} (h : ∀ a, (M a).isSome = (M' a).isSome) : hid M S H = hid M' S H := by
  funext a
  unfold hid
  rw [h a]
theorem setM_dom {m : MO} (h : (M b).isSome = true) : ∀ a, (setM M b m a).isSome = (M a).isSome := fun a => by
  unfold setM
  split
  · rename_i e; rw [e, h]; rfl
  · rfl
theorem R.view {m m' : MO} (r : R K M S H) (h : M b = some m) (hm : ∀ u, H b = some u → MOR K (hid M S H) m u → MOR K (hid M S H) m' u) : R K (setM M b m') S H ∧ hid (setM M b m') S H = hid M S H := by
  have eh : hid (setM M b m') S H = hid M S H := hid_dom (setM_dom (by rw [h]; rfl))
  refine ⟨⟨fun a u e => ?_, fun a u e => ?_⟩, eh⟩
  · obtain ⟨h1, h2⟩ := r.hidden a u e
    refine ⟨h1, ?_⟩
    unfold setM
    rw [if_neg fun c => by rw [c, h] at h2; cases h2]
    exact h2
  · rw [eh]
    unfold setM at e
    split at e
    · rename_i c
      cases e
      obtain ⟨y, g1, g2⟩ := r.chg b m h
      rw [c]
      exact ⟨y, g1, hm y g1 g2⟩
    · exact r.chg a u e
theorem ints_back {F : Hp} : ∀ {ns : List Int} {vs : List V}, DVs K F (ns.map D.int) vs → vs = ns.map V.int
  | [], _, h => dvs_nil.mp h
  | n :: ns, _, h => by
    obtain ⟨v, r, rfl, h1, h2⟩ := dvs_cons.mp h
    rw [dv_int.mp h1, ints_back h2]
    rfl
theorem box_in (r : R K M S H) (h : M b = some .box) : ∃ ds, BoxD ds ∧ R K (setM M b (.lst ds)) S H ∧ hid (setM M b (.lst ds)) S H = hid M S H := by
  obtain ⟨u, g1, vs, rfl, l, i, big, mix, cnt, ns, rfl, g2, g3⟩ := r.chg b _ h
  refine ⟨[.lst (ns.map D.int), .int i, .int big, .int mix, .int cnt], ⟨ns, i, big, mix, cnt, rfl, g3⟩, r.view h fun u q _ => ?_⟩
  rw [g1] at q
  cases q
  refine ⟨_, rfl, ?_⟩
  exact dvs_cons.mpr ⟨_, _, rfl, dv_lst.mpr ⟨l, _, rfl, g2, dvs_ints ns⟩, dvs_cons.mpr ⟨_, _, rfl, dv_int.mpr rfl, dvs_cons.mpr ⟨_, _, rfl, dv_int.mpr rfl, DVs.two (dv_int.mpr rfl) (dv_int.mpr rfl)⟩⟩⟩
theorem box_out {ds : List D} (r : R K M S H) (h : M b = some (.lst ds)) (hb : BoxD ds) : R K (setM M b .box) S H ∧ hid (setM M b .box) S H = hid M S H := by
  refine r.view h fun u _ hm => ?_
  obtain ⟨vs, rfl, hd⟩ := hm
  obtain ⟨ns, i, big, mix, cnt, rfl, g⟩ := hb
  obtain ⟨v1, r1, rfl, h1, hd⟩ := dvs_cons.mp hd
  obtain ⟨v2, r2, rfl, h2, hd⟩ := dvs_cons.mp hd
  obtain ⟨v3, r3, rfl, h3, hd⟩ := dvs_cons.mp hd
  obtain ⟨v4, v5, rfl, h4, h5⟩ := dc_two hd
  obtain ⟨l, ws, rfl, g1, g2⟩ := dv_lst.mp h1
  refine ⟨_, rfl, l, i, big, mix, cnt, ns, ?_, ?_, g⟩
  · rw [dv_int.mp h2, dv_int.mp h3, dv_int.mp h4, dv_int.mp h5]
  · rw [g1, ints_back g2]
end
theorem setM_at {M : Mh} {a : Addr} {o : MO} : setM M a o a = some o := by unfold setM; rw [if_pos rfl]
theorem setM_ne {M : Mh} {a b : Addr} {o : MO} (h : b ≠ a) : setM M a o b = M b := by unfold setM; rw [if_neg h]
theorem setM_setM {M : Mh} {a : Addr} {o u : MO} : setM (setM M a o) a u = setM M a u := by funext b; unfold setM; split <;> rfl
theorem setM_same {M : Mh} {a : Addr} {o : MO} (h : M a = some o) : setM M a o = M := by
  funext b
  unfold setM
  split
  · rename_i e; rw [e, h]
  · rfl
section
variable {P : Program} {w : World} {K : PySem.W.Frag} {mg : Str → Option Value} {base : Heap} {f : Addr} {fd : FuncData}
/-- what pulling does, the box a thing of its own -/
def sPull : MF := fun ds M k _ => ∃ b n, ds = [.ref b, .int n] ∧ M b = some .box ∧ 0 < n ∧ n < 1073741824 ∧ ∀ r, 0 ≤ r → r < n → k (.int r) M
theorem pull_box {CX : CXT} {k : Nat} {ps : List Str} {m : MF} (F : FnOk P w K mg base CX k f fd ps (spI K m))
    (h : ∀ (b : Addr) (n : Int) (ds : List D) (M : Mh) (k : DK), BoxD ds → 0 < n → n < 1073741824 → M b = some (.lst ds) → (∀ r ds', 0 ≤ r → r < n → BoxD ds' → k (.int r) (setM M b (.lst ds'))) → m [.ref b, .int n] M k noX) : FnOk P w K mg base CX k f fd ps (spI K sPull) := by
  refine F.imp fun vs H Q E ⟨M, S, ds, k, kx, r, hd, ⟨b, n, e, hb, h1, h2, q⟩, kv, kxx⟩ => ?_
  subst e
  obtain ⟨es, be, r', eh⟩ := box_in r hb
  refine ⟨_, S, _, fun d M' => ∃ ds', BoxD ds' ∧ M' b = some (.lst ds') ∧ k d (setM M' b .box), noX, r', by rw [eh]; exact hd, h b n es _ _ be h1 h2 setM_at fun z ds' z1 z2 bd => ⟨ds', bd, setM_at, ?_⟩, fun d M' ⟨ds', bd, g1, g2⟩ H' v rr ee dd => ?_, fun _ _ z => z.elim⟩
  · rw [setM_setM, setM_setM, setM_same hb]
    exact q z z1 z2
  · obtain ⟨r2, e2⟩ := box_out rr g1 bd
    refine kv d _ g2 H' v r2 ?_ ?_
    · rw [e2, ← eh]
      exact ee
    · rw [e2]
      exact dd
def sBox : MF := fun ds M k _ => ∃ ns : List Int, ds = [.scr ns] ∧ ns.length ≤ 63 ∧ ∀ p, M p = none → k (.ref p) (setM M p .box)
theorem box_box {CX : CXT} {k : Nat} {ps : List Str} {m : MF} (F : FnOk P w K mg base CX k f fd ps (spI K m))
    (h : ∀ (ns : List Int) (M : Mh) (k : DK), ns.length ≤ 63 → (∀ p ds, M p = none → BoxD ds → k (.ref p) (setM M p (.lst ds))) → m [.scr ns] M k noX) : FnOk P w K mg base CX k f fd ps (spI K sBox) := by
  refine F.imp fun vs H Q E ⟨M, S, ds, k, kx, r, hd, ⟨ns, e, hl, q⟩, kv, kxx⟩ => ?_
  subst e
  refine ⟨M, S, _, fun d M' => ∃ p ds, M p = none ∧ d = .ref p ∧ BoxD ds ∧ M' = setM M p (.lst ds), noX, r, hd, h ns M _ hl fun p ds hp bd => ⟨p, ds, hp, rfl, bd, rfl⟩, fun d M' ⟨p, ds, hp, e1, bd, e2⟩ H' v rr ee dd => ?_, fun _ _ z => z.elim⟩
  subst e1 e2
  obtain ⟨r2, e2⟩ := box_out rr setM_at bd
  rw [setM_setM] at r2 e2
  refine kv _ _ (q p hp) H' v r2 ?_ ?_
  · rw [e2]
    exact ee
  · rw [e2]
    exact dd
end
end DL
namespace DL
open PySem L2 PySem.Spec PyProof.Rows
section
variable {X : Cx} {E : XK} {x : Str} {pos p : Pos}
/-! ### the module's constants -/
theorem de_gstr {z : Str} (hg : Gl X x) (hm : ∃ t, X.mg x = some (.str z t)) (hd : (x == ("__debug__" : Str)) = false := by decide) : PE X (.Name x pos) (tI X.K E (mC (.str z))) := by
  obtain ⟨t, hm⟩ := hm
  exact de_c (pe_glob hg hm (v := .str z) ⟨t, rfl⟩ hd) fun _ => dv_str.mpr rfl
theorem de_gint {i : Int} (hg : Gl X x) (hm : ∃ t, X.mg x = some (.int i t)) (hd : (x == ("__debug__" : Str)) = false := by decide) : PE X (.Name x pos) (tI X.K E (mC (.int i))) := by
  obtain ⟨t, hm⟩ := hm
  exact de_c (pe_glob hg hm (v := .int i) ⟨t, rfl⟩ hd) fun _ => dv_int.mpr rfl
theorem de_gref {a : Addr} {d : D} (hg : Gl X x) (hm : X.mg x = some (.ref a)) (g : ∀ F, DV X.K F d (.ref a)) (hd : (x == ("__debug__" : Str)) = false := by decide) : PE X (.Name x pos) (tI X.K E (mC d)) :=
  de_c (pe_glob hg hm (v := .ref a) rfl hd) g
/-! ### targets -/
theorem dg_nm {i : Nat} {K : PySem.W.Frag} (hN : X.N.Nodup) (hi : X.N[i]? = some x) (hx : Loc X.env.scope x := by first | exact Or.inl rfl | exact Or.inr rfl) (hf : X.fn x = true ∨ X.env.scope.names.lookup x = some .local := by first | exact .inl rfl | exact .inr rfl) : PG X (.Name x pos) (gOf K (.nm i)) := by
  rw [gOf]
  exact pg_name hN hi hx hf
theorem dg_tp {es : List Expr} {k : Nat} {ts : List Tg} {K : PySem.W.Frag} (hK : X.K = K) (hc : X.calm = true) (h : PGs X es (gsOf K ts)) (hn : (assignEach es X.env).length = ts.length := by rfl) (hst : (assignEach es X.env).findIdx? (·.1) = none := by rfl) : PG X (.Tuple es k pos) (gOf K (.tp ts)) := by
  subst hK
  rw [gOf]
  exact pg_tup hc h hn hst
theorem dgs_nil {K : PySem.W.Frag} : PGs X [] (gsOf K []) := by
  rw [gsOf]
  exact pgs_nil
theorem dgs_cons {e : Expr} {es : List Expr} {t : Tg} {ts : List Tg} {K : PySem.W.Frag} (h1 : PG X e (gOf K t)) (h2 : PGs X es (gsOf K ts)) (hs : (assignEach (e :: es) X.env).map (·.2) = assign e X.env :: (assignEach es X.env).map (·.2) := by rfl) : PGs X (e :: es) (gsOf K (t :: ts)) := by
  rw [gsOf]
  exact pgs_cons h1 h2 hs
/-! ### own defs -/
/-- the def called x keeps the promise s -/
structure Df (P : Program) (w : World) (K : PySem.W.Frag) (mg : Str → Option Value) (base : Heap) (CX : CXT) (k : Nat) (f : Addr) (fd : FuncData) (x : Str) (ps : List Str) (s : MF) : Prop where
  ok : FnOk P w K mg base CX k f fd ps (spI K s)
  gl : mg x = some (.ref f)
  kp : PySem.W.keepIn K (.ref f) = true
variable {CX : CXT} {k : Nat} {f : Addr} {fd : FuncData} {ps : List Str} {s : MF} {e : Expr} {es : List Expr} {mA mB : MA} {kws : List Keyword}
theorem de_callD (F : Df X.prog X.w X.K X.mg X.base CX k f fd x ps s) (hr : Room k X.A) (hg : Gl X x) (hb : Binds X.K fd ps []) (hx : Passes CX X E)
    (ha : PA X (e :: es) (tA X.K E mA)) (hdb : (x == ("__debug__" : Str)) = false := by decide) (he : starEach (e :: es) X.env = (false, eval e X.env) :: starEach es X.env := by rfl) (hpl : (backTo pos (starEach es X.env)).any (·.1) = false := by rfl) :
    PE X (.Call (.Name x p) (e :: es) [] pos) (tI X.K E (mCall s mA)) := de_call F.ok hr hg F.gl F.kp hb hx ha hdb he hpl
/-- a call's form: n values by place, the keywords ks; g puts them in the parameters' order -/
def Shape (K : PySem.W.Frag) (fd : FuncData) (ps : List Str) (n : Nat) (ks : List Str) (gD : List D → List D → List D) : Prop :=
  ∃ g gV, KBn K fd ps n ks g gV ∧ ∀ (F : Hp) (ds es : List D) (vs zs : List V), DVs K F ds vs → DVs K F es zs → ds.length = n → es.length = ks.length → DVs K F (gD ds es) (gV vs zs)
def mCallN (n m : Nat) (s : MF) (gD : List D → List D → List D) (ma mk : MA) : ME := fun Γ M k kx => ma Γ M (fun ds M1 => mk Γ M1 (fun es M2 => ds.length = n ∧ es.length = m ∧ s (gD ds es) M2 k kx) kx) kx
theorem pk_le {X : Cx} {kws : List Keyword} {t t' : TA} (h : PK X kws t) (i : ∀ σ H Q, t' σ H Q → t σ H Q) : PK X kws t' := ⟨fun pos pins s σ H Q I q => h.run pos pins s σ H Q I (i σ H Q q)⟩
theorem dk_nil : PK X [] (tA X.K E mNil) := pk_le pk_nil fun σ H Q ⟨M, S, Γ, k, kx, hr, er, hm, kv, kxx⟩ => kv [] M hm H [] hr (Ex.refl _) (dvs_nil.mpr rfl)
theorem dk_cons {nm : Option Str} {kpos : Pos} {ma : ME} (ha : PE X e (tI X.K E ma)) (hr : PK X kws (tA X.K E mA)) : PK X (⟨nm, e, kpos⟩ :: kws) (tA X.K E (mCons ma mA)) := pk_le (pk_cons ha hr) fun _ _ _ h => tA_cons h
theorem tI_callN {K : PySem.W.Frag} {n m : Nat} {gD : List D → List D → List D} {gV : List V → List V → List V} (hd : ∀ (F : Hp) (ds es : List D) (vs zs : List V), DVs K F ds vs → DVs K F es zs → ds.length = n → es.length = m → DVs K F (gD ds es) (gV vs zs))
    {σ : L2.St} {H : Hp} {Q : VK} (h : tI K E (mCallN n m s gD mA mB) σ H Q) : tCallN n m (spI K s) gV E (tA K E mA) (tA K E mB) σ H Q := by
  obtain ⟨M, S, Γ, k, kx, hr, er, hm, kv, kxx⟩ := h
  refine ⟨M, S, Γ, _, kx, hr, er, hm, fun ds M1 q1 H1 v1 r1 e1 d1 => ?_, kxx⟩
  refine ⟨M1, S, Γ, _, kx, r1, er.mono e1, q1, fun es M2 ⟨l1, l2, q2⟩ H2 v2 r2 e2 d2 => ?_, kxx.ex e1⟩
  exact ⟨by rw [← d1.length]; exact l1, by rw [← d2.length]; exact l2, M2, S, _, k, kx, r2, hd _ _ _ _ _ (d1.mono e2 _) d2 l1 l2, q2, kv.ex (e1.trans e2), kxx.ex (e1.trans e2)⟩
theorem de_callN {n : Nat} {ks : List Str} {gD : List D → List D → List D} (F : Df X.prog X.w X.K X.mg X.base CX k f fd x ps s) (hr : Room k X.A) (hg : Gl X x) (hb : Shape X.K fd ps n ks gD) (hx : Passes CX X E)
    (ha : PA X (e :: es) (tA X.K E mA)) (hkw : PK X kws (tA X.K E mB)) (hall : (backToKw pos (keywordEach kws X.env)).all (·.1.isSome) = true := by rfl) (hks : (backToKw pos (keywordEach kws X.env)).filterMap (·.1) = ks := by rfl)
    (hdb : (x == ("__debug__" : Str)) = false := by decide) (he : starEach (e :: es) X.env = (false, eval e X.env) :: starEach es X.env := by rfl)
    (hpl : ((backTo pos (starEach (e :: es) X.env)).any (·.1) || (backToKw pos (keywordEach kws X.env)).any (·.1.isNone)) = false := by rfl) :
    PE X (.Call (.Name x p) (e :: es) kws pos) (tI X.K E (mCallN n ks.length s gD mA mB)) := by
  obtain ⟨g, gV, hb, hd⟩ := hb
  exact pe_le (pe_callN F.ok hr hg F.gl F.kp hb hx ha hkw hall hks hdb he hpl) fun _ _ _ h => tI_callN hd h
/-- f(k = v, ..), keywords alone -/
theorem de_callN0 {ks : List Str} {gD : List D → List D → List D} (F : Df X.prog X.w X.K X.mg X.base CX k f fd x ps s) (hr : Room k X.A) (hg : Gl X x) (hb : Shape X.K fd ps 0 ks gD) (hx : Passes CX X E)
    (hkw : PK X kws (tA X.K E mB)) (hall : (backToKw pos (keywordEach kws X.env)).all (·.1.isSome) = true := by rfl) (hks : (backToKw pos (keywordEach kws X.env)).filterMap (·.1) = ks := by rfl)
    (hdb : (x == ("__debug__" : Str)) = false := by decide)
    (hpl : ((backTo pos (starEach [] X.env)).any (·.1) || (backToKw pos (keywordEach kws X.env)).any (·.1.isNone)) = false := by rfl) :
    PE X (.Call (.Name x p) [] kws pos) (tI X.K E (mCallN 0 ks.length s gD mNil mB)) := by
  obtain ⟨g, gV, hb, hd⟩ := hb
  have hp : PE X (.Call (.Name x p) [] kws pos) (tCallN 0 ks.length (spI X.K s) gV E tNil (tA X.K E mB)) := by
    refine ⟨fun pins sh σ H Q I hq => wpAny_Call_Name_kw (ld_glob I hg F.gl ?_ hdb)⟩
    refine PySem.W.callWith_KW0 (h₀ := X.base) I.ok.mod.kin F.kp hall (thn (hkw.run pos pins sh σ H _ I hq) fun ws s2 ⟨zs, H2, I2, rz, l1, l2, q2⟩ => ⟨I2.kIn, ?_⟩) hpl
    rw [hks]
    exact run_fnN (us := []) (vs := []) F.ok hr hb hx I2 .nil rz rfl l2 q2
  refine pe_le hp fun σ H Q h => ?_
  obtain ⟨M, S, Γ, k, kx, hr, er, hm, kv, kxx⟩ := tI_callN hd h
  exact kv [] M hm H [] hr (Ex.refl _) (dvs_nil.mpr rfl)
end
section
variable {K : PySem.W.Frag} {x qual : Str} {params : Arguments} {body : List Stmt} {scope : Scope} {kws : List (Str × V)} {f : Addr} {fd : FuncData} {ps : List Str}
theorem shape_of {n : Nat} {ks : List Str} (g : {α : Type} → List α → List α → List α) (F : FunD K x qual params body scope [] [] f fd)
    (h : ∀ (kV doc pm : Value) (an : Option Addr) (cdv ct : Value) (us ws : List Value), us.length = n → ws.length = ks.length → bindArgs (PySem.W.fnOf x qual params body scope .none kV doc pm an cdv ct) ⟨us, ks.zip ws⟩ = pure (ps.zip (g us ws)))
    (hv : ∀ {vs : List V} {us : List Value} {zs : List V} {ws : List Value}, Vals vs us → Vals zs ws → Vals (g vs zs) (g us ws))
    (hd : ∀ (F : Hp) (ds es : List D) (vs zs : List V), DVs K F ds vs → DVs K F es zs → ds.length = n → es.length = ks.length → DVs K F (g ds es) (g vs zs)) : Shape K fd ps n ks g := by
  obtain ⟨oc, od, dV, kV, doc, pm, an, cdv, ct, osl, rfl, lk, hcd, hD, hK⟩ := F.ex
  rcases hD with ⟨_, rfl⟩ | ⟨e, _⟩
  · exact ⟨g, g, ⟨fun sh us ws _ l1 l2 => .of_eq (h kV doc pm an cdv ct us ws l1 l2), hv⟩, hd⟩
  · exact absurd rfl e
end
/-! ### texts -/
def txOf : List D → Option (List Str)
  | [] => some []
  | .str z :: r => (txOf r).map (z :: ·)
  | _ => none
theorem tx_of {K : PySem.W.Frag} {F : Hp} : ∀ {ds : List D} {vs : List V} {zs : List Str}, DVs K F ds vs → txOf ds = some zs → vs = zs.map V.str
  | [], _, _, h, e => by rw [dvs_nil] at h; subst h; cases e; rfl
  | d :: ds, _, _, h, e => by
    obtain ⟨v, r, rfl, h2, h3⟩ := dvs_cons.mp h
    cases d <;> first | (cases e; done) | skip
    rw [txOf] at e
    cases q : txOf ds with
    | none => rw [q] at e; cases e
    | some cs =>
      rw [q] at e
      cases e
      rw [dv_str.mp h2, tx_of h3 q]
      rfl
theorem dvs_strs {K : PySem.W.Frag} {F : Hp} : ∀ zs : List Str, DVs K F (zs.map D.str) (zs.map V.str)
  | [] => dvs_nil.mpr rfl
  | n :: ns => dvs_cons.mpr ⟨.str n, _, rfl, dv_str.mpr rfl, dvs_strs ns⟩
def mJoin (ms mx : ME) : ME := fun Γ M k kx => ms Γ M (fun d M1 => ∃ a, d = .str a ∧ mx Γ M1 (fun e M2 => ∃ es zs, sqOf M2 e = some es ∧ txOf es = some zs ∧ (zs.map (·.length)).sum + zs.length * a.length ≤ 16777216 ∧ k (.str (Txt.join a zs)) M2) kx) kx
def mSplit (ms mx : ME) : ME := fun Γ M k kx => ms Γ M (fun d M1 => ∃ a, d = .str a ∧ mx Γ M1 (fun e M2 => ∃ b, e = .str b ∧ (b.length == 0) = false ∧ a.length + 2 ≤ sizeLine ∧ k (.lst ((Txt.split a b).map D.str)) M2) kx) kx
section
variable {X : Cx} {E : XK} {apos pos : Pos} {o e : Expr} {mo me : ME}
theorem de_join (ho : PE X o (tI X.K E mo)) (he : PE X e (tI X.K E me)) (hs : starEach [e] X.env = [(false, eval e X.env)] := by rfl) (hbase : attributeBase o "join" X.env (eval o X.env) = eval o X.env := by rfl) (hline : (apos.endLine == pos.line) = true := by rfl) :
    PE X (.Call (.Attribute o "join" apos) [e] [] pos) (tI X.K E (mJoin mo me)) := by
  refine pe_le (pe_join ho he hs hbase hline) fun σ H Q ⟨M, S, Γ, k, kx, hr, er, hm, kv, kxx⟩ => ?_
  refine ⟨M, S, Γ, _, kx, hr, er, hm, fun d M1 ⟨a, ea, q1⟩ H1 v1 r1 e1 d1 => ?_, kxx⟩
  subst ea
  refine ⟨⟨a, dv_str.mp d1⟩, M1, S, Γ, _, kx, r1, er.mono e1, q1, fun y M2 ⟨es, zs, h1, h2, h3, q2⟩ H2 v2 r2 e2 d2 => ?_, kxx.ex e1⟩
  obtain ⟨p, vs, rfl, g1, g2⟩ := sq_of r2 d2 h1
  rw [tx_of g2 h2] at g1
  exact ⟨a, p, zs, dv_str.mp d1, rfl, g1, h3, kv _ M2 q2 H2 _ r2 (e1.trans e2) (dv_str.mpr rfl)⟩
theorem de_split (ho : PE X o (tI X.K E mo)) (he : PE X e (tI X.K E me)) (hs : starEach [e] X.env = [(false, eval e X.env)] := by rfl) (hbase : attributeBase o "split" X.env (eval o X.env) = eval o X.env := by rfl) (hline : (apos.endLine == pos.line) = true := by rfl) :
    PE X (.Call (.Attribute o "split" apos) [e] [] pos) (tI X.K E (mSplit mo me)) := by
  refine pe_le (pe_split ho he hs hbase hline) fun σ H Q ⟨M, S, Γ, k, kx, hr, er, hm, kv, kxx⟩ => ?_
  refine ⟨M, S, Γ, _, kx, hr, er, hm, fun d M1 ⟨a, ea, q1⟩ H1 v1 r1 e1 d1 => ?_, kxx⟩
  subst ea
  refine ⟨⟨a, dv_str.mp d1⟩, M1, S, Γ, _, kx, r1, er.mono e1, q1, fun y M2 ⟨b, eb, h1, h2, q2⟩ H2 v2 r2 e2 d2 => ?_, kxx.ex e1⟩
  subst eb
  refine ⟨a, b, dv_str.mp d1, by rw [dv_str.mp d2], h1, h2, fun p hp => ?_⟩
  obtain ⟨w1, w2, w3⟩ := new_lst r2 hp (dvs_strs (Txt.split a b))
  exact kv _ M2 q2 _ _ w1 ((e1.trans e2).trans w2) w3
end
theorem bt_str : bootBuiltins "str" = some (.type "str") := by decide +kernel
theorem bt_int : bootBuiltins "int" = some (.type "int") := by decide +kernel
theorem bt_bool : bootBuiltins "bool" = some (.type "bool") := by decide +kernel
theorem bt_list : bootBuiltins "list" = some (.type "list") := by decide +kernel
theorem bt_tuple : bootBuiltins "tuple" = some (.type "tuple") := by decide +kernel
theorem bt_dict : bootBuiltins "dict" = some (.type "dict") := by decide +kernel
theorem bb_len : bootBuiltins "len" = some (.builtin "len") := by decide +kernel
theorem bb_all : bootBuiltins "all" = some (.builtin "all") := by decide +kernel
theorem bb_any : bootBuiltins "any" = some (.builtin "any") := by decide +kernel
theorem bb_abs : bootBuiltins "abs" = some (.builtin "abs") := by decide +kernel
theorem bb_min : bootBuiltins "min" = some (.builtin "min") := by decide +kernel
theorem bb_max : bootBuiltins "max" = some (.builtin "max") := by decide +kernel
end DL
namespace DL
open PySem L2 PySem.Spec PyProof.Rows
/-! ### arguments picked by place and by keyword -/
def pick {α : Type} (is : List (Bool × Nat)) (us ws : List α) : List α := is.filterMap fun q => if q.1 then us[q.2]? else ws[q.2]?
theorem Vals.iff_none {vs : List V} {us : List Value} (r : Vals vs us) (i : Nat) : vs[i]? = none ↔ us[i]? = none := by
  rw [List.getElem?_eq_none_iff, List.getElem?_eq_none_iff, r.length]
theorem pick_vals {vs zs : List V} {us ws : List Value} (r : Vals vs us) (q : Vals zs ws) : ∀ is : List (Bool × Nat), Vals (pick is vs zs) (pick is us ws)
  | [] => .nil
  | (b, i) :: is => by
    unfold pick
    rw [List.filterMap_cons, List.filterMap_cons]
    have ih := pick_vals r q is
    unfold pick at ih
    cases b with
    | true =>
      simp only [if_true, Bool.false_eq_true, if_false]
      cases e : vs[i]? with
      | none => rw [(Vals.iff_none r i).mp e]; exact ih
      | some v =>
        obtain ⟨u, e1, e2⟩ := r.get e
        rw [e1]
        exact .cons e2 ih
    | false =>
      simp only [if_true, Bool.false_eq_true, if_false]
      cases e : zs[i]? with
      | none => rw [(Vals.iff_none q i).mp e]; exact ih
      | some v =>
        obtain ⟨u, e1, e2⟩ := q.get e
        rw [e1]
        exact .cons e2 ih
theorem DVs.iff_none {K : PySem.W.Frag} {F : Hp} {ds : List D} {vs : List V} (r : DVs K F ds vs) (i : Nat) : ds[i]? = none ↔ vs[i]? = none := by
  rw [List.getElem?_eq_none_iff, List.getElem?_eq_none_iff, r.length]
theorem pick_dvs {K : PySem.W.Frag} {F : Hp} {ds es : List D} {vs zs : List V} (r : DVs K F ds vs) (q : DVs K F es zs) : ∀ is : List (Bool × Nat), DVs K F (pick is ds es) (pick is vs zs)
  | [] => dvs_nil.mpr rfl
  | (b, i) :: is => by
    unfold pick
    rw [List.filterMap_cons, List.filterMap_cons]
    have ih := pick_dvs r q is
    unfold pick at ih
    cases b with
    | true =>
      simp only [if_true, Bool.false_eq_true, if_false]
      cases e : ds[i]? with
      | none => rw [(DVs.iff_none r i).mp e]; exact ih
      | some v =>
        obtain ⟨u, e1, e2⟩ := r.get e
        rw [e1]
        exact dvs_cons.mpr ⟨u, _, rfl, e2, ih⟩
    | false =>
      simp only [if_true, Bool.false_eq_true, if_false]
      cases e : es[i]? with
      | none => rw [(DVs.iff_none q i).mp e]; exact ih
      | some v =>
        obtain ⟨u, e1, e2⟩ := q.get e
        rw [e1]
        exact dvs_cons.mpr ⟨u, _, rfl, e2, ih⟩
section
variable {K : PySem.W.Frag} {x qual : Str} {params : Arguments} {body : List Stmt} {scope : Scope} {f : Addr} {fd : FuncData} {ps : List Str}
theorem shape_pick {n : Nat} {ks : List Str} (is : List (Bool × Nat)) (F : FunD K x qual params body scope [] [] f fd)
    (h : ∀ (kV doc pm : Value) (an : Option Addr) (cdv ct : Value) (us ws : List Value), us.length = n → ws.length = ks.length → bindArgs (PySem.W.fnOf x qual params body scope .none kV doc pm an cdv ct) ⟨us, ks.zip ws⟩ = pure (ps.zip (pick is us ws))) : Shape K fd ps n ks (pick is) :=
  shape_of (fun us ws => pick is us ws) F h (fun r q => pick_vals r q is) fun _ _ _ _ _ r q _ _ => pick_dvs r q is
end
/-- a def of which nothing is promised -/
theorem fn_false {P : Program} {w : World} {K : PySem.W.Frag} {mg : Str → Option Value} {base : Heap} {CX : CXT} {k : Nat} {f : Addr} {fd : FuncData} {ps : List Str} {s : MF} (h : ∀ ds M k kx, ¬ s ds M k kx) : FnOk P w K mg base CX k f fd ps (spI K s) :=
  ⟨fun _ _ _ _ ⟨_, _, _, _, _, _, _, q, _⟩ => (h _ _ _ _ q).elim, fun _ _ _ _ _ _ _ _ _ _ _ _ _ ⟨_, _, _, _, _, _, _, q, _⟩ => (h _ _ _ _ q).elim⟩
/-- a tuple of plain things of the top -/
def dvD : He.Dv → D
  | .non => .non | .bl b => .bl b | .int i => .int i | .str x => .str x | .ty n => .ty n | _ => .non
def dvOk : He.Dv → Bool
  | .non => true | .bl _ => true | .int _ => true | .str _ => true | .ty _ => true | _ => false
theorem dv_dv {K : PySem.W.Frag} {F : Hp} {v : He.Dv} (h : dvOk v = true) : DV K F (dvD v) (v.v K) := by
  cases v <;> first
    | exact dv_non.mpr rfl
    | exact dv_bl.mpr rfl
    | exact dv_int.mpr rfl
    | exact dv_str.mpr rfl
    | exact dv_ty.mpr rfl
    | (exact absurd (show false = true from h) Bool.false_ne_true)
theorem dvs_dv {K : PySem.W.Frag} {F : Hp} : ∀ {vs : List He.Dv}, vs.all dvOk = true → DVs K F (vs.map dvD) (vs.map (He.Dv.v K))
  | [], _ => dvs_nil.mpr rfl
  | v :: vs, h => by
    rw [List.all_cons, Bool.and_eq_true] at h
    exact dvs_cons.mpr ⟨_, _, rfl, dv_dv h.1, dvs_dv h.2⟩
theorem tup_top {K : PySem.W.Frag} {x : Str} {vs : List He.Dv} (h : He.tupB K x vs = true) (hv : vs.all dvOk = true) (F : Hp) : DV K F (.tup (vs.map dvD)) (.ref (He.ga K x)) :=
  dv_tup.mpr ⟨_, _, rfl, He.tupB_ok h F, dvs_dv hv⟩
/-- where a law begins: nothing may change, nothing is hidden -/
theorem law_start {K : PySem.W.Frag} {H : Hp} {a : Addr} {ns : List Int} {s : MF} (hS : SqL K H a (ns.map V.int)) (h : ∀ M : Mh, s [.scr ns] M (fun d _ => d = .bl true) noX) : spI K s [.ref a] H (fun v _ => v = .bl true) (fun _ _ _ => False) := by
  have e : hid (fun _ => none) (fun _ => none) H = H := by
    funext b
    unfold hid
    simp
  refine ⟨fun _ => none, fun _ => none, [.scr ns], _, noX, ⟨fun a o q => (by cases q), fun a o q => (by cases q)⟩, DVs.one (dv_scr.mpr ⟨a, rfl, by rw [e]; exact hS⟩), h _, fun d M' q H' v r ex dv => ?_, fun _ _ z => z.elim⟩
  subst q
  exact dv_bl.mp dv
end DL
namespace DL
open PySem L2 PySem.Spec PyProof.Rows
/-! ### a dict of the top with text keys -/
abbrev TabD := List (Str × D)
/-- at a stands a dict of the top that shows tab -/
def TabOk (K : PySem.W.Frag) (w : World) (a : Addr) (tab : TabD) : Prop :=
  (∃ es n, KDict K w a es n) ∧ ∀ z : Str, ∃ r, PySem.W.nsIn K a z = some r ∧ match tab.lookup z with
    | none => r = none
    | some d => ∃ u v, r = some u ∧ RelV v u ∧ ∀ F, DV K F d v
section
variable {K : PySem.W.Frag} {w : World} {a : Addr}
theorem find_keys {P : Params} {z : Str} : ∀ {l : List DictEntry} {ks : List Str}, l.map He.keyOf = He.keysIn P ks → z ∉ ks → l.find? (·.key.isStr z) = none
  | [], _, _, _ => rfl
  | e :: r, [], h, _ => by cases h
  | e :: r, k :: ks, h, hz => by
    have h1 : He.keyOf e :: r.map He.keyOf = some (k, PyData.keyHash P k) :: He.keysIn P ks := h
    injection h1 with h2 h3
    have hne : e.key.isStr z = false := by
      unfold He.keyOf at h2
      split at h2
      · rename_i x t q
        have h4 := (Prod.mk.inj (Option.some.inj h2)).1
        subst h4
        rw [q]
        unfold Value.isStr
        have : ¬ x = z := fun c => hz (by rw [c]; exact List.mem_cons_self)
        simp [this]
      · cases h2
    rw [List.find?_cons_of_neg (by rw [hne]; decide)]
    exact find_keys h3 fun c => hz (List.mem_cons_of_mem _ c)
theorem refKey_keys {P : Params} : ∀ {l : List DictEntry} {ks : List Str}, l.map He.keyOf = He.keysIn P ks → l.any (·.refKey) = false
  | [], _, _ => rfl
  | e :: r, [], h => by cases h
  | e :: r, k :: ks, h => by
    have h1 : He.keyOf e :: r.map He.keyOf = some (k, PyData.keyHash P k) :: He.keysIn P ks := h
    injection h1 with h2 h3
    rw [List.any_cons, refKey_keys h3, Bool.or_false]
    unfold He.keyOf at h2
    split at h2
    · rename_i x t q
      unfold DictEntry.refKey
      rw [q]
    · cases h2
theorem ns_out {ks : List Str} {z : Str} (h : He.dicW K a = some (He.keysIn w.params ks)) (hz : z ∉ ks) : PySem.W.nsIn K a z = some none := by
  unfold He.dicW at h
  unfold PySem.W.nsIn
  split at h
  · rename_i c es n sl q
    rw [q]
    split at h
    · have e := Option.some.inj h
      dsimp only
      rw [find_keys e hz]
      dsimp only
      rw [refKey_keys e]
      rfl
    · cases h
  · cases h
/-- from the head's facts: the keys, and the values by key -/
theorem tab_ok {kvs : List (Str × He.Dv)} (hk : He.dicW K a = some (He.keysIn w.params (kvs.map (·.1)))) (hv : He.valsB K a kvs = true) (ho : (kvs.map (·.2)).all dvOk = true) : TabOk K w a (kvs.map fun q => (q.1, dvD q.2)) := by
  refine ⟨He.dicW_ok hk, fun z => ?_⟩
  by_cases hz : z ∈ kvs.map (·.1)
  · have key : ∀ (l : List (Str × He.Dv)), (∀ q ∈ l, q ∈ kvs) → z ∈ l.map (·.1) → ∃ r, PySem.W.nsIn K a z = some r ∧ match (l.map fun q => (q.1, dvD q.2)).lookup z with
        | none => r = none
        | some d => ∃ u v, r = some u ∧ RelV v u ∧ ∀ F, DV K F d v := by
      intro l
      induction l with
      | nil => intro _ h; cases h
      | cons q l ih =>
        intro hs hm
        rw [List.map_cons]
        by_cases e : z = q.1
        · obtain ⟨u, e1, e2⟩ := He.valsB_ok hv (hs q List.mem_cons_self)
          refine ⟨some u, by rw [e]; exact e1, ?_⟩
          rw [List.lookup_cons, show (z == q.1) = true from beq_iff_eq.mpr e]
          refine ⟨u, _, rfl, e2, fun F => dv_dv ?_⟩
          have := List.all_eq_true.mp ho q.2 (List.mem_map.mpr ⟨q, hs q List.mem_cons_self, rfl⟩)
          exact this
        · rw [List.lookup_cons, show (z == q.1) = false from beq_eq_false_iff_ne.mpr e]
          refine ih (fun p hp => hs p (List.mem_cons_of_mem _ hp)) ?_
          rcases List.mem_cons.mp hm with h | h
          · exact absurd h e
          · exact h
    exact key kvs (fun _ h => h) hz
  · refine ⟨none, ns_out hk hz, ?_⟩
    have : (kvs.map fun q => (q.1, dvD q.2)).lookup z = none := by
      clear hv ho hk
      induction kvs with
      | nil => rfl
      | cons q l ih =>
        rw [List.map_cons, List.lookup_cons, show (z == q.1) = false from beq_eq_false_iff_ne.mpr fun c => hz (by rw [c]; exact List.mem_cons_self)]
        exact ih fun c => hz (List.mem_cons_of_mem _ c)
    rw [this]
end
def dTabIn (neg : Bool) (tab : TabD) (d : D) (M : Mh) (k : DK) : Prop := ∃ z, d = .str z ∧ k (.bl (if neg then !(tab.lookup z).isSome else (tab.lookup z).isSome)) M
def dTabAt (tab : TabD) (d : D) (M : Mh) (k : DK) : Prop := ∃ z x, d = .str z ∧ tab.lookup z = some x ∧ k x M
def mTabGet (tab : TabD) (me mf : ME) : ME := fun Γ M k kx => me Γ M (fun d M1 => ∃ z, d = .str z ∧ mf Γ M1 (fun e M2 => k ((tab.lookup z).getD e) M2) kx) kx
section
variable {X : Cx} {E : XK} {e f : Expr} {me mf : ME} {t : Str} {p pos apos cpos : Pos} {a : Addr} {tab : TabD}
/-- t.get(e, f), by values -/
def tKGet (K : PySem.W.Frag) (a : Addr) (te tf : TE) : TE := fun σ H Q => te σ H fun y H1 => tf σ H1 fun v H2 => ∃ (z : Str) (r : Option Value), y = .str z ∧ PySem.W.nsIn K a z = some r ∧ (r = none → Q v H2) ∧ ∀ u, r = some u → ∃ v', RelV v' u ∧ Q v' H2
theorem pe_kget {te tf : TE} {es : Array DictEntry} {n : Nat} (hg : Gl X t) (hm : X.mg t = some (.ref a)) (kd : KDict X.K X.w a es n) (he : PE X e te) (hf : PE X f tf) (m : M2 X (.Name t p) "get" apos e f cpos) (hd : (t == ("__debug__" : Str)) = false := by decide) :
    PE X (.Call (.Attribute (.Name t p) "get" apos) [e, f] [] cpos) (tKGet X.K a te tf) := by
  refine ⟨fun pins s σ H Q I hq => ?_⟩
  refine wpAny_Call_method m.base m.few m.line PySem.F.plainAttrs_dict PySem.F.slot_dict_get PySem.F.type_dict_get (ld_glob I hg hm ?_ hd)
  refine ⟨kd_type kd I, fun b q => ?_, ?_⟩
  · cases q
    exact ⟨_, I.kIn _ _ kd.at_, rfl⟩
  rw [m.trees]
  refine Calls.callWith_builtin rfl (Calls.evalArgs_plain (Calls.spliced_cons (thn (he.run pins s σ H _ I hq) fun iv s2 ⟨y, H2, I2, ry, q2⟩ => ?_)))
  refine Calls.spliced_cons (thn (hf.run pins s2 σ H2 _ I2 q2) fun fv s3 ⟨v, H3, I3, rz, z, r, ey, ns, q3, q4⟩ => Calls.spliced_nil ?_)
  subst ey
  obtain ⟨tz, rfl⟩ := ry
  refine call_meetsIn PySem.F.slot_dict_get (kd_type kd I3) PySem.F.entry_dict_get (PySem.F.args_dict_get_3 _ _ _) (meets_dict_get_default (strKind X.prog X.w) a (PySem.strKind_is X.prog X.w z tz) kd.low fv) ⟨_, PySem.W.mapOf_K (prog := X.prog) I3.kIn kd.at_ kd.lit, ?_⟩
  rw [PySem.W.find_K kd.at_ ns]
  cases r with
  | none => exact ⟨v, H3, I3.tok _, rz, q3 rfl⟩
  | some u =>
    obtain ⟨v', rv, q⟩ := q4 u rfl
    exact ⟨v', H3, I3.tok _, rv, q⟩
theorem de_tabGet (hg : Gl X t) (hm : X.mg t = some (.ref a)) (T : TabOk X.K X.w a tab) (he : PE X e (tI X.K E me)) (hf : PE X f (tI X.K E mf)) (m : M2 X (.Name t p) "get" apos e f cpos) (hd : (t == ("__debug__" : Str)) = false := by decide) :
    PE X (.Call (.Attribute (.Name t p) "get" apos) [e, f] [] cpos) (tI X.K E (mTabGet tab me mf)) := by
  obtain ⟨⟨es, n, kd⟩, hT⟩ := T
  refine pe_le (pe_kget hg hm kd he hf m hd) fun σ H Q ⟨M, S, Γ, k, kx, r, er, h, kv, kxx⟩ => ?_
  refine ⟨M, S, Γ, _, kx, r, er, h, fun d M1 ⟨z, ez, q1⟩ H1 v1 r1 e1 d1 => ?_, kxx⟩
  subst ez
  refine ⟨M1, S, Γ, _, kx, r1, er.mono e1, q1, fun d2 M2 q2 H2 v2 r2 e2 d2' => ?_, kxx.ex e1⟩
  obtain ⟨rr, ns, hr⟩ := hT z
  refine ⟨z, rr, dv_str.mp d1, ns, fun e => ?_, fun u e => ?_⟩
  · subst e
    cases q : tab.lookup z with
    | none => rw [q] at q2; exact kv _ M2 q2 H2 v2 r2 (e1.trans e2) d2'
    | some x => rw [q] at hr; obtain ⟨_, _, h, _⟩ := hr; cases h
  · subst e
    cases q : tab.lookup z with
    | none => rw [q] at hr; cases hr
    | some x =>
      rw [q] at hr q2
      obtain ⟨u', v, h, rv, hv⟩ := hr
      cases h
      exact ⟨v, rv, kv _ M2 q2 H2 v r2 (e1.trans e2) (hv _)⟩
/-- t[e], by values -/
theorem ix_kd {es : Array DictEntry} {n : Nat} (kd : KDict X.K X.w a es n) : IxR X (fun x y H Q => ∃ (z : Str) (u0 : Value) (v0 : V), x = .ref a ∧ y = .str z ∧ PySem.W.nsIn X.K a z = some (some u0) ∧ RelV v0 u0 ∧ Q v0 H) := by
  intro value slice pins s σ H x y v u Q I rx ry hq hs
  obtain ⟨z, u0, v0, ex, ey, e, r0, q⟩ := hq
  subst ex ey
  have hv : v = .ref a := rx
  rw [hv] at hs ⊢
  exact tail_any (kd_type kd I) PySem.F.slot_dict_getitem.lookup (op_item_kd kd pins s σ H (.ref a) _ _ _ Q I rfl ry ⟨z, u0, v0, rfl, rfl, e, r0, q⟩) hs
/-- t[e] -/
theorem de_tabAt (hg : Gl X t) (hm : X.mg t = some (.ref a)) (T : TabOk X.K X.w a tab) (he : PE X e (tI X.K E me)) (hs : PlainIx e) (hd : (t == ("__debug__" : Str)) = false := by decide) : PE X (.Subscript (.Name t p) e pos) (tI X.K E (mUn (dTabAt tab) me)) := by
  obtain ⟨⟨es, n, kd⟩, hT⟩ := T
  refine pe_le (pe_ix (ix_kd kd) (pe_glob hg hm (v := .ref a) rfl hd) he hs) fun σ H Q ⟨M, S, Γ, k, kx, r, er, h, kv, kxx⟩ => ?_
  refine ⟨M, S, Γ, _, kx, r, er, h, fun d M1 ⟨z, x, ez, el, q1⟩ H1 v1 r1 e1 d1 => ?_, kxx⟩
  subst ez
  obtain ⟨rr, ns, hr⟩ := hT z
  rw [el] at hr
  obtain ⟨u, v, rfl, rv, hv⟩ := hr
  exact ⟨z, u, v, rfl, dv_str.mp d1, ns, rv, kv _ M1 q1 H1 v r1 e1 (hv _)⟩
/-- e in t, e not in t -/
theorem tI_in {neg : Bool} {σ : L2.St} {H : Hp} {Q : VK} (hT : ∀ z : Str, ∃ r, PySem.W.nsIn X.K a z = some r ∧ match tab.lookup z with
    | none => r = none
    | some d => ∃ u v, r = some u ∧ RelV v u ∧ ∀ F, DV X.K F d v) (h : tI X.K E (mUn (dTabIn neg tab) me) σ H Q) :
    tOp (fun x y H Q => ∃ (z : Str) (r : Option Value), x = .str z ∧ y = .ref a ∧ PySem.W.nsIn X.K a z = some r ∧ Q (.bl (if neg then !r.isSome else r.isSome)) H) (tI X.K E me) (tC (.ref a)) σ H Q := by
  obtain ⟨M, S, Γ, k, kx, r, er, h, kv, kxx⟩ := h
  refine ⟨M, S, Γ, _, kx, r, er, h, fun d M1 ⟨z, ez, q1⟩ H1 v1 r1 e1 d1 => ?_, kxx⟩
  subst ez
  obtain ⟨rr, ns, hr⟩ := hT z
  have e : rr.isSome = (tab.lookup z).isSome := by
    cases q : tab.lookup z with
    | none => rw [q] at hr; rw [hr]; rfl
    | some x =>
      rw [q] at hr
      obtain ⟨u, v, rfl, _⟩ := hr
      rfl
  exact ⟨z, rr, dv_str.mp d1, rfl, ns, by rw [e]; exact kv _ M1 q1 H1 _ r1 e1 (dv_bl.mpr rfl)⟩
theorem dt_tabIn (hg : Gl X t) (hm : X.mg t = some (.ref a)) (T : TabOk X.K X.w a tab) (he : PE X e (tI X.K E me)) (hb : behindInMarks .In (.Name t p) = false := by rfl) (hd : (t == ("__debug__" : Str)) = false := by decide) : PT X (.Compare e [.In] [.Name t p] pos) (tT X.K E (mTest (mUn (dTabIn false tab) me))) := by
  obtain ⟨⟨es, n, kd⟩, hT⟩ := T
  exact pt_le (pt_cmpR (op_in_kd kd) he (pe_glob hg hm (v := .ref a) rfl hd) hb) fun _ _ _ h => tI_in (neg := false) hT (tT_test h)
theorem dt_tabNotIn (hg : Gl X t) (hm : X.mg t = some (.ref a)) (T : TabOk X.K X.w a tab) (he : PE X e (tI X.K E me)) (hb : behindInMarks .NotIn (.Name t p) = false := by rfl) (hd : (t == ("__debug__" : Str)) = false := by decide) : PT X (.Compare e [.NotIn] [.Name t p] pos) (tT X.K E (mTest (mUn (dTabIn true tab) me))) := by
  obtain ⟨⟨es, n, kd⟩, hT⟩ := T
  exact pt_le (pt_cmpR (op_notIn_kd kd) he (pe_glob hg hm (v := .ref a) rfl hd) hb) fun _ _ _ h => tI_in (neg := true) hT (tT_test h)
end
theorem tab_eq {fa : List He.Fa} {fn : List He.DefD} {ts : List He.Tab} {w : World} {K : PySem.W.Frag} (c : He.SaysT fa fn ts w K) (i : Nat) {t : He.Tab} (h : ts[i]? = some t := by rfl) : He.dicW K (t.1 K) = some (He.keysIn w.params t.2) := by
  have e : ts.map (fun t => He.dicW K (t.1 K)) = ts.map fun t => some (He.keysIn w.params t.2) := congrArg (fun z : He.AlT => z.2) c
  have e2 := congrArg (fun l : List (Option (List (Option (Str × Int)))) => l[i]?) e
  simp only [List.getElem?_map, h, Option.map_some] at e2
  exact Option.some.inj e2
/-! ### calls that leave defaults out -/
def Tail (K : PySem.W.Frag) (fd : FuncData) (ps : List Str) (t : List D) : Prop := ∃ dvs ds, Vals dvs ds ∧ Binds K fd ps ds ∧ ∀ F, DVs K F t dvs
def mCallT (s : MF) (t : List D) (ma : MA) : ME := fun Γ M k kx => ma Γ M (fun ds M1 => s (ds ++ t) M1 k kx) kx
section
variable {X : Cx} {E : XK} {CX : CXT} {k : Nat} {f : Addr} {fd : FuncData} {ps : List Str} {s : MF} {e : Expr} {es : List Expr} {mA : MA} {x : Str} {p pos : Pos} {t : List D}
theorem de_callT (F : Df X.prog X.w X.K X.mg X.base CX k f fd x ps s) (hr : Room k X.A) (hg : Gl X x) (hb : Tail X.K fd ps t) (hx : Passes CX X E)
    (ha : PA X (e :: es) (tA X.K E mA)) (hdb : (x == ("__debug__" : Str)) = false := by decide) (he : starEach (e :: es) X.env = (false, eval e X.env) :: starEach es X.env := by rfl) (hpl : (backTo pos (starEach es X.env)).any (·.1) = false := by rfl) :
    PE X (.Call (.Name x p) (e :: es) [] pos) (tI X.K E (mCallT s t mA)) := by
  obtain ⟨dvs, dl, hv, hb, hd⟩ := hb
  refine pe_le (pe_call F.ok hr hg F.gl F.kp hb hv hx ha hdb he hpl) fun σ H Q ⟨M, S, Γ, k, kx, r, er, h, kv, kxx⟩ => ?_
  refine ⟨M, S, Γ, _, kx, r, er, h, fun ds M1 q1 H1 v1 r1 e1 d1 => ?_, kxx⟩
  exact ⟨M1, S, _, k, kx, r1, d1.append (hd _), q1, kv.ex e1, kxx.ex e1⟩
end
/-- arguments by place (0), defaults (1), keywords (2) -/
def sel3 {α : Type} (q : Nat × Nat) (us ms ws : List α) : List α := if q.1 = 0 then us[q.2]?.toList else if q.1 = 1 then ms[q.2]?.toList else ws[q.2]?.toList
def pick3 {α : Type} (is : List (Nat × Nat)) (us ms ws : List α) : List α := is.flatMap fun q => sel3 q us ms ws
theorem Vals.at1 {vs : List V} {us : List Value} (r : Vals vs us) (i : Nat) : Vals vs[i]?.toList us[i]?.toList := by
  cases e : vs[i]? with
  | none => rw [(Vals.iff_none r i).mp e]; exact .nil
  | some v =>
    obtain ⟨u, e1, e2⟩ := r.get e
    rw [e1]
    exact .cons e2 .nil
theorem DVs.at1 {K : PySem.W.Frag} {F : Hp} {ds : List D} {vs : List V} (r : DVs K F ds vs) (i : Nat) : DVs K F ds[i]?.toList vs[i]?.toList := by
  cases e : ds[i]? with
  | none => rw [(DVs.iff_none r i).mp e]; exact dvs_nil.mpr rfl
  | some v =>
    obtain ⟨u, e1, e2⟩ := r.get e
    rw [e1]
    exact DVs.one e2
theorem pick3_vals {vs mz zs : List V} {us mv ws : List Value} (r : Vals vs us) (o : Vals mz mv) (q : Vals zs ws) : ∀ is : List (Nat × Nat), Vals (pick3 is vs mz zs) (pick3 is us mv ws)
  | [] => .nil
  | (b, i) :: is => by
    have ih := pick3_vals r o q is
    unfold pick3 at ih ⊢
    rw [List.flatMap_cons, List.flatMap_cons]
    refine L2.Vals.append ?_ ih
    unfold sel3
    split
    · exact Vals.at1 r i
    · split
      · exact Vals.at1 o i
      · exact Vals.at1 q i
theorem pick3_dvs {K : PySem.W.Frag} {F : Hp} {ds ts es : List D} {vs mz zs : List V} (r : DVs K F ds vs) (o : DVs K F ts mz) (q : DVs K F es zs) : ∀ is : List (Nat × Nat), DVs K F (pick3 is ds ts es) (pick3 is vs mz zs)
  | [] => dvs_nil.mpr rfl
  | (b, i) :: is => by
    have ih := pick3_dvs r o q is
    unfold pick3 at ih ⊢
    rw [List.flatMap_cons, List.flatMap_cons]
    refine DVs.append ?_ ih
    unfold sel3
    split
    · exact DVs.at1 r i
    · split
      · exact DVs.at1 o i
      · exact DVs.at1 q i
section
variable {K : PySem.W.Frag} {x qual : Str} {params : Arguments} {body : List Stmt} {scope : Scope} {kws : List (Str × V)} {f : Addr} {fd : FuncData} {ps : List Str}
/-- keyword-only parameters with defaults ms that are left out -/
theorem shape_pick3 {n : Nat} {ks : List Str} (is : List (Nat × Nat)) (ms : List (Str × V)) (ts : List D) (F : FunD K x qual params body scope [] kws f fd) (hk : kws ≠ []) (hms : ∀ q ∈ ms, q ∈ kws) (ht : ∀ F, DVs K F ts (ms.map (·.2)))
    (h : ∀ (D : Addr) (doc pm : Value) (an : Option Addr) (cdv ct : Value) (us mv ws : List Value), us.length = n → mv.length = ms.length → ws.length = ks.length →
      KwChain D ((ms.map (·.1)).zip mv) (bindArgs (PySem.W.fnOf x qual params body scope .none (.ref D) doc pm an cdv ct) ⟨us, ks.zip ws⟩) (ps.zip (pick3 is us mv ws))) : Shape K fd ps n ks (fun us ws => pick3 is us ts ws) := by
  obtain ⟨mv, hb⟩ := FunD.kbinds0 F n ks ms (fun us mv ws => pick3 is us mv ws) hk hms (fun r o q => pick3_vals r o q is) h
  exact ⟨_, _, hb, fun F' ds es vs zs r q _ _ => pick3_dvs r (ht F') q is⟩
theorem tail_of (F : FunD K x qual params body scope [] kws f fd) (n : Nat) (hk : kws ≠ []) (hn : n + kws.length = ps.length) (ts : List D) (ht : ∀ F, DVs K F ts (kws.map (·.2)))
    (h : ∀ (D : Addr) (doc pm : Value) (an : Option Addr) (cdv ct : Value) (us ks : List Value), us.length = n → ks.length = kws.length →
      KwChain D ((kws.map (·.1)).zip ks) (bindArgs (PySem.W.fnOf x qual params body scope .none (.ref D) doc pm an cdv ct) ⟨us, []⟩) (ps.zip (us ++ ks))) : Tail K fd ps ts := by
  obtain ⟨ds, hv, hb⟩ := F.binds0 (ps := ps) n hk hn h
  exact ⟨_, ds, hv, hb, ht⟩
end
end DL
namespace DL
open PySem L2
/-! ### dicts that may change: keys ints and texts -/
def keyD : D → Option Key
  | .int i => some (.inl i)
  | .str z => some (.inr z)
  | _ => none
theorem key_dv {K : PySem.W.Frag} {F : Hp} {d : D} {v : V} {k : Key} (h : DV K F d v) (e : keyD d = some k) : v = kV k := by
  cases d with
  | int i => cases e; exact dv_int.mp h
  | str z => cases e; exact dv_str.mp h
  | _ => cases e
def getG (kvs : List (Key × D)) (k : Key) : Option D := (kvs.find? fun kv => decide (kv.1 = k)).map (·.2)
def putG (kvs : List (Key × D)) (k : Key) (d : D) : List (Key × D) :=
  if (kvs.any fun kv => decide (kv.1 = k)) = true then kvs.map (fun kv => if kv.1 = k then (kv.1, d) else kv) else kvs ++ [(k, d)]
theorem getG_pos {p : Key × D} {r : List (Key × D)} {k : Key} (e : p.1 = k) : getG (p :: r) k = some p.2 := by simp [getG, List.find?_cons, e]
theorem getG_neg {p : Key × D} {r : List (Key × D)} {k : Key} (e : ¬ p.1 = k) : getG (p :: r) k = getG r k := by simp [getG, List.find?_cons, e]
section
variable {K : PySem.W.Frag} {F : Hp}
theorem kvd_get (k : Key) : ∀ {kvs : List (Key × D)} {ps : List (Key × V)}, KVD K F kvs ps → (getG kvs k = none ∧ valV ps k = none) ∨ ∃ d v, getG kvs k = some d ∧ valV ps k = some v ∧ DV K F d v
  | [], ps, h => by
    have h : ps = [] := h
    subst h
    exact .inl ⟨rfl, rfl⟩
  | (j, d) :: r, ps, h => by
    obtain ⟨v, t, rfl, h2, h3⟩ := h
    by_cases e : j = k
    · exact .inr ⟨d, v, getG_pos e, valV_pos (p := (j, v)) e, h2⟩
    · rw [getG_neg (p := (j, d)) e, valV_neg (p := (j, v)) e]
      exact kvd_get k h3
theorem kvd_len : ∀ {kvs : List (Key × D)} {ps : List (Key × V)}, KVD K F kvs ps → kvs.length = ps.length
  | [], ps, h => by
    have h : ps = [] := h
    subst h
    rfl
  | (j, d) :: r, ps, h => by
    obtain ⟨v, t, rfl, h2, h3⟩ := h
    rw [List.length_cons, List.length_cons, kvd_len h3]
theorem kvd_any (k : Key) : ∀ {kvs : List (Key × D)} {ps : List (Key × V)}, KVD K F kvs ps → (kvs.any fun kv => decide (kv.1 = k)) = (ps.any fun kv => decide (kv.1 = k))
  | [], ps, h => by
    have h : ps = [] := h
    subst h
    rfl
  | (j, d) :: r, ps, h => by
    obtain ⟨v, t, rfl, h2, h3⟩ := h
    rw [List.any_cons, List.any_cons, kvd_any k h3]
theorem kvd_map {k : Key} {d : D} {v : V} (hd : DV K F d v) : ∀ {kvs : List (Key × D)} {ps : List (Key × V)}, KVD K F kvs ps → KVD K F (kvs.map fun kv => if kv.1 = k then (kv.1, d) else kv) (ps.map fun kv => if kv.1 = k then (kv.1, v) else kv)
  | [], ps, h => by
    have h : ps = [] := h
    subst h
    rfl
  | (j, e) :: r, ps, h => by
    obtain ⟨u, t, rfl, h2, h3⟩ := h
    rw [List.map_cons, List.map_cons]
    by_cases c : j = k
    · rw [if_pos c, if_pos c]
      exact ⟨v, _, rfl, hd, kvd_map hd h3⟩
    · rw [if_neg c, if_neg c]
      exact ⟨u, _, rfl, h2, kvd_map hd h3⟩
theorem kvd_snoc {k : Key} {d : D} {v : V} (hd : DV K F d v) : ∀ {kvs : List (Key × D)} {ps : List (Key × V)}, KVD K F kvs ps → KVD K F (kvs ++ [(k, d)]) (ps ++ [(k, v)])
  | [], ps, h => by
    have h : ps = [] := h
    subst h
    exact ⟨v, [], rfl, hd, rfl⟩
  | (j, e) :: r, ps, h => by
    obtain ⟨u, t, rfl, h2, h3⟩ := h
    exact ⟨u, _, rfl, h2, kvd_snoc hd h3⟩
theorem kvd_put {k : Key} {d : D} {v : V} (hd : DV K F d v) {kvs : List (Key × D)} {ps : List (Key × V)} (h : KVD K F kvs ps) : KVD K F (putG kvs k d) (putK ps k v) := by
  unfold putG putK
  rw [kvd_any k h]
  split
  · exact kvd_map hd h
  · exact kvd_snoc hd h
/-- flat data is one value -/
theorem flat_eq {d : D} {v u : V} (h : flat d = true) (h1 : DV K F d v) (h2 : DV K F d u) : v = u := by
  cases d with
  | non => rw [dv_non.mp h1, dv_non.mp h2]
  | bl _ => rw [dv_bl.mp h1, dv_bl.mp h2]
  | int _ => rw [dv_int.mp h1, dv_int.mp h2]
  | str _ => rw [dv_str.mp h1, dv_str.mp h2]
  | _ => cases h
theorem flat_b {d : D} {v : V} (h : flat d = true) (h1 : DV K F d v) : flatB v = true := by
  cases d with
  | non => rw [dv_non.mp h1]; rfl
  | bl _ => rw [dv_bl.mp h1]; rfl
  | int _ => rw [dv_int.mp h1]; rfl
  | str _ => rw [dv_str.mp h1]; rfl
  | _ => cases h
theorem kvd_same : ∀ {kvs : List (Key × D)} {ps qs : List (Key × V)}, (∀ p ∈ kvs, flat p.2 = true) → KVD K F kvs ps → KVD K F kvs qs → ps = qs ∧ ∀ p ∈ ps, flatB p.2 = true
  | [], ps, qs, _, h1, h2 => by
    have h1 : ps = [] := h1
    have h2 : qs = [] := h2
    subst h1 h2
    exact ⟨rfl, fun p hp => by cases hp⟩
  | (j, d) :: r, ps, qs, hf, h1, h2 => by
    obtain ⟨v, t, rfl, g2, g3⟩ := h1
    obtain ⟨u, t', rfl, g4, g5⟩ := h2
    obtain ⟨e1, e2⟩ := kvd_same (fun p hp => hf p (List.mem_cons_of_mem _ hp)) g3 g5
    have hd := hf (j, d) List.mem_cons_self
    rw [flat_eq hd g2 g4, e1]
    refine ⟨rfl, fun p hp => ?_⟩
    rcases List.mem_cons.mp hp with rfl | hp
    · exact flat_b hd g4
    · rw [← e1] at hp
      exact e2 p hp
theorem kvd_keys : ∀ {kvs : List (Key × D)} {ps : List (Key × V)}, KVD K F kvs ps → kvs.map (·.1) = ps.map (·.1)
  | [], ps, h => by
    have h : ps = [] := h
    subst h
    rfl
  | (j, d) :: r, ps, h => by
    obtain ⟨v, t, rfl, h2, h3⟩ := h
    rw [List.map_cons, List.map_cons, kvd_keys h3]
theorem valV_mem : ∀ {ps : List (Key × V)}, (ps.map (·.1)).Nodup → ∀ p ∈ ps, valV ps p.1 = some p.2
  | [], _, p, hp => by cases hp
  | q :: r, nd, p, hp => by
    rw [List.map_cons, List.nodup_cons] at nd
    rcases List.mem_cons.mp hp with rfl | hp
    · exact valV_pos rfl
    · rw [valV_neg fun e => nd.1 (by rw [e]; exact List.mem_map.mpr ⟨p, hp, rfl⟩)]
      exact valV_mem nd.2 p hp
end
def mDNew : ME := fun _ M k _ => ∀ p, M p = none → k (.ref p) (setM M p (.dct []))
def dDIx (d e : D) (M : Mh) (k : DK) : Prop := ∃ a kvs j x, d = .ref a ∧ M a = some (.dct kvs) ∧ keyD e = some j ∧ getG kvs j = some x ∧ k x M
def dDInB (neg : Bool) (e d : D) (M : Mh) (k : DK) : Prop := ∃ a kvs j, d = .ref a ∧ M a = some (.dct kvs) ∧ keyD e = some j ∧ k (.bl (if neg then !(getG kvs j).isSome else (getG kvs j).isSome)) M
def mDGet2 (md mk mx : ME) : ME := fun Γ M k kx => md Γ M (fun d M1 => ∃ a, d = .ref a ∧ (∃ kvs, M1 a = some (.dct kvs)) ∧ mk Γ M1 (fun e M2 => mx Γ M2 (fun z M3 => ∃ kvs j, M3 a = some (.dct kvs) ∧ keyD e = some j ∧ k ((getG kvs j).getD z) M3) kx) kx) kx
def mDPut (mv md mk : ME) : MS := fun De Γ M kx => mv Γ M (fun v M1 => md Γ M1 (fun d M2 => mk Γ M2 (fun e M3 => ∃ a kvs j, d = .ref a ∧ M3 a = some (.dct kvs) ∧ keyD e = some j ∧ kvs.length < sizeLine ∧ De.nx Γ (setM M3 a (.dct (putG kvs j v)))) kx) kx) kx
def cDictD (ds : List D) (M : Mh) (k : DK) : Prop := ∃ a kvs, ds = [.ref a] ∧ M a = some (.dct kvs) ∧ ∀ p, M p = none → k (.ref p) (setM M p (.dct kvs))
/-- two dicts that hold the same -/
def dSameD (neg : Bool) (d e : D) (M : Mh) (k : DK) : Prop := ∃ a b kvs, d = .ref a ∧ e = .ref b ∧ M a = some (.dct kvs) ∧ M b = some (.dct kvs) ∧ (kvs.map (·.1)).Nodup ∧ (∀ p ∈ kvs, flat p.2 = true) ∧ k (.bl (!neg)) M
section
variable {X : Cx} {E : XK} {a b e f o i v : Expr} {ma mb me mf : ME} {pos p p2 apos cpos : Pos}
theorem R.dct {K : PySem.W.Frag} {M : Mh} {S H : Hp} {q : Addr} {kvs : List (Key × D)} (r : R K M S H) (h : M q = some (.dct kvs)) : ∃ ps, H q = some (.dK ps) ∧ KVD K (hid M S H) kvs ps := by
  obtain ⟨u, h1, ps, rfl, h2⟩ := r.chg q _ h
  exact ⟨ps, h1, h2⟩
theorem dget_of {K : PySem.W.Frag} {M : Mh} {S H : Hp} {q : Addr} {kvs : List (Key × D)} {d : D} {y : V} {j : Key} (r : R K M S H) (h : M q = some (.dct kvs)) (hy : DV K (hid M S H) d y) (hj : keyD d = some j) : (getG kvs j = none ∧ DGet H q y none) ∨ ∃ x w, getG kvs j = some x ∧ DGet H q y (some w) ∧ DV K (hid M S H) x w := by
  obtain ⟨ps, h1, h2⟩ := r.dct h
  rw [key_dv hy hj]
  rcases kvd_get j h2 with ⟨g1, g2⟩ | ⟨x, w, g1, g2, g3⟩
  · exact .inl ⟨g1, by rw [← g2]; exact DGet.k h1⟩
  · exact .inr ⟨x, w, g1, by rw [← g2]; exact DGet.k h1, g3⟩
theorem de_dnew : PE X (.Dict [] [] pos) (tI X.K E mDNew) := by
  refine pe_le pe_dnewK fun σ H Q ⟨M, S, Γ, k, kx, r, er, h, kv, kxx⟩ p hp => ?_
  have hM := r.freeM hp
  refine kv _ _ (h p hM) _ _ (r.put (.inr hp) ⟨[], rfl, rfl⟩) ?_ (dv_ref.mpr rfl)
  rw [hid_set _ _ _ _ _ _ (.inr hp)]
  exact Ex.refl _
theorem de_dix (hu : X.A.units + 1 < cLine) (ho : PE X o (tI X.K E ma)) (hi : PE X i (tI X.K E mb)) (hs : NoSl i) : PE X (.Subscript o i pos) (tI X.K E (mOp dDIx ma mb)) := by
  refine pe_le (pe_dget hu ho hi hs) fun σ H Q h => ?_
  obtain ⟨M, S, Γ, k, kx, r, er, h, kv, kxx⟩ := h
  refine ⟨M, S, Γ, _, kx, r, er, h, fun d M1 q1 H1 v1 r1 e1 d1 => ?_, kxx⟩
  refine ⟨M1, S, Γ, _, kx, r1, er.mono e1, q1, fun y M2 q2 H2 v2 r2 e2 d2 => ?_, kxx.ex e1⟩
  obtain ⟨q, kvs, j, x, rfl, g1, g2, g3, g4⟩ := q2
  rcases dget_of r2 g1 d2 g2 with ⟨c, _⟩ | ⟨x', w, c1, c2, c3⟩
  · rw [g3] at c; cases c
  · rw [g3] at c1
    cases c1
    exact ⟨q, w, dv_ref.mp d1, c2, kv _ M2 g4 H2 w r2 (e1.trans e2) c3⟩
theorem tI_din {neg : Bool} {σ : L2.St} {H : Hp} {Q : VK} (h : tI X.K E (mOp (dDInB neg) ma mb) σ H Q) : (tI X.K E ma) σ H fun y H1 => (tI X.K E mb) σ H1 fun x H2 => ∃ q ov, x = .ref q ∧ DGet H2 q y ov ∧ Q (.bl (if neg then !ov.isSome else ov.isSome)) H2 := by
  obtain ⟨M, S, Γ, k, kx, r, er, h, kv, kxx⟩ := h
  refine ⟨M, S, Γ, _, kx, r, er, h, fun d M1 q1 H1 v1 r1 e1 d1 => ?_, kxx⟩
  refine ⟨M1, S, Γ, _, kx, r1, er.mono e1, q1, fun y M2 q2 H2 v2 r2 e2 d2 => ?_, kxx.ex e1⟩
  obtain ⟨q, kvs, j, rfl, g1, g2, g4⟩ := q2
  rcases dget_of r2 g1 (d1.mono e2 _) g2 with ⟨c, c2⟩ | ⟨x', w, c1, c2, c3⟩
  · rw [c] at g4
    exact ⟨q, none, dv_ref.mp d2, c2, kv _ M2 g4 H2 _ r2 (e1.trans e2) (dv_bl.mpr rfl)⟩
  · rw [c1] at g4
    exact ⟨q, some w, dv_ref.mp d2, c2, kv _ M2 g4 H2 _ r2 (e1.trans e2) (dv_bl.mpr rfl)⟩
theorem de_din (hu : X.A.units + 1 < cLine) (ha : PE X a (tI X.K E ma)) (hb : PE X b (tI X.K E mb)) (hm : behindInMarks .In b = false := by rfl) : PE X (.Compare a [.In] [b] pos) (tI X.K E (mOp (dDInB false) ma mb)) :=
  pe_le (pe_cmp (pc_din hu ha hb) hm) fun _ _ _ h => tI_din h
theorem de_dnotin (hu : X.A.units + 1 < cLine) (ha : PE X a (tI X.K E ma)) (hb : PE X b (tI X.K E mb)) (hm : behindInMarks .NotIn b = false := by rfl) : PE X (.Compare a [.NotIn] [b] pos) (tI X.K E (mOp (dDInB true) ma mb)) :=
  pe_le (pe_cmp (pc_dnotin hu ha hb) hm) fun _ _ _ h => tI_din h
theorem de_dget2 (hu : X.A.units + 1 < cLine) (ho : PE X o (tI X.K E ma)) (he : PE X e (tI X.K E me)) (hf : PE X f (tI X.K E mf)) (m : M2 X o "get" apos e f cpos) : PE X (.Call (.Attribute o "get" apos) [e, f] [] cpos) (tI X.K E (mDGet2 ma me mf)) := by
  refine pe_le (pe_dget2 hu ho he hf m) fun σ H Q ⟨M, S, Γ, k, kx, r, er, h, kv, kxx⟩ => ?_
  refine ⟨M, S, Γ, _, kx, r, er, h, fun d M1 q1 H1 v1 r1 e1 d1 => ?_, kxx⟩
  obtain ⟨q, rfl, ⟨kvs, g1⟩, q1⟩ := q1
  obtain ⟨ps, g2, _⟩ := r1.dct g1
  refine ⟨q, dv_ref.mp d1, .inl ⟨ps, .inl g2⟩, M1, S, Γ, _, kx, r1, er.mono e1, q1, fun y M2 q2 H2 v2 r2 e2 d2 => ?_, kxx.ex e1⟩
  refine ⟨M2, S, Γ, _, kx, r2, er.mono (e1.trans e2), q2, fun z M3 q3 H3 v3 r3 e3 d3 => ?_, kxx.ex (e1.trans e2)⟩
  obtain ⟨kvs', j, g3, g4, g5⟩ := q3
  rcases dget_of r3 g3 (d2.mono e3 _) g4 with ⟨c, c2⟩ | ⟨x', w, c1, c2, c3⟩
  · rw [c] at g5
    exact ⟨none, c2, kv _ M3 g5 H3 _ r3 ((e1.trans e2).trans e3) d3⟩
  · rw [c1] at g5
    exact ⟨some w, c2, kv _ M3 g5 H3 _ r3 ((e1.trans e2).trans e3) c3⟩
theorem ds_dput (hu : X.A.units + 1 < cLine) (hv : PE X v (tI X.K E me)) (ho : PE X o (tI X.K E ma)) (hi : PE X i (tI X.K E mb)) (hs : swapsWith v (some (.Subscript o i p2)) pos.line X.env = pure false := by rfl) : PS X (.Assign [.Subscript o i p2] v pos) (tSt X.K E (mDPut me ma mb)) := by
  refine ps_le (ps_dput hu ho hi hv hs) fun D σ H ⟨M, S, Γ, De, kx, r, er, h, h1, h2, h3, h4, h5⟩ => ?_
  refine ⟨M, S, Γ, _, kx, r, er, h, fun d M1 q1 H1 v1 r1 e1 d1 => ?_, h5⟩
  refine ⟨M1, S, Γ, _, kx, r1, er.mono e1, q1, fun oo M2 q2 H2 v2 r2 e2 d2 => ?_, h5.ex e1⟩
  refine ⟨M2, S, Γ, _, kx, r2, er.mono (e1.trans e2), q2, fun ii M3 q3 H3 v3 r3 e3 d3 => ?_, h5.ex (e1.trans e2)⟩
  obtain ⟨q, kvs, j, rfl, g1, g2, g3, g4⟩ := q3
  obtain ⟨ps, g5, g6⟩ := r3.dct g1
  have hs : (M3 q).isSome = true := by rw [g1]; rfl
  have d1' := d1.mono (e2.trans e3) _
  refine ⟨q, _, dv_ref.mp d2, by rw [key_dv d3 g2]; exact DPut.k g5 (by rw [← kvd_len g6]; exact g3), ?_⟩
  refine h1 Γ _ g4 _ σ (r3.put (.inl hs) ⟨_, rfl, kvd_put d1' g6⟩) ?_ ?_
  · rw [hid_set _ _ _ _ _ _ (.inl hs)]
    exact (e1.trans e2).trans e3
  · rw [hid_set _ _ _ _ _ _ (.inl hs)]
    exact er.mono ((e1.trans e2).trans e3)
theorem dc_dictD : CallR X (.type "dict") (rLc X.K cDictD) := by
  refine CallR.sub call_dictD fun xs H Q ⟨M, S, ds, k, r, hd, ⟨q, kvs, eds, g1, g2⟩, kv⟩ => ?_
  subst eds
  obtain ⟨v, rfl, hv⟩ := dc_one hd
  obtain ⟨ps, g5, g6⟩ := r.dct g1
  refine ⟨q, ps, by rw [dv_ref.mp hv], .inl g5, fun p hp => ?_⟩
  have hM := r.freeM hp
  refine kv _ _ (g2 p hM) _ _ (r.put (.inr hp) ⟨ps, rfl, g6⟩) ?_ (dv_ref.mpr rfl)
  rw [hid_set _ _ _ _ _ _ (.inr hp)]
  exact Ex.refl _
theorem do_neD (hu : X.A.units < cLine) : OpR X (compareOp .NotEq) (rL2 X.K (dSameD true)) := by
  refine OpR.sub (op_ne_dictA hu) fun x y H Q ⟨M, S, d, e, k, r, hd, he, ⟨a, b, kvs, ed, ee, g1, g2, nd, fl, q⟩, kv⟩ => ?_
  subst ed ee
  obtain ⟨ps, h1, h2⟩ := r.dct g1
  obtain ⟨qs, h3, h4⟩ := r.dct g2
  obtain ⟨e1, e2⟩ := kvd_same fl h2 h4
  subst e1
  rw [kvd_keys h2] at nd
  exact ⟨a, b, ps, ps, dv_ref.mp hd, dv_ref.mp he, h1, h3, rfl, fun p hp => ⟨valV_mem nd p hp, e2 p hp⟩, kv.now r q (dv_bl.mpr rfl)⟩
theorem do_eqD (hu : X.A.units < cLine) : OpR X (compareOp .Eq) (rL2 X.K (dSameD false)) := by
  refine OpR.sub (op_eq_dictA hu) fun x y H Q ⟨M, S, d, e, k, r, hd, he, ⟨a, b, kvs, ed, ee, g1, g2, nd, fl, q⟩, kv⟩ => ?_
  subst ed ee
  obtain ⟨ps, h1, h2⟩ := r.dct g1
  obtain ⟨qs, h3, h4⟩ := r.dct g2
  obtain ⟨e1, e2⟩ := kvd_same fl h2 h4
  subst e1
  rw [kvd_keys h2] at nd
  exact ⟨a, b, ps, ps, dv_ref.mp hd, dv_ref.mp he, h1, h3, rfl, fun p hp => ⟨valV_mem nd p hp, e2 p hp⟩, kv.now r q (dv_bl.mpr rfl)⟩
end
end DL
set_option maxHeartbeats 4000000
namespace DL
open PySem PySem.Spec PyProof.Rows L2 StX
section
variable {X : Cx} {E : XK} {o e : Expr} {es : List Expr} {mo me : ME} {mA : MA} {p apos pos : Pos}
/-! ### *e in a display -/
def mStar (me : ME) (mA : MA) : MA := fun Γ M k kx => me Γ M (fun d M1 => ∃ ds, sqOf M1 d = some ds ∧ mA Γ M1 (fun es M2 => k (ds ++ es) M2) kx) kx
theorem da_star (he : PE X e (tI X.K E me)) (hr : PA X es (tA X.K E mA)) (hs : starEach (.Starred e p :: es) X.env = (true, eval e X.env) :: starEach es X.env := by rfl) : PA X (.Starred e p :: es) (tA X.K E (mStar me mA)) := by
  refine pa_le (pa_star he hr hs) fun σ H Q ⟨M, S, Γ, k, kx, r, er, h, kv, kxx⟩ => ?_
  refine ⟨M, S, Γ, _, kx, r, er, h, fun d M1 ⟨ds, hd, q⟩ H1 v r1 e1 d1 => ?_, kxx⟩
  obtain ⟨a, vs, rfl, g1, g2⟩ := sq_of r1 d1 hd
  refine ⟨a, vs, rfl, g1.symm, M1, S, Γ, _, kx, r1, er.mono e1, q, fun es M2 q2 H2 ws r2 e2 d2 => ?_, kxx.ex e1⟩
  exact kv _ M2 q2 H2 _ r2 (e1.trans e2) (DVs.append (DVs.mono e2 _ g2) d2)
/-! ### xs.append(e), xs a list that may change -/
def mAppend (mo me : ME) : ME := fun Γ M k kx => mo Γ M (fun d M1 => ∃ a ds0, d = .ref a ∧ M1 a = some (.lst ds0) ∧ me Γ M1 (fun x M2 => ∃ ds, M2 a = some (.lst ds) ∧ ds.length < sizeLine ∧ k .non (setM M2 a (.lst (ds ++ [x])))) kx) kx
theorem de_append (ho : PE X o (tI X.K E mo)) (he : PE X e (tI X.K E me)) (hbase : attributeBase o "append" X.env (eval o X.env) = eval o X.env := by rfl)
    (hfew : ((backTo pos (starEach [e] X.env)).all (fun x => !x.1) && (backToKw pos (keywordEach [] X.env)).all (fun x => x.1.isSome) && decide ([e].length + ([] : List Keyword).length + (if ([] : List Keyword).isEmpty then 0 else 1) < 30)) = true := by rfl)
    (hline : (apos.endLine == pos.line) = true := by rfl) (hs : starEach [e] X.env = (false, eval e X.env) :: starEach [] X.env := by rfl) :
    PE X (.Call (.Attribute o "append" apos) [e] [] pos) (tI X.K E (mAppend mo me)) := by
  refine pe_le (pe_bm PySem.F.plainAttrs_list PySem.F.slot_list_append PySem.F.type_list_append mt_append ho (pa_cons he pa_nil hs) hbase hfew hline hs rfl) fun σ H Q ⟨M, S, Γ, k, kx, r, er, h, kv, kxx⟩ => ?_
  refine ⟨M, S, Γ, _, kx, r, er, h, fun d M1 ⟨a, ds0, ed, hM, q⟩ H1 v r1 e1 d1 => ?_, kxx⟩
  subst ed
  obtain rfl := dv_ref.mp d1
  obtain ⟨u, g1, vs0, rfl, g2⟩ := r1.chg a _ hM
  refine ⟨.inl ⟨rfl, _, SqL.of g1⟩, M1, S, Γ, _, kx, r1, er.mono e1, q, fun x M2 ⟨ds, hM2, hl, q2⟩ H2 w r2 e2 d2 => ?_, kxx.ex e1⟩
  obtain ⟨u2, g3, vs, rfl, g4⟩ := r2.chg a _ hM2
  refine ⟨a, vs, w, rfl, rfl, g3, by rw [← g4.length]; exact hl, ?_⟩
  have hS : (M2 a).isSome = true := by rw [hM2]; rfl
  refine kv _ _ q2 _ _ (r2.put (.inl hS) ⟨_, rfl, g4.append (DVs.one d2)⟩) ?_ (dv_non.mpr rfl)
  rw [hid_set _ _ _ _ _ _ (.inl hS)]
  exact e1.trans e2
/-! ### max(xs), xs a list of numbers -/
theorem ints_of {K : PySem.W.Frag} {F : Hp} : ∀ {ns : List Int} {vs : List V}, DVs K F (ns.map D.int) vs → vs = ns.map V.int
  | [], _, h => dvs_nil.mp h
  | n :: ns, _, h => by
    obtain ⟨v, r, rfl, h2, h3⟩ := dvs_cons.mp h
    rw [dv_int.mp h2, ints_of h3]
    rfl
def cMaxL (ds : List D) (M : Mh) (k : DK) : Prop := ∃ d ns, ds = [d] ∧ lsOf M d = some (List.map D.int ns) ∧ 0 < ns.length ∧ ∀ m, m ∈ ns → (∀ a, a ∈ ns → a ≤ m) → k (.int m) M
theorem dc_maxL (hc : X.calm = true) : CallR X (.builtin "max") (rLc X.K cMaxL) := CallR.sub (cr_max hc) fun xs H Q ⟨M, S, ds, k, r, hd, ⟨d, ns, e1, e2, e3, q⟩, kv⟩ => by
  subst e1
  obtain ⟨v, rfl, hv⟩ := dc_one hd
  obtain ⟨a, ws, rfl, g1, g2⟩ := ls_sq r hv e2
  rw [ints_of g2] at g1
  exact ⟨a, ns, rfl, SqL.of g1, e3, fun m h1 h2 => kv.now r (q m h1 h2) (dv_int.mpr rfl)⟩
/-! ### e.replace('y', 'z'), a token out -/
abbrev PETd (X : Cx) (E : XK) (e : Expr) (m : ME) : Prop := PET X e (tI X.K E m)
abbrev PATd (X : Cx) (E : XK) (es : List Expr) (m : MA) : Prop := PAT X es (tA X.K E m)
def mRepl (y z : Str) (mo : ME) : ME := fun Γ M k kx => mo Γ M (fun d M1 => ∃ x, d = .str x ∧ x.length + (x.length + 1) * z.length ≤ 16777216 ∧ k (.str (Txt.replace x y z)) M1) kx
theorem pet_le {t t' : TE} (h : PET X e t) (i : ∀ σ H Q, t' σ H Q → t σ H Q) : PET X e t' := fun pins s σ H Q h0 I q => h pins s σ H Q h0 I (i σ H Q q)
theorem pat_le {t t' : TA} (h : PAT X es t) (i : ∀ σ H Q, t' σ H Q → t σ H Q) : PAT X es t' := fun pos pins s σ H Q h0 I q => h pos pins s σ H Q h0 I (i σ H Q q)
theorem dt_repl {y z : Str} {j k : Nat} {c0 c1 : Pos} (ho : PE X o (tI X.K E mo)) (hyz : (y == z) = false := by decide)
    (hst : starEach [.Constant (.str y) j c0, .Constant (.str z) k c1] X.env = [(false, eval (.Constant (.str y) j c0) X.env), (false, eval (.Constant (.str z) k c1) X.env)] := by rfl)
    (hbase : attributeBase o "replace" X.env (eval o X.env) = eval o X.env := by rfl) (hline : (apos.endLine == pos.line) = true := by rfl) :
    PETd X E (.Call (.Attribute o "replace" apos) [.Constant (.str y) j c0, .Constant (.str z) k c1] [] pos) (mRepl y z mo) := by
  refine pet_le (CwR.pet_replC ho hyz hst hbase hline) fun σ H Q ⟨M, S, Γ, k, kx, r, er, h, kv, kxx⟩ => ?_
  refine ⟨M, S, Γ, _, kx, r, er, h, fun d M1 ⟨x, ed, hl, q⟩ H1 v r1 e1 d1 => ?_, kxx⟩
  subst ed
  exact ⟨x, dv_str.mp d1, hl, kv _ M1 q H1 _ r1 e1 (dv_str.mpr rfl)⟩
theorem dta_nil : PATd X E [] mNil := fun pos pins s σ H Q _ I q => (da_nil (X := X) (E := E)).run pos pins s σ H Q I q
theorem dta_of (h : PA X es (tA X.K E mA)) : PATd X E es mA := fun pos pins s σ H Q _ I q => h.run pos pins s σ H Q I q
theorem dta_cons (ha : PETd X E e me) (hr : PATd X E es mA) (hs : starEach (e :: es) X.env = (false, eval e X.env) :: starEach es X.env := by rfl) : PATd X E (e :: es) (mCons me mA) :=
  pat_le (pat_cons ha hr hs) fun _ _ _ h => tA_cons h
/-- 'c' + b, .. : behind the first item a token is out -/
theorem da_consT {c : Str} {j : Nat} {cp : Pos} {b : Expr} {op : Operator} {r : D → D → Mh → DK → Prop} {mb : ME} (ho : OpR X (binaryOp op) (rL2 X.K r)) (hb : PE X b (tI X.K E mb)) (hr : PATd X E es mA)
    (hs : starEach (.BinOp (.Constant (.str c) j cp) op b p :: es) X.env = (false, eval (.BinOp (.Constant (.str c) j cp) op b p) X.env) :: starEach es X.env := by rfl) :
    PA X (.BinOp (.Constant (.str c) j cp) op b p :: es) (tA X.K E (mCons (mOp r (mC (.str c)) mb) mA)) := by
  have h0 : PA X (.BinOp (.Constant (.str c) j cp) op b p :: es) (tCons (tOp (rL2 X.K r) (tC (.str c)) (tI X.K E mb)) (tA X.K E mA)) := by
    refine ⟨fun pos pins s σ H Q I h => ?_⟩
    rw [hs]
    show wpAny _ _ (spliced ((false, eval (.BinOp (.Constant (.str c) j cp) op b p) X.env) :: backTo pos (starEach es X.env))) _ _ s
    refine Calls.spliced_cons (wpAny_BinOp (Calls.Constant_str ?_))
    have I0 : Inv X pins σ H { s with toks := s.toks + 1 } := I.tok _
    refine wpAny_mono (PySem.wpAny_toks (hb.run pins _ σ H _ I0 h)) (fun u s2 q => ?_) fun _ _ z => z.2
    obtain ⟨hk, y, H2, I2, r2, q2⟩ := q
    have hk : s.toks + 1 ≤ s2.toks := hk
    refine wpAny_mono (PySem.wpAny_toks (ho pins s2 σ H2 (.str c) y _ u _ I2 ⟨s.toks, rfl⟩ r2 q2)) (fun v s3 q => ?_) fun _ _ z => z.2
    obtain ⟨hk3, x, H3, I3, r3, q3⟩ := q
    exact thn (hr pos pins s3 σ H3 _ (by omega) I3 q3) fun us s4 ⟨xs, H4, I4, r4, q4⟩ => ⟨x :: xs, H4, I4, .cons r3 r4, q4⟩
  refine pa_le h0 fun σ H Q h => ?_
  obtain ⟨M, S, Γ, k, kx, rr, er, hm, kv, kxx⟩ := h
  refine ⟨M, S, Γ, _, kx, rr, er, hm, fun y M1 q1 H1 v1 r1 e1 d1 => ?_, kxx⟩
  refine ⟨M1, S, .str c, y, _, r1, dv_str.mpr rfl, d1, q1, fun z M2 q2 H2 v2 r2 e2 d2 => ?_⟩
  refine ⟨M2, S, Γ, _, kx, r2, er.mono (e1.trans e2), q2, fun zs M3 q3 H3 v3 r3 e3 d3 => ?_, kxx.ex (e1.trans e2)⟩
  exact kv _ M3 q3 H3 _ r3 ((e1.trans e2).trans e3) (dvs_cons.mpr ⟨_, _, rfl, d2.mono e3 _, d3⟩)
end
end DL
/-! the bodies of the helpers that all laws share, as readings (printed by gen.py) -/
namespace CM
open PySem L2 DL
def b_is_name : MS := (mSeq (mIfS (mOr (mNot (mTest (mUn (dIsi "str") (mVar 0)))) (mNot (mTest (mChain dLe dLe (mC (.int 1)) (mCB cLen (mCons (mVar 0) mNil)) (mC (.int 6)))))) (mRet (mC (.bl false))) mNext) (mRet (mCB cAll (mCons (mLc (.nm 1) (mSeqI (mVar 0)) mYes (mOp dIn (mVar 1) (mC (.str "abcdefghijklmnopqrstuvwxyz"))) [1]) mNil))))
def b_is_number : MS := (mRet (mAndV (mUn (dIsi "int") (mVar 0)) (mAndV (mNotV (mUn (dIsi "bool") (mVar 0))) (mChain dLe dLe (mVar 1) (mVar 0) (mVar 2)))))
def b__law_box : MS := (mSeq (mAsg (mC (.int 10010)) (.nm 1)) (mSeq (mFor (.nm 2) (mSeqI (mSl dSlice (mVar 0) mNoPart (mPart (mC (.int 63))))) (mAsg (mOp dMod (mCB cInt (mCons (mOp dAdd (mOp dAdd (mOp dMul (mVar 1) (mC (.int 50021))) (mOp dMul (mOp dMod (mCB cInt (mCons (mVar 2) mNil)) (mC (.int 1000003))) (mC (.int 769)))) (mC (.int 17))) mNil)) (mC (.int 2147483587))) (.nm 1))) (mRet (mLstM (mCons (mCB cList (mCons (mSl dSlice (mVar 0) mNoPart (mPart (mC (.int 63)))) mNil)) (mCons (mC (.int 0)) (mCons (mC (.int 0)) (mCons (mVar 1) (mCons (mC (.int 0)) mNil)))))))))
def b__law_pull : MS := (mSeq (mSetIx (mOp dAdd (mOp dIx (mVar 0) (mC (.int 4))) (mC (.int 1))) (mVar 0) (mC (.int 4))) (mSeq (mIfS (mAnd (mTest (mOp dEq (mOp dIx (mVar 0) (mC (.int 2))) (mC (.int 0)))) (mTest (mOp dLt (mOp dIx (mVar 0) (mC (.int 1))) (mCB cLen (mCons (mOp dIx (mVar 0) (mC (.int 0))) mNil))))) (mSeq (mAsg (mOp dIx (mOp dIx (mVar 0) (mC (.int 0))) (mOp dIx (mVar 0) (mC (.int 1)))) (.nm 2)) (mSeq (mSetIx (mOp dAdd (mOp dIx (mVar 0) (mC (.int 1))) (mC (.int 1))) (mVar 0) (mC (.int 1))) (mIfS (mTest (mOp dGe (mCB cAbs (mCons (mVar 2) mNil)) (mOp dPow (mC (.int 10)) (mC (.int 18))))) (mSetIx (mCB cAbs (mCons (mVar 2) mNil)) (mVar 0) (mC (.int 2))) (mSetIx (mOp dMod (mCB cInt (mCons (mOp dAdd (mOp dAdd (mOp dMul (mOp dIx (mVar 0) (mC (.int 3))) (mC (.int 41389))) (mOp dMul (mOp dMod (mCB cInt (mCons (mVar 2) mNil)) (mC (.int 1000003))) (mC (.int 733)))) (mC (.int 31))) mNil)) (mC (.int 2147483629))) (mVar 0) (mC (.int 3)))))) mNext) (mSeq (mIfS (mTest (mOp dGt (mOp dIx (mVar 0) (mC (.int 2))) (mC (.int 0)))) (mSeq (mAsg (mOp dMod (mCB cInt (mCons (mOp dIx (mVar 0) (mC (.int 2))) mNil)) (mVar 1)) (.nm 3)) (mSeq (mSetIx (mOp dDiv (mOp dIx (mVar 0) (mC (.int 2))) (mVar 1)) (mVar 0) (mC (.int 2))) (mRet (mVar 3)))) mNext) (mSeq (mAsg (mOp dMod (mCB cInt (mCons (mOp dAdd (mOp dMul (mOp dIx (mVar 0) (mC (.int 3))) (mOp dIx (mVar 0) (mC (.int 3)))) (mOp dMul (mOp dIx (mVar 0) (mC (.int 4))) (mC (.int 8317)))) mNil)) (mC (.int 2147483549))) (.nm 4)) (mSeq (mSetIx (mOp dMod (mCB cInt (mCons (mOp dAdd (mOp dAdd (mOp dMul (mVar 4) (mC (.int 15973))) (mOp dMul (mOp dIx (mVar 0) (mC (.int 3))) (mC (.int 60107)))) (mC (.int 54013))) mNil)) (mC (.int 2147483629))) (mVar 0) (mC (.int 3))) (mRet (mOp dMod (mCB cInt (mCons (mOp dDiv (mOp dIx (mVar 0) (mC (.int 3))) (mC (.int 64))) mNil)) (mVar 1))))))))
def b__law_of (s__law_pull : MF) : MS := (mRet (mOp dIx (mVar 1) (mCall s__law_pull (mCons (mVar 0) (mCons (mCB cLen (mCons (mVar 1) mNil)) mNil)))))
def b__law_names (s__law_of : MF) (s__law_pull : MF) : MS := (mSeq (mAsg (mC (.str "abcdefghijklmnopqrstuvwxyz")) (.nm 2)) (mSeq (mAsg (mJoin (mC (.str "")) (mLc (.nm 4) (mRange1 (mCall s__law_of (mCons (mVar 0) (mCons (mLst (mCons (mC (.int 0)) (mCons (mC (.int 1)) (mCons (mC (.int 2)) (mCons (mC (.int 5)) mNil))))) mNil)))) mYes (mCall s__law_of (mCons (mVar 0) (mCons (mVar 2) mNil))) [4])) (.nm 3)) (mSeq (mAsg (mTup (mCons (mCall s__law_pull (mCons (mVar 0) (mCons (mOp dAdd (mCB cLen (mCons (mVar 3) mNil)) (mC (.int 1))) mNil))) (mCons (mCall s__law_pull (mCons (mVar 0) (mCons (mC (.int 26)) mNil))) mNil))) (.tp [(.nm 5), (.nm 6)])) (mSeq (mAsg (mLc (.nm 4) (mRange1 (mOp dAdd (mVar 1) (mC (.int 2)))) mYes (mOp dAdd (mOp dAdd (mSl dSlice (mVar 3) mNoPart (mPart (mVar 5))) (mOp dIx (mVar 2) (mOp dMod (mCB cInt (mCons (mOp dAdd (mVar 6) (mOp dMul (mC (.int 7)) (mVar 4))) mNil)) (mC (.int 26))))) (mSl dSlice (mVar 3) (mPart (mVar 5)) mNoPart)) [4]) (.nm 7)) (mRet (mSl dSlice (mLc (.nm 8) (mSeqI (mVar 7)) (mTest (mOp dNotIn (mVar 8) (mLst (mCons (mC (.str "own")) (mCons (mC (.str "name")) (mCons (mC (.str "tick")) (mCons (mC (.str "worth")) mNil))))))) (mVar 8) [8]) mNoPart (mPart (mVar 1))))))))
def b__law_same (s__law_same : MF) : MS := (mSeq (mIfS (mOr (mTest (mOp dIs (mVar 1) (mC .non))) (mTest (mOp dIs (mVar 0) (mC .non)))) (mRet (mAndV (mOp dIs (mVar 1) (mC .non)) (mOp dIs (mVar 0) (mC .non)))) mNext) (mSeq (mIfS (mTest (mUn (dIsi2 "list" "tuple") (mVar 1))) (mSeq (mIfS (mOr (mTest (mOp dNe (mUn (dIsi "list") (mVar 0)) (mUn (dIsi "list") (mVar 1)))) (mTest (mOp dNe (mUn (dIsi "tuple") (mVar 0)) (mUn (dIsi "tuple") (mVar 1))))) (mRet (mC (.bl false))) mNext) (mRet (mAndV (mOp dEq (mCB cLen (mCons (mVar 0) mNil)) (mCB cLen (mCons (mVar 1) mNil))) (mCB cAll (mCons (mLc (.tp [(.nm 2), (.nm 3)]) (mZip (mVar 0) (mVar 1)) mYes (mCall s__law_same (mCons (mVar 2) (mCons (mVar 3) mNil))) [2, 3]) mNil))))) mNext) (mSeq (mIfS (mOr (mTest (mUn (dIsi "bool") (mVar 1))) (mTest (mUn (dIsi "bool") (mVar 0)))) (mRet (mAndV (mUn (dIsi "bool") (mVar 1)) (mAndV (mUn (dIsi "bool") (mVar 0)) (mOp dEq (mVar 0) (mVar 1))))) mNext) (mSeq (mIfS (mTest (mUn (dIsi "int") (mVar 1))) (mRet (mAndV (mUn (dIsi "int") (mVar 0)) (mOp dEq (mVar 0) (mVar 1)))) mNext) (mRet (mAndV (mUn (dIsi "str") (mVar 0)) (mAndV (mUn (dIsi "str") (mVar 1)) (mOp dEq (mVar 0) (mVar 1)))))))))
def b__law_odd (s__law_of : MF) : MS := (mRet (mCall s__law_of (mCons (mVar 0) (mCons (mOp dAdd (mLst (mCons (mC .non) (mCons (mC (.bl true)) (mCons (mC (.bl false)) (mCons (mC (.str "")) (mCons (mC (.str "A")) (mCons (mC (.str "a1")) (mCons (mC (.str "sevenst")) (mCons (mUn dNeg (mC (.int 1))) (mCons (mC (.int 7)) (mCons (mTup (mCons (mC (.int 1)) (mCons (mC (.str "a")) mNil))) (mCons (mLst (mCons (mC (.int 1)) mNil)) (mCons (mTup mNil) (mCons (mOp dPow (mC (.int 10)) (mC (.int 14))) mNil)))))))))))))) (mVar 1)) mNil))))
end CM
namespace CM
open PySem L2 DL
local macro_rules | `(tactic| walk_at "dl") => `(tactic| simp only [mSeq, mIfS, mOr, mAnd, mNot, mTest, mUn, mVar, mC, mOp, mCB, mCons, mNil, mChain, mRet, mRetN, mNext, mAsg, mPar, mTup, mLst, mLstM, mCall, mSl, mPart, mNoPart, mIf, mAndV, mOrV, mNotV, mFor, mLc, mSeqI, mRange1, mZip, mJoin, mSplit, mDrop, mSetIx, mCallN,
    dIsi, dIsi2, dI2, cLen, cInt, cAbs, cMin, cAll, cAny, dIx, dNeg, startD, bindT, bindTs, wipeD, sqOf, lsOf, tyN,
    List.map_cons, List.map_nil, List.cons_append, List.nil_append, List.length_cons, List.length_nil, List.getElem?_cons_zero, List.getElem?_cons_succ, List.set_cons_zero, List.set_cons_succ, List.replicate_succ, List.replicate_zero, Nat.zero_add, Nat.reduceAdd, Nat.reduceSub,
    Option.some.injEq, exists_eq_left', exists_eq_left, exists_and_left, D.bl.injEq, D.int.injEq, D.str.injEq, D.lst.injEq, D.tup.injEq, List.cons.injEq, and_true, true_and, if_true, if_false, Bool.not_true, Bool.not_false, Bool.false_eq_true, reduceCtorEq, false_and, exists_false, isiB, tys, List.mem_cons, String.reduceEq, decide_true, decide_false, Bool.or_false, Bool.false_or, Bool.and_false, Bool.false_and, Bool.or_true, Bool.true_or, Bool.and_true, Bool.true_and, true_or, or_true, false_or, or_false])
/-! ### comprehensions over data -/
section
variable {t : Tg} {G : Mh → Prop} {te : ME} {tt : MT} {Γ : DL.Env} {k : List D → Mh → Prop} {kx : XKd} {M : Mh}
theorem lc_wp (P : D → D → Prop) (hG : G M) : ∀ {ds acc : List D}, (∀ d ∈ ds, ∃ Γ1, bindT t d Γ = some Γ1 ∧ ∀ k' : DK, (∀ y, P d y → k' y M) → te Γ1 M k' kx) → (∀ ys : List D, ys.length = ds.length → (∀ (i : Nat) (d y : D), ds[i]? = some d → ys[i]? = some y → P d y) → k (acc ++ ys) M) → loopLc t G mYes te Γ k kx acc ds M
  | [], acc, _, hk => ⟨hG, by simpa using hk [] rfl (fun i d y h => by simp at h)⟩
  | d :: ds, acc, h, hk => by
    obtain ⟨Γ1, e1, h1⟩ := h d List.mem_cons_self
    refine ⟨hG, Γ1, e1, h1 _ fun y hy => ?_⟩
    refine lc_wp P hG (fun d' hd => h d' (List.mem_cons_of_mem _ hd)) fun ys hl hp => ?_
    have := hk (y :: ys) (by simp [hl]) fun i d' y' q1 q2 => by
      cases i with
      | zero =>
        simp only [List.getElem?_cons_zero, Option.some.injEq] at q1 q2
        subst q1 q2
        exact hy
      | succ i => exact hp i d' y' (by simpa using q1) (by simpa using q2)
    simpa using this
theorem lc_map (f : D → D) (hG : G M) : ∀ {ds acc : List D}, (∀ d ∈ ds, ∃ Γ1, bindT t d Γ = some Γ1 ∧ ∀ k' : DK, k' (f d) M → te Γ1 M k' kx) → k (acc ++ ds.map f) M → loopLc t G mYes te Γ k kx acc ds M
  | [], acc, _, hk => ⟨hG, by simpa using hk⟩
  | d :: ds, acc, h, hk => by
    obtain ⟨Γ1, e1, h1⟩ := h d List.mem_cons_self
    exact ⟨hG, Γ1, e1, h1 _ (lc_map f hG (fun d' hd => h d' (List.mem_cons_of_mem _ hd)) (by simpa using hk))⟩
theorem lc_filter (p : D → Bool) (f : D → D) (hG : G M) : ∀ {ds acc : List D}, (∀ d ∈ ds, ∃ Γ1, bindT t d Γ = some Γ1 ∧ (∀ k' : Bool → Mh → Prop, k' (p d) M → tt Γ1 M k' kx) ∧ ∀ k' : DK, k' (f d) M → te Γ1 M k' kx) → k (acc ++ (ds.filter p).map f) M → loopLc t G tt te Γ k kx acc ds M
  | [], acc, _, hk => ⟨hG, by simpa using hk⟩
  | d :: ds, acc, h, hk => by
    obtain ⟨Γ1, e1, h1, h2⟩ := h d List.mem_cons_self
    refine ⟨hG, Γ1, e1, h1 _ ?_⟩
    cases q : p d with
    | true =>
      rw [if_pos rfl]
      refine h2 _ (lc_filter p f hG (fun d' hd => h d' (List.mem_cons_of_mem _ hd)) ?_)
      rw [List.filter_cons_of_pos q] at hk
      simpa using hk
    | false =>
      rw [if_neg (by decide)]
      refine lc_filter p f hG (fun d' hd => h d' (List.mem_cons_of_mem _ hd)) ?_
      rw [List.filter_cons_of_neg (by rw [q]; decide)] at hk
      simpa using hk
end
theorem bls_map {α : Type} (g : α → Bool) : ∀ (xs : List α), blsOf (xs.map fun x => D.bl (g x)) = some (xs.map g)
  | [] => rfl
  | x :: xs => by
    show (blsOf (xs.map fun x => D.bl (g x))).map (g x :: ·) = _
    rw [bls_map g xs]
    rfl
theorem sz_le {n : Nat} (h : n ≤ 1000000) : n ≤ sizeLine := Nat.le_trans h (by decide)
/-! ### names -/
def letters : Str := "abcdefghijklmnopqrstuvwxyz"
def isNameS (z : Str) : Bool := decide (1 ≤ z.length) && decide (z.length ≤ 6) && z.cps.toList.all fun c => decide (c ∈ letters.cps.toList)
def isName : D → Bool
  | .str z => isNameS z
  | _ => false
theorem sign_in {M : Mh} {k : DK} {c : Nat} {z : Str} (h : k (.bl (decide (c ∈ z.cps.toList))) M) : dIn (.str ⟨#[c]⟩) (.str z) M k := ⟨c, rfl, h⟩
def sIsName : MF := fun ds M k _ => ∃ d, ds = [d] ∧ tyN M d ∈ tys ∧ (∀ z, d = .str z → z.length ≤ 1000000) ∧ k (.bl (isName d)) M
/-- all letters of a text lie in another -/
theorem lc_signs {i : Nat} {z w : Str} {Γ : DL.Env} {M : Mh} {kx : XKd} {k : List D → Mh → Prop} (hi : i < Γ.length) (h : k (z.cps.toList.map fun c => .bl (decide (c ∈ w.cps.toList))) M) :
    loopLc (.nm i) anyG mYes (mOp dIn (mVar i) (mC (.str w))) Γ k kx [] (signs z) M := by
  refine lc_map (fun d => match d with | .str s => .bl (decide (s.cps.toList.headD 0 ∈ w.cps.toList)) | _ => .non) trivial (fun d hd => ?_) ?_
  · unfold signs at hd
    obtain ⟨c, _, rfl⟩ := List.mem_map.mp hd
    refine ⟨_, rfl, fun k' hk => ⟨_, List.getElem?_set_self hi, ?_⟩⟩
    exact sign_in (by simpa using hk)
  · unfold signs
    rw [List.map_map, List.nil_append]
    exact h
theorem is_name_ok (ds : List D) (M : Mh) (k : DK) (kx : XKd) (h : sIsName ds M k kx) : b_is_name { nx := fun _ M' => k .non M', rt := k } (startD 2 ds) M noX := by
  obtain ⟨d, rfl, ht, hz, h⟩ := h
  have other : isName d = false → isiB (tyN M d) "str" = false → b_is_name { nx := fun _ M' => k .non M', rt := k } (startD 2 [d]) M noX := fun e1 e2 => by
    rw [e1] at h
    refine ⟨d, rfl, ht, _, rfl, ?_⟩
    rw [e2]
    exact h
  cases d with
  | str z =>
    have hz := hz z rfl
    unfold b_is_name
    walk_at "dl"
    refine ⟨sz_le hz, ?_⟩
    have e : isName (.str z) = (decide ((1 : Int) ≤ z.length) && decide ((z.length : Int) ≤ 6) && z.cps.toList.all fun c => decide (c ∈ letters.cps.toList)) := by
      show (decide (1 ≤ z.length) && decide (z.length ≤ 6) && _) = _
      congr 2
      · exact decide_eq_decide.mpr (by omega)
      · exact decide_eq_decide.mpr (by omega)
    rw [e] at h
    by_cases h1 : (1 : Int) ≤ z.length
    · rw [decide_eq_true h1] at h ⊢
      by_cases h2 : (z.length : Int) ≤ 6
      · rw [decide_eq_true h2] at h ⊢
        have hl : (signs z).length = z.length := by unfold signs; simp; rfl
        refine ⟨by rw [hl]; exact sz_le hz, lc_signs (by show 1 < 2; decide) ⟨_, bls_map _ _, ?_⟩⟩
        rw [List.all_map]
        exact h
      · rw [decide_eq_false h2] at h ⊢
        exact h
    · rw [decide_eq_false h1] at h ⊢
      exact h
  | non => exact other rfl rfl
  | bl _ => exact other rfl rfl
  | int _ => exact other rfl rfl
  | tup _ => exact other rfl rfl
  | lst _ => exact other rfl rfl
  | ty _ => exact other rfl rfl
  | scr _ => exact other rfl rfl
  | exc _ _ _ _ => exact other rfl rfl
  | ref a =>
    refine other rfl ?_
    show isiB (tyM (M a)) "str" = false
    unfold tyM
    split <;> rfl
/-! ### numbers -/
def isNum (a b : Int) : D → Bool
  | .int i => decide (a ≤ i) && decide (i ≤ b)
  | _ => false
def sIsNumber : MF := fun ds M k _ => ∃ d a b, ds = [d, .int a, .int b] ∧ tyN M d ∈ tys ∧ k (.bl (isNum a b d)) M
theorem is_number_ok (ds : List D) (M : Mh) (k : DK) (kx : XKd) (h : sIsNumber ds M k kx) : b_is_number { nx := fun _ M' => k .non M', rt := k } (startD 3 ds) M noX := by
  obtain ⟨d, a, b, rfl, ht, h⟩ := h
  unfold b_is_number
  have other : isNum a b d = false → isiB (tyN M d) "int" = false → (mRet (mAndV (mUn (dIsi "int") (mVar 0)) (mAndV (mNotV (mUn (dIsi "bool") (mVar 0))) (mChain dLe dLe (mVar 1) (mVar 0) (mVar 2))))) { nx := fun _ M' => k .non M', rt := k } (startD 3 [d, .int a, .int b]) M noX := fun e1 e2 => by
    rw [e1] at h
    refine ⟨d, rfl, ht, _, rfl, ?_⟩
    rw [e2]
    exact h
  cases d with
  | int i =>
    walk_at "dl"
    by_cases h1 : a ≤ i
    · simp only [isNum, decide_eq_true h1, Bool.true_and] at h
      rw [decide_eq_true h1]
      exact h
    · simp only [isNum, decide_eq_false h1, Bool.false_and] at h
      rw [decide_eq_false h1]
      exact h
  | bl c =>
    walk_at "dl"
    exact h
  | non => exact other rfl rfl
  | str _ => exact other rfl rfl
  | tup _ => exact other rfl rfl
  | lst _ => exact other rfl rfl
  | ty _ => exact other rfl rfl
  | scr _ => exact other rfl rfl
  | exc _ _ _ _ => exact other rfl rfl
  | ref a =>
    refine other rfl ?_
    show isiB (tyM (M a)) "int" = false
    unfold tyM
    split <;> rfl
/-! ### the box -/
theorem ix_box {M : Mh} {b : Addr} {ds : List D} {x : D} {i j : Nat} {Γ : DL.Env} {k : DK} {kx : XKd} (hΓ : Γ[i]? = some (some (.ref b))) (hm : M b = some (.lst ds)) (hx : ds[j]? = some x) (h : k x M) : mOp dIx (mVar i) (mC (.int j)) Γ M k kx :=
  ⟨_, hΓ, j, ds, x, rfl, by show mls (M b) = _; rw [hm]; rfl, atI_nat hx, h⟩
theorem set_box {M : Mh} {b : Addr} {ds : List D} {x : D} {i j : Nat} {Γ : DL.Env} {De : DEnds} {kx : XKd} {me : ME} (hΓ : Γ[i]? = some (some (.ref b))) (hm : M b = some (.lst ds)) (hj : j < ds.length) (he : ∀ k : DK, k x M → me Γ M k kx) (h : De.nx Γ (setM M b (.lst (ds.set j x)))) : mSetIx me (mVar i) (mC (.int j)) De Γ M kx :=
  he _ ⟨_, hΓ, b, ds, j, j, rfl, hm, rfl, by unfold ixN; rw [if_pos (Int.natCast_nonneg _), if_pos (by simpa using hj)]; simp, h⟩
theorem at_of' {xs : List D} {z : Int} {j : Nat} {v : D} (e : z = (j : Int)) (h : xs[j]? = some v) : atI xs z = some v := by
  rw [e]
  exact atI_nat h
theorem pull_body (b : Addr) (n : Int) (ds : List D) (M : Mh) (k : DK) (hb : BoxD ds) (h1 : 0 < n) (h2 : n < 1073741824) (hm : M b = some (.lst ds)) (hk : ∀ r ds', 0 ≤ r → r < n → BoxD ds' → k (.int r) (setM M b (.lst ds'))) :
    b__law_pull { nx := fun _ M' => k .non M', rt := k } (startD 5 [.ref b, .int n]) M noX := by
  obtain ⟨ns, i, big, mix, cnt, rfl, g1, g2, g3, g4⟩ := hb
  unfold b__law_pull
  refine set_box (x := .int (cnt + 1)) (j := 4) rfl hm (by show 4 < 5; decide) (fun k' h' => ix_box (j := 4) rfl hm rfl h') ?_
  -- the last part: the box as it stands, any big that is not negative
  have last : ∀ (M1 : Mh) (Γ : DL.Env) (i big mix : Int), Γ.length = 5 → Γ[0]? = some (some (.ref b)) → Γ[1]? = some (some (.int n)) → M1 = setM M b (.lst [.lst (ns.map D.int), .int i, .int big, .int mix, .int (cnt + 1)]) → 0 ≤ i → 0 ≤ big → 0 ≤ mix → mix < 2147483648 →
      (mSeq (mIfS (mTest (mOp dGt (mOp dIx (mVar 0) (mC (.int 2))) (mC (.int 0)))) (mSeq (mAsg (mOp dMod (mCB cInt (mCons (mOp dIx (mVar 0) (mC (.int 2))) mNil)) (mVar 1)) (.nm 3)) (mSeq (mSetIx (mOp dDiv (mOp dIx (mVar 0) (mC (.int 2))) (mVar 1)) (mVar 0) (mC (.int 2))) (mRet (mVar 3)))) mNext) (mSeq (mAsg (mOp dMod (mCB cInt (mCons (mOp dAdd (mOp dMul (mOp dIx (mVar 0) (mC (.int 3))) (mOp dIx (mVar 0) (mC (.int 3)))) (mOp dMul (mOp dIx (mVar 0) (mC (.int 4))) (mC (.int 8317)))) mNil)) (mC (.int 2147483549))) (.nm 4)) (mSeq (mSetIx (mOp dMod (mCB cInt (mCons (mOp dAdd (mOp dAdd (mOp dMul (mVar 4) (mC (.int 15973))) (mOp dMul (mOp dIx (mVar 0) (mC (.int 3))) (mC (.int 60107)))) (mC (.int 54013))) mNil)) (mC (.int 2147483629))) (mVar 0) (mC (.int 3))) (mRet (mOp dMod (mCB cInt (mCons (mOp dDiv (mOp dIx (mVar 0) (mC (.int 3))) (mC (.int 64))) mNil)) (mVar 1)))))) { nx := fun _ M' => k .non M', rt := k } Γ M1 noX := by
    intro M1 Γ i big mix hl hΓ hΓ1 hM gi gb gm gm2
    have hb : M1 b = some (.lst [.lst (ns.map D.int), .int i, .int big, .int mix, .int (cnt + 1)]) := by rw [hM]; exact setM_at
    refine ix_box (j := 2) hΓ hb rfl ⟨big, 0, rfl, rfl, trivial, _, rfl, ?_⟩
    by_cases hbig : 0 < big
    · rw [decide_eq_true hbig]
      refine ix_box (j := 2) hΓ hb rfl ⟨big, rfl, _, hΓ1, big, n, rfl, rfl, h1, _, rfl, ?_⟩
      have hΓa : (Γ.set 3 (some (.int (big % n))))[0]? = some (some (.ref b)) := by rw [List.getElem?_set_ne (by decide)]; exact hΓ
      have hΓb : (Γ.set 3 (some (.int (big % n))))[1]? = some (some (.int n)) := by rw [List.getElem?_set_ne (by decide)]; exact hΓ1
      dsimp only
      refine set_box (x := .int (big / n)) (j := 2) hΓa hb (by show 2 < 5; decide) ?_ ?_
      · intro k' h'
        exact ix_box (j := 2) hΓa hb rfl ⟨_, hΓb, big, n, rfl, rfl, ⟨h1, h2⟩, h'⟩
      refine ⟨_, List.getElem?_set_self (by omega), ?_⟩
      rw [hM, setM_setM]
      exact hk _ _ (Int.emod_nonneg _ (by omega)) (Int.emod_lt_of_pos _ h1) ⟨ns, i, big / n, mix, cnt + 1, rfl, gi, Int.ediv_nonneg gb (by omega), gm, gm2⟩
    · rw [decide_eq_false hbig]
      refine ix_box (j := 3) hΓ hb rfl (ix_box (j := 3) hΓ hb rfl ⟨.inl ⟨by omega, by omega⟩, ?_⟩)
      refine ix_box (j := 4) hΓ hb rfl ⟨.inr ⟨by decide, by decide⟩, _, rfl, _, 2147483549, rfl, rfl, (by show (0 : Int) < 2147483549; decide), _, rfl, ?_⟩
      dsimp only
      have gt := Int.emod_nonneg (mix * mix + (cnt + 1) * 8317) (show (2147483549 : Int) ≠ 0 by decide)
      have gt2 := Int.emod_lt_of_pos (mix * mix + (cnt + 1) * 8317) (show (0 : Int) < 2147483549 by decide)
      generalize (mix * mix + (cnt + 1) * 8317) % 2147483549 = tw at gt gt2
      have hΓ' : (Γ.set 4 (some (.int tw)))[0]? = some (some (.ref b)) := by rw [List.getElem?_set_ne (by decide)]; exact hΓ
      have hΓ1' : (Γ.set 4 (some (.int tw)))[1]? = some (some (.int n)) := by rw [List.getElem?_set_ne (by decide)]; exact hΓ1
      have hΓ4 : (Γ.set 4 (some (.int tw)))[4]? = some (some (.int tw)) := List.getElem?_set_self (by omega)
      have gz := Int.emod_nonneg (tw * 15973 + mix * 60107 + 54013) (show (2147483629 : Int) ≠ 0 by decide)
      have gz2 := Int.emod_lt_of_pos (tw * 15973 + mix * 60107 + 54013) (show (0 : Int) < 2147483629 by decide)
      refine set_box (x := .int ((tw * 15973 + mix * 60107 + 54013) % 2147483629)) (j := 3) hΓ' hb (by show 3 < 5; decide) ?_ ?_
      · intro k' h'
        exact ⟨_, hΓ4, .inr ⟨by decide, by decide⟩, ix_box (j := 3) hΓ' hb rfl ⟨.inr ⟨by decide, by decide⟩, _, rfl, _, 2147483629, rfl, rfl, (by show (0 : Int) < 2147483629; decide), h'⟩⟩
      generalize (tw * 15973 + mix * 60107 + 54013) % 2147483629 = mx at gz gz2
      refine ix_box (j := 3) hΓ' setM_at rfl ⟨mx, 64, rfl, rfl, ⟨by decide, by decide⟩, _, rfl, _, hΓ1', _, n, rfl, rfl, h1, ?_⟩
      rw [hM, setM_setM]
      exact hk _ _ (Int.emod_nonneg _ (by omega)) (Int.emod_lt_of_pos _ h1) ⟨ns, i, big, mx, cnt + 1, rfl, gi, gb, gz, by omega⟩
  have hb : setM M b (.lst [.lst (ns.map D.int), .int i, .int big, .int mix, .int (cnt + 1)]) b = some (.lst [.lst (ns.map D.int), .int i, .int big, .int mix, .int (cnt + 1)]) := setM_at
  refine ix_box (j := 2) rfl hb rfl ⟨_, rfl, ?_⟩
  by_cases hz : big = 0
  · rw [decide_eq_true hz]
    refine ix_box (j := 1) rfl hb rfl ?_
    refine ix_box (j := 0) rfl hb rfl ⟨_, rfl, _, rfl, i, _, rfl, rfl, trivial, _, rfl, ?_⟩
    by_cases hi : i < ((ns.map D.int).length : Int)
    · rw [decide_eq_true hi]
      rw [List.length_map] at hi
      have hn : (ns.map D.int)[i.toNat]? = some (.int ns[i.toNat]) := by
        rw [List.getElem?_map, List.getElem?_eq_getElem (by omega)]
        rfl
      have ei : i = ((i.toNat : Nat) : Int) := by omega
      generalize hc : ns[i.toNat] = c at hn
      refine ix_box (j := 0) rfl hb rfl (ix_box (j := 1) rfl hb rfl ⟨i, _, _, rfl, rfl, at_of' ei hn, _, rfl, ?_⟩)
      dsimp only [startD, List.map_cons, List.map_nil, List.cons_append, List.nil_append, List.length_cons, List.length_nil, List.set_cons_zero, List.set_cons_succ, List.replicate_succ, List.replicate_zero, Nat.reduceAdd, Nat.reduceSub]
      refine set_box (x := .int (i + 1)) (i := 0) (j := 1) (Γ := [some (.ref b), some (.int n), some (.int c), none, none]) rfl hb (by show 1 < 5; decide) ?_ ?_
      · intro k' h'
        exact ix_box (j := 1) rfl hb rfl h'
      refine ⟨_, rfl, c, rfl, _, _, rfl, rfl, ⟨by decide, by decide, by decide⟩, _, _, rfl, rfl, trivial, _, rfl, ?_⟩
      have hb2 : setM (setM M b (.lst [.lst (ns.map D.int), .int i, .int big, .int mix, .int (cnt + 1)])) b (.lst [.lst (ns.map D.int), .int (i + 1), .int big, .int mix, .int (cnt + 1)]) b = some (.lst [.lst (ns.map D.int), .int (i + 1), .int big, .int mix, .int (cnt + 1)]) := setM_at
      have ha : 0 ≤ (if c < 0 then -c else c) := by split <;> omega
      dsimp only
      by_cases hc18 : (10 : Int) ^ Int.toNat 18 ≤ (if c < 0 then -c else c)
      · rw [decide_eq_true hc18, if_pos rfl]
        dsimp only [List.set_cons_zero, List.set_cons_succ]
        refine set_box (x := .int (if c < 0 then -c else c)) (i := 0) (j := 2) (Γ := [some (.ref b), some (.int n), some (.int c), none, none]) rfl hb2 (by show 2 < 5; decide) ?_ ?_
        · intro k' h'
          exact ⟨_, rfl, c, rfl, h'⟩
        exact last _ _ (i + 1) (if c < 0 then -c else c) mix rfl rfl rfl (by rw [setM_setM, setM_setM]; rfl) (by omega) ha g3 g4
      · rw [decide_eq_false hc18, if_neg (by decide)]
        dsimp only [List.set_cons_zero, List.set_cons_succ]
        have gz := Int.emod_nonneg (mix * 41389 + c % 1000003 * 733 + 31) (show (2147483629 : Int) ≠ 0 by decide)
        have gz2 := Int.emod_lt_of_pos (mix * 41389 + c % 1000003 * 733 + 31) (show (0 : Int) < 2147483629 by decide)
        refine set_box (x := .int ((mix * 41389 + c % 1000003 * 733 + 31) % 2147483629)) (i := 0) (j := 3) (Γ := [some (.ref b), some (.int n), some (.int c), none, none]) rfl hb2 (by show 3 < 5; decide) ?_ ?_
        · intro k' h'
          exact ix_box (j := 3) rfl hb2 rfl ⟨.inr ⟨by decide, by decide⟩, _, rfl, c, rfl, c, 1000003, rfl, rfl, (by show (0 : Int) < 1000003; decide), .inr ⟨by decide, by decide⟩, _, rfl, _, 2147483629, rfl, rfl, (by show (0 : Int) < 2147483629; decide), h'⟩
        exact last _ _ (i + 1) big _ rfl rfl rfl (by rw [setM_setM, setM_setM]; rfl) (by omega) (by omega) gz (by omega)
    · rw [decide_eq_false hi]
      exact last _ _ i big mix rfl rfl rfl rfl g1 g2 g3 g4
  · rw [decide_eq_false hz]
    exact last _ _ i big mix rfl rfl rfl rfl g1 g2 g3 g4
end CM
namespace CM
open PySem L2 DL
/-! ### loops -/
theorem for_inv {t : Tg} {G : Mh → Prop} {body : MS} {De : DEnds} {kx : XKd} (P : DL.Env → Mh → Prop) : ∀ (ds : List D) {Γ : DL.Env} {M : Mh}, P Γ M →
    (∀ d ∈ ds, ∀ Γ M, P Γ M → G M ∧ ∃ Γ1, bindT t d Γ = some Γ1 ∧ ∀ nx : DL.Env → Mh → Prop, (∀ Γ2 M2, P Γ2 M2 → nx Γ2 M2) → body { De with nx := nx, ct := nx, bk := De.nx } Γ1 M kx) →
    (∀ Γ M, P Γ M → G M ∧ De.nx Γ M) → loopFor t G body De kx ds Γ M
  | [], Γ, M, h, _, he => he Γ M h
  | d :: ds, Γ, M, h, hs, he => by
    obtain ⟨g, Γ1, e, hb⟩ := hs d List.mem_cons_self Γ M h
    exact ⟨g, Γ1, e, hb _ fun Γ2 M2 h2 => for_inv P ds h2 (fun d' hd => hs d' (List.mem_cons_of_mem _ hd)) he⟩
theorem cut_ints (ns : List Int) (lo hi : Option Int) : ∃ ms : List Int, cutD (ns.map D.int) lo hi = ms.map D.int ∧ ms.length ≤ ns.length := by
  refine ⟨(ns.drop (HT.sIx ns.length 0 lo)).take (HT.sIx ns.length ns.length hi - HT.sIx ns.length 0 lo), ?_, ?_⟩
  · unfold cutD
    rw [List.length_map, List.map_take, List.map_drop]
  · rw [List.length_take, List.length_drop]
    omega
theorem box_body (ns : List Int) (M : Mh) (k : DK) (hn : ns.length ≤ 63) (hk : ∀ p ds, M p = none → BoxD ds → k (.ref p) (setM M p (.lst ds))) :
    b__law_box { nx := fun _ M' => k .non M', rt := k } (startD 3 [.scr ns]) M noX := by
  obtain ⟨ms, e, hl⟩ := cut_ints ns none (some 63)
  unfold b__law_box
  refine ⟨_, rfl, ?_⟩
  refine ⟨_, rfl, _, rfl, ?_⟩
  show loopFor _ _ _ _ _ (cutD (ns.map D.int) none (some 63)) _ _
  rw [e]
  refine for_inv (fun Γ M' => M' = M ∧ ∃ mx c, Γ = [some (.scr ns), some (.int mx), c] ∧ 0 ≤ mx ∧ mx < 2147483587) _ ⟨rfl, 10010, none, rfl, by decide, by decide⟩ ?_ ?_
  · rintro d hd Γ M' ⟨rfl, mx, c, rfl, g1, g2⟩
    obtain ⟨n, _, rfl⟩ := List.mem_map.mp hd
    refine ⟨trivial, _, rfl, fun nx hnx => ?_⟩
    have gz := Int.emod_nonneg (mx * 50021 + n % 1000003 * 769 + 17) (show (2147483587 : Int) ≠ 0 by decide)
    have gz2 := Int.emod_lt_of_pos (mx * 50021 + n % 1000003 * 769 + 17) (show (0 : Int) < 2147483587 by decide)
    refine ⟨_, rfl, .inr ⟨by decide, by decide⟩, _, rfl, n, rfl, n, 1000003, rfl, rfl, (by show (0 : Int) < 1000003; decide), .inr ⟨by decide, by decide⟩, _, rfl, _, 2147483587, rfl, rfl, (by show (0 : Int) < 2147483587; decide), _, rfl, ?_⟩
    exact hnx _ _ ⟨rfl, _, _, rfl, gz, gz2⟩
  · rintro Γ M' ⟨rfl, mx, c, rfl, g1, g2⟩
    refine ⟨trivial, _, rfl, _, rfl, _, _, rfl, rfl, _, rfl, by show 5 ≤ sizeLine; decide, fun p hp => ?_⟩
    have e2 : cutD (ns.map D.int) none (some (63 : Int)) = ms.map D.int := e
    show k (.ref p) (setM M' p (.lst [.lst (cutD (ns.map D.int) none (some 63)), .int 0, .int 0, .int mx, .int 0]))
    rw [e2]
    exact hk p _ hp ⟨ms, 0, 0, mx, 0, rfl, by decide, by decide, g1, by omega⟩
/-! ### one of some -/
def itemsOf (M : Mh) : D → Option (List D)
  | .str z => some (signs z)
  | d => sqOf M d
def sOf : MF := fun ds M k _ => ∃ b d es, ds = [.ref b, d] ∧ M b = some .box ∧ itemsOf M d = some es ∧ 0 < es.length ∧ es.length ≤ 1000000 ∧ ∀ x ∈ es, k x M
theorem of_ok (ds : List D) (M : Mh) (k : DK) (kx : XKd) (h : sOf ds M k kx) : b__law_of sPull { nx := fun _ M' => k .non M', rt := k } (startD 2 ds) M noX := by
  obtain ⟨b, d, es, rfl, hb, hi, h0, hl, h⟩ := h
  unfold b__law_of
  have fin : ∀ r : Int, 0 ≤ r → r < (es.length : Int) → ∃ x, es[r.toNat]? = some x ∧ k x M := fun r h1 h2 => by
    have hlt : r.toNat < es.length := by omega
    exact ⟨es[r.toNat], List.getElem?_eq_getElem hlt, h _ (List.getElem_mem hlt)⟩
  cases d with
  | str z =>
    have e : signs z = es := Option.some.inj hi
    have hz : z.length = es.length := by rw [← e]; unfold signs; simp; rfl
    refine ⟨_, rfl, _, rfl, _, rfl, _, rfl, ⟨by rw [hz]; exact sz_le hl, ?_⟩⟩
    refine ⟨b, z.length, rfl, hb, by omega, by omega, fun r h1 h2 => ?_⟩
    obtain ⟨x, g1, g2⟩ := fin r h1 (by omega)
    rw [← e] at g1
    unfold signs at g1
    rw [List.getElem?_map] at g1
    cases c : z.cps.toList[r.toNat]? with
    | none => rw [c] at g1; cases g1
    | some y =>
      rw [c] at g1
      cases g1
      refine ⟨r, y, rfl, by rw [hz]; exact sz_le hl, ?_, g2⟩
      rw [show r = ((r.toNat : Nat) : Int) by omega]
      exact atI_nat c
  | tup xs =>
    refine ⟨_, rfl, _, rfl, _, rfl, _, rfl, es, hi, b, es.length, rfl, hb, by omega, by omega, fun r h1 h2 => ?_⟩
    obtain ⟨x, g1, g2⟩ := fin r h1 h2
    exact ⟨r, es, x, rfl, hi, at_of' (show r = ((r.toNat : Nat) : Int) by omega) g1, g2⟩
  | lst xs =>
    refine ⟨_, rfl, _, rfl, _, rfl, _, rfl, es, hi, b, es.length, rfl, hb, by omega, by omega, fun r h1 h2 => ?_⟩
    obtain ⟨x, g1, g2⟩ := fin r h1 h2
    exact ⟨r, es, x, rfl, hi, at_of' (show r = ((r.toNat : Nat) : Int) by omega) g1, g2⟩
  | ref a =>
    refine ⟨_, rfl, _, rfl, _, rfl, _, rfl, es, hi, b, es.length, rfl, hb, by omega, by omega, fun r h1 h2 => ?_⟩
    obtain ⟨x, g1, g2⟩ := fin r h1 h2
    exact ⟨r, es, x, rfl, hi, at_of' (show r = ((r.toNat : Nat) : Int) by omega) g1, g2⟩
  | non => cases hi
  | bl _ => cases hi
  | int _ => cases hi
  | ty _ => cases hi
  | scr _ => cases hi
  | exc _ _ _ _ => cases hi
/-! ### odd values -/
def oddL : List D := [.non, .bl true, .bl false, .str "", .str "A", .str "a1", .str "sevenst", .int (-1), .int 7, .tup [.int 1, .str "a"], .lst [.int 1], .tup [], .int (10 ^ 14)]
def sOdd : MF := fun ds M k _ => ∃ b d es, ds = [.ref b, d] ∧ M b = some .box ∧ lsOf M d = some es ∧ es.length ≤ 1000 ∧ ∀ x ∈ oddL ++ es, k x M
theorem odd_ok (ds : List D) (M : Mh) (k : DK) (kx : XKd) (h : sOdd ds M k kx) : b__law_odd sOf { nx := fun _ M' => k .non M', rt := k } (startD 2 ds) M noX := by
  obtain ⟨b, d, es, rfl, hb, hi, hl, h⟩ := h
  have hs : oddL.length + es.length ≤ sizeLine := sz_le (by show 13 + es.length ≤ 1000000; omega)
  have key : sOf [.ref b, .lst (oddL ++ es)] M k noX := ⟨b, _, _, rfl, hb, rfl, by rw [List.length_append]; show 0 < 13 + es.length; omega, by rw [List.length_append]; show 13 + es.length ≤ 1000000; omega, h⟩
  unfold b__law_odd
  refine ⟨_, rfl, 1, rfl, by show 2 ≤ sizeLine; decide, by show 1 ≤ sizeLine; decide, Nat.zero_le _, 10, 14, rfl, rfl, ⟨by decide, by decide, by decide⟩, by show 13 ≤ sizeLine; decide, _, rfl, ?_⟩
  cases d with
  | lst xs => exact ⟨oddL, es, rfl, hi, hs, key⟩
  | ref a => exact ⟨oddL, es, rfl, hi, hs, key⟩
  | non => cases hi
  | bl _ => cases hi
  | int _ => cases hi
  | str _ => cases hi
  | tup _ => cases hi
  | ty _ => cases hi
  | scr _ => cases hi
  | exc _ _ _ _ => cases hi
end CM
namespace CM
open PySem L2 DL
/-! ### the same data -/
mutual
/-- plain data, nested fewer than n deep, of lists and tuples that are not long -/
def pureN : Nat → D → Bool
  | 0, _ => false
  | _ + 1, .non => true
  | _ + 1, .bl _ => true
  | _ + 1, .int _ => true
  | _ + 1, .str _ => true
  | n + 1, .tup ds => pureAll n ds
  | n + 1, .lst ds => pureAll n ds
  | _ + 1, _ => false
def pureAll : Nat → List D → Bool
  | _, [] => true
  | n, d :: ds => pureN n d && pureAll n ds
end
mutual
def shortD : D → Bool
  | .tup ds => decide (ds.length ≤ 1000000) && shortAll ds
  | .lst ds => decide (ds.length ≤ 1000000) && shortAll ds
  | _ => true
def shortAll : List D → Bool
  | [] => true
  | d :: ds => shortD d && shortAll ds
end
theorem pureAll_mem {n : Nat} : ∀ {ds : List D}, pureAll n ds = true → ∀ d ∈ ds, pureN n d = true
  | [], _, d, h => by cases h
  | e :: es, h, d, hd => by
    rw [pureAll, Bool.and_eq_true] at h
    rcases List.mem_cons.mp hd with rfl | hd
    · exact h.1
    · exact pureAll_mem h.2 d hd
theorem shortAll_mem : ∀ {ds : List D}, shortAll ds = true → ∀ d ∈ ds, shortD d = true
  | [], _, d, h => by cases h
  | e :: es, h, d, hd => by
    rw [shortAll, Bool.and_eq_true] at h
    rcases List.mem_cons.mp hd with rfl | hd
    · exact h.1
    · exact shortAll_mem h.2 d hd
def sSame (n : Nat) : MF := fun ds M k _ => ∃ d, ds = [d, d] ∧ pureN n d = true ∧ shortD d = true ∧ k (.bl true) M
theorem pairs_self (ds : List D) : pairs ds ds = ds.map fun d => .tup [d, d] := by
  unfold pairs
  induction ds with
  | nil => rfl
  | cons d ds ih => simp only [List.zip_cons_cons, List.map_cons, ih]
theorem all_true {α : Type} (xs : List α) : (xs.map fun _ => true).all id = true := by simp
theorem pure_ty {n : Nat} {d : D} (M : Mh) (h : pureN n d = true) : tyN M d ∈ tys := by
  cases n with
  | zero => rw [pureN] at h; cases h
  | succ n =>
    cases d with
    | non => show "NoneType" ∈ tys; decide
    | bl _ => show "bool" ∈ tys; decide
    | int _ => show "int" ∈ tys; decide
    | str _ => show "str" ∈ tys; decide
    | tup _ => show "tuple" ∈ tys; decide
    | lst _ => show "list" ∈ tys; decide
    | ref a => simp [pureN] at h
    | ty _ => simp [pureN] at h
    | scr _ => simp [pureN] at h
    | exc _ _ _ _ => simp [pureN] at h
theorem same_ok (n : Nat) (ds : List D) (M : Mh) (k : DK) (kx : XKd) (h : sSame (n + 1) ds M k kx) : b__law_same (sSame n) { nx := fun _ M' => k .non M', rt := k } (startD 4 ds) M noX := by
  obtain ⟨d, rfl, hp, hs, h⟩ := h
  unfold b__law_same
  have ht := pure_ty M hp
  have comp : ∀ (es : List D) (G : Mh → Prop), G M → pureAll n es = true → shortAll es = true → loopLc (.tp [.nm 2, .nm 3]) G mYes (mCall (sSame n) (mCons (mVar 2) (mCons (mVar 3) mNil))) [some d, some d, none, none] (fun acc M2 => cAll [.lst acc] M2 k) noX [] (pairs es es) M := fun es G hG h1 h2 => by
    refine lc_map (fun _ => .bl true) hG (fun p hp => ?_) ?_
    · rw [pairs_self] at hp
      obtain ⟨x, hx, rfl⟩ := List.mem_map.mp hp
      exact ⟨_, rfl, fun k' hk => ⟨_, rfl, _, rfl, x, rfl, pureAll_mem h1 x hx, shortAll_mem h2 x hx, hk⟩⟩
    · refine ⟨_, _, (pairs es es).map fun _ => true, rfl, rfl, bls_map (fun _ => true) _, ?_⟩
      rw [all_true]
      exact h
  cases d with
  | non => exact ⟨_, rfl, _, rfl, _, rfl, _, rfl, _, rfl, h⟩
  | bl b =>
    refine ⟨_, rfl, _, rfl, _, rfl, _, rfl, ?_⟩
    refine ⟨_, rfl, ht, _, rfl, ?_⟩
    refine ⟨_, rfl, ht, _, rfl, ?_⟩
    refine ⟨_, rfl, ht, _, rfl, _, rfl, ht, _, rfl, _, rfl, _, rfl, ?_⟩
    show k (.bl (decide (b = b))) M
    rw [decide_eq_true rfl]
    exact h
  | int i =>
    refine ⟨_, rfl, _, rfl, _, rfl, _, rfl, ?_⟩
    refine ⟨_, rfl, ht, _, rfl, ?_⟩
    refine ⟨_, rfl, ht, _, rfl, _, rfl, ht, _, rfl, ?_⟩
    refine ⟨_, rfl, ht, _, rfl, _, rfl, ht, _, rfl, _, rfl, _, rfl, ?_⟩
    show k (.bl (decide (i = i))) M
    rw [decide_eq_true rfl]
    exact h
  | str i =>
    refine ⟨_, rfl, _, rfl, _, rfl, _, rfl, ?_⟩
    refine ⟨_, rfl, ht, _, rfl, ?_⟩
    refine ⟨_, rfl, ht, _, rfl, _, rfl, ht, _, rfl, ?_⟩
    refine ⟨_, rfl, ht, _, rfl, ?_⟩
    refine ⟨_, rfl, ht, _, rfl, _, rfl, ht, _, rfl, _, rfl, _, rfl, ?_⟩
    show k (.bl (decide (i = i))) M
    rw [decide_eq_true rfl]
    exact h
  | tup es =>
    rw [pureN] at hp
    rw [shortD, Bool.and_eq_true, decide_eq_true_eq] at hs
    have hl : (pairs es es).length ≤ sizeLine := by rw [pairs_len, Nat.min_self]; exact sz_le hs.1
    refine ⟨_, rfl, _, rfl, _, rfl, _, rfl, ?_⟩
    refine ⟨_, rfl, ht, _, rfl, ?_⟩
    refine ⟨_, rfl, ht, _, rfl, ht, _, rfl, _, rfl, ht, _, rfl, ht, _, rfl, ?_⟩
    refine ⟨_, rfl, _, rfl, es, rfl, _, rfl, _, rfl, es, rfl, ?_⟩
    refine ⟨true, by show D.bl (decide ((es.length : Int) = es.length)) = _; rw [decide_eq_true rfl], ?_⟩
    exact ⟨_, rfl, _, rfl, hl, comp es _ trivial hp hs.2⟩
  | lst es =>
    rw [pureN] at hp
    rw [shortD, Bool.and_eq_true, decide_eq_true_eq] at hs
    have hl : (pairs es es).length ≤ sizeLine := by rw [pairs_len, Nat.min_self]; exact sz_le hs.1
    refine ⟨_, rfl, _, rfl, _, rfl, _, rfl, ?_⟩
    refine ⟨_, rfl, ht, _, rfl, ?_⟩
    refine ⟨_, rfl, ht, _, rfl, ht, _, rfl, _, rfl, ht, _, rfl, ht, _, rfl, ?_⟩
    refine ⟨_, rfl, _, rfl, es, rfl, _, rfl, _, rfl, es, rfl, ?_⟩
    refine ⟨true, by show D.bl (decide ((es.length : Int) = es.length)) = _; rw [decide_eq_true rfl], ?_⟩
    exact ⟨_, rfl, _, rfl, es, es, rfl, rfl, hl, comp es _ ⟨rfl, rfl⟩ hp hs.2⟩
  | ref a => simp [pureN] at hp
  | ty _ => simp [pureN] at hp
  | scr _ => simp [pureN] at hp
  | exc _ _ _ _ => simp [pureN] at hp
end CM
namespace CM
open PySem L2 DL
/-! ### names that are drawn: the plain part -/
def L26 : List Nat := [97, 98, 99, 100, 101, 102, 103, 104, 105, 106, 107, 108, 109, 110, 111, 112, 113, 114, 115, 116, 117, 118, 119, 120, 121, 122]
theorem letters_L : letters.cps.toList = L26 := by decide +kernel
theorem L26_nodup : L26.Nodup := by decide
def badW : List Str := ["own", "name", "tick", "worth"]
/-- a name that is no word of the language -/
def Good (w : Str) : Prop := isNameS w = true ∧ w ∉ badW
def cand (cs : List Nat) (r : Nat) (q : Int) (j : Nat) : List Nat := cs.take r ++ L26.getD ((q + 7 * (j : Int)) % 26).toNat 0 :: cs.drop r
theorem ix26 (q : Int) (j : Nat) : ((q + 7 * (j : Int)) % 26).toNat < 26 := by
  have := Int.emod_lt_of_pos (q + 7 * (j : Int)) (show (0 : Int) < 26 by decide)
  have := Int.emod_nonneg (q + 7 * (j : Int)) (show (26 : Int) ≠ 0 by decide)
  omega
theorem cand_len (cs : List Nat) (r : Nat) (q : Int) (j : Nat) : (cand cs r q j).length = cs.length + 1 := by
  unfold cand
  rw [List.length_append, List.length_cons, List.length_take, List.length_drop]
  omega
theorem L26_get {i : Nat} (h : i < 26) : L26[i]? = some (L26.getD i 0) := by
  rw [List.getD_eq_getElem?_getD, List.getElem?_eq_getElem (show i < L26.length from h)]
  rfl
theorem cand_all {cs : List Nat} (h : ∀ c ∈ cs, c ∈ L26) (r : Nat) (q : Int) (j : Nat) : ∀ c ∈ cand cs r q j, c ∈ L26 := fun c hc => by
  unfold cand at hc
  rcases List.mem_append.mp hc with hc | hc
  · exact h c (List.mem_of_mem_take hc)
  · rcases List.mem_cons.mp hc with rfl | hc
    · exact List.mem_of_getElem? (L26_get (ix26 q j))
    · exact h c (List.mem_of_mem_drop hc)
theorem cand_inj {cs : List Nat} {r : Nat} {q : Int} {i j : Nat} (hi : i < 26) (hj : j < 26) (h : cand cs r q i = cand cs r q j) : i = j := by
  unfold cand at h
  have h1 := List.append_cancel_left h
  injection h1 with h2 _
  have e1 := L26_get (ix26 q i)
  have e2 := L26_get (ix26 q j)
  rw [h2] at e1
  have := nd_ix L26_nodup e1 e2
  have a1 := Int.emod_nonneg (q + 7 * (i : Int)) (show (26 : Int) ≠ 0 by decide)
  have a2 := Int.emod_nonneg (q + 7 * (j : Int)) (show (26 : Int) ≠ 0 by decide)
  omega
theorem cand_name {cs : List Nat} (h : ∀ c ∈ cs, c ∈ L26) (hl : cs.length ≤ 5) (r : Nat) (q : Int) (j : Nat) : isNameS ⟨(cand cs r q j).toArray⟩ = true := by
  unfold isNameS
  have hn : (⟨(cand cs r q j).toArray⟩ : Str).length = cs.length + 1 := by
    show (cand cs r q j).toArray.size = _
    rw [List.size_toArray, cand_len]
  rw [hn, Bool.and_eq_true, Bool.and_eq_true, decide_eq_true_eq, decide_eq_true_eq, List.all_eq_true]
  refine ⟨⟨by omega, by omega⟩, fun c hc => ?_⟩
  rw [decide_eq_true_eq, letters_L]
  exact cand_all h r q j c hc
theorem filter_two {α : Type} (p : α → Bool) : ∀ xs : List α, (xs.filter p).length + (xs.filter fun w => !p w).length = xs.length
  | [] => rfl
  | x :: xs => by
    have ih := filter_two p xs
    cases q : p x with
    | true =>
      rw [List.filter_cons_of_pos q, List.filter_cons_of_neg (by rw [q]; decide), List.length_cons, List.length_cons]
      omega
    | false =>
      rw [List.filter_cons_of_neg (by rw [q]; decide), List.filter_cons_of_pos (by rw [q]; rfl), List.length_cons, List.length_cons]
      omega
theorem nodup_map_on {α β : Type} {f : α → β} : ∀ {l : List α}, l.Nodup → (∀ x ∈ l, ∀ y ∈ l, f x = f y → x = y) → (l.map f).Nodup
  | [], _, _ => List.nodup_nil
  | a :: l, h, g => by
    rw [List.nodup_cons] at h
    rw [List.map_cons, List.nodup_cons]
    refine ⟨fun hm => ?_, nodup_map_on h.2 fun x hx y hy => g x (List.mem_cons_of_mem _ hx) y (List.mem_cons_of_mem _ hy)⟩
    obtain ⟨x, hx, e⟩ := List.mem_map.mp hm
    have := g x (List.mem_cons_of_mem _ hx) a List.mem_cons_self e
    subst this
    exact h.1 hx
theorem bad_len : ∀ w ∈ badW, w.length = 3 ∨ w.length = 4 ∨ w.length = 5 := by decide +kernel
theorem bad3 : ∀ w ∈ badW, w.length = 3 → w = "own" := by decide +kernel
/-- what the helper hands back -/
def named (cs : List Nat) (r : Nat) (q : Int) (n : Nat) : List Str := (((List.range (n + 2)).map fun j => (⟨(cand cs r q j).toArray⟩ : Str)).filter fun w => decide (w ∉ badW)).take n
theorem named_ok {cs : List Nat} (h : ∀ c ∈ cs, c ∈ L26) (hl : cs.length = 0 ∨ cs.length = 1 ∨ cs.length = 2 ∨ cs.length = 5) {r : Nat} {q : Int} {n : Nat} (hn : n ≤ 20) : (named cs r q n).length = n ∧ (named cs r q n).Nodup ∧ ∀ w ∈ named cs r q n, Good w := by
  have nd : ((List.range (n + 2)).map fun j => (⟨(cand cs r q j).toArray⟩ : Str)).Nodup := by
    refine nodup_map_on List.nodup_range fun i hi j hj e => ?_
    have hi := List.mem_range.mp hi
    have hj := List.mem_range.mp hj
    have e1 : (cand cs r q i).toArray = (cand cs r q j).toArray := congrArg Str.cps e
    have e2 : cand cs r q i = cand cs r q j := by simpa using congrArg Array.toList e1
    exact cand_inj (by omega) (by omega) e2
  have all : ∀ w ∈ ((List.range (n + 2)).map fun j => (⟨(cand cs r q j).toArray⟩ : Str)), isNameS w = true ∧ w.length = cs.length + 1 := fun w hw => by
    obtain ⟨j, _, rfl⟩ := List.mem_map.mp hw
    refine ⟨cand_name h (by omega) r q j, ?_⟩
    show (cand cs r q j).toArray.size = _
    rw [List.size_toArray, cand_len]
  generalize hX : ((List.range (n + 2)).map fun j => (⟨(cand cs r q j).toArray⟩ : Str)) = xs at nd all
  have hlen : xs.length = n + 2 := by rw [← hX]; simp
  have hnm : named cs r q n = (xs.filter fun w => decide (w ∉ badW)).take n := by rw [← hX]; rfl
  have hmany : n ≤ (xs.filter fun w => decide (w ∉ badW)).length := by
    have h1 := filter_two (fun w => decide (w ∉ badW)) xs
    have h2 : (xs.filter fun w => !decide (w ∉ badW)).length ≤ 1 := by
      have hsub : ∀ w ∈ xs.filter (fun w => !decide (w ∉ badW)), w = ("own" : Str) := fun w hw => by
        obtain ⟨g1, g2⟩ := List.mem_filter.mp hw
        have g3 : w ∈ badW := by simpa using g2
        have g4 := (all w g1).2
        rcases bad_len w g3 with g5 | g5 | g5
        · exact bad3 w g3 g5
        · omega
        · omega
      have hnd : (xs.filter fun w => !decide (w ∉ badW)).Nodup := nd.filter _
      generalize xs.filter (fun w => !decide (w ∉ badW)) = ys at hsub hnd
      match ys, hsub, hnd with
      | [], _, _ => exact Nat.zero_le _
      | [_], _, _ => exact Nat.le_refl _
      | a :: b :: t, hsub, hnd =>
        have e1 := hsub a List.mem_cons_self
        have e2 := hsub b (List.mem_cons_of_mem _ List.mem_cons_self)
        rw [e1, e2] at hnd
        simp at hnd
    omega
  rw [hnm]
  refine ⟨by rw [List.length_take]; omega, (nd.filter _).sublist (List.take_sublist _ _), fun w hw => ?_⟩
  obtain ⟨g1, g2⟩ := List.mem_filter.mp (List.mem_of_mem_take hw)
  exact ⟨(all w g1).1, by simpa using g2⟩
end CM
namespace CM
open PySem L2 DL TL
def sNames : MF := fun ds M k _ => ∃ b n, ds = [.ref b, .int n] ∧ M b = some .box ∧ 0 ≤ n ∧ n ≤ 20 ∧ ∀ ws : List Str, (ws.length : Int) = n → ws.Nodup → (∀ w ∈ ws, Good w) → k (.lst (ws.map D.str)) M
theorem all_signs : ∀ {ys : List D}, (∀ y ∈ ys, ∃ c ∈ L26, y = .str ⟨#[c]⟩) → ∃ cs : List Nat, (∀ c ∈ cs, c ∈ L26) ∧ ys = cs.map (fun c => D.str ⟨#[c]⟩)
  | [], _ => ⟨[], ⟨fun c h => (List.not_mem_nil h).elim, rfl⟩⟩
  | y :: ys, h => by
    obtain ⟨c, hc, rfl⟩ := h y List.mem_cons_self
    obtain ⟨cs, h1, rfl⟩ := all_signs fun z hz => h z (List.mem_cons_of_mem _ hz)
    exact ⟨c :: cs, fun z hz => by rcases List.mem_cons.mp hz with rfl | hz; exact hc; exact h1 z hz, rfl⟩
theorem tx_signs : ∀ cs : List Nat, txOf (cs.map fun c => D.str ⟨#[c]⟩) = some (cs.map fun c => (⟨#[c]⟩ : Str))
  | [] => rfl
  | c :: cs => by
    show (txOf (cs.map fun c => D.str ⟨#[c]⟩)).map (⟨#[c]⟩ :: ·) = _
    rw [tx_signs cs]
    rfl
theorem joinL_signs : ∀ cs : List Nat, joinL [] (cs.map fun c => [c]) = cs
  | [] => rfl
  | [c] => rfl
  | c :: d :: cs => by
    have := joinL_signs (d :: cs)
    show [c] ++ ([] ++ joinL [] ((d :: cs).map fun c => [c])) = _
    rw [this]
    rfl
theorem str_ext {x y : Str} (h : x.cps.toList = y.cps.toList) : x = y := by
  cases x
  cases y
  simp only [Str.mk.injEq]
  simpa using congrArg List.toArray h
theorem join_signs (cs : List Nat) : Txt.join "" (cs.map fun c => (⟨#[c]⟩ : Str)) = ⟨cs.toArray⟩ := by
  refine str_ext ?_
  rw [join_eq]
  show tl (Str.join "" (cs.map fun c => (⟨#[c]⟩ : Str))) = cs
  rw [tl_join, List.map_map]
  exact joinL_signs cs
theorem cut_lo (cs : List Nat) (r : Nat) (h : r ≤ cs.length) : cutS ⟨cs.toArray⟩ none (some (r : Int)) = ⟨(cs.take r).toArray⟩ := by
  unfold cutS
  rw [HT.sIx_nat, HT.sIx_none]
  show (⟨((cs.drop 0).take (min r cs.length - 0)).toArray⟩ : Str) = _
  rw [List.drop_zero, Nat.sub_zero, Nat.min_eq_left h]
theorem cut_hi (cs : List Nat) (r : Nat) (h : r ≤ cs.length) : cutS ⟨cs.toArray⟩ (some (r : Int)) none = ⟨(cs.drop r).toArray⟩ := by
  unfold cutS
  rw [HT.sIx_nat, HT.sIx_none]
  show (⟨((cs.drop (min r cs.length)).take (cs.length - min r cs.length)).toArray⟩ : Str) = _
  rw [Nat.min_eq_left h, ← List.length_drop, List.take_length]
theorem inF_strs (w : Str) : ∀ ws : List Str, inF (.str w) (ws.map D.str) = decide (w ∈ ws)
  | [] => by simp [inF]
  | v :: ws => by
    have ih := inF_strs w ws
    unfold inF at ih ⊢
    rw [List.map_cons, List.any_cons, ih]
    show ((v == w) || decide (w ∈ ws)) = decide (w ∈ v :: ws)
    rw [Bool.eq_iff_iff]
    simp only [Bool.or_eq_true, beq_iff_eq, decide_eq_true_eq, List.mem_cons]
    constructor
    · rintro (h | h)
      · exact .inl h.symm
      · exact .inr h
    · rintro (h | h)
      · exact .inl h.symm
      · exact .inr h
theorem cut_strs (ws : List Str) (n : Nat) : cutD (ws.map D.str) none (some (n : Int)) = (ws.take n).map D.str := by
  unfold cutD
  rw [HT.sIx_nat, HT.sIx_none, List.drop_zero, Nat.sub_zero, List.length_map, ← List.map_take]
  congr 1
  rw [List.take_eq_take_iff]
  omega
theorem filter_strs (p : D → Bool) (ws : List Str) : (ws.map D.str).filter p = (ws.filter fun w => p (.str w)).map D.str := by
  rw [List.filter_map]
  rfl
theorem intsD_mem {n : Nat} {d : D} (h : d ∈ intsD 0 n) : ∃ j : Nat, j < n ∧ d = .int (j : Int) := by
  unfold intsD at h
  obtain ⟨j, hj, rfl⟩ := List.mem_map.mp h
  exact ⟨j, List.mem_range.mp hj, by simp⟩
theorem sum_ones : ∀ cs : List Nat, (cs.map fun _ => 1).sum = cs.length
  | [] => rfl
  | c :: cs => by
    rw [List.map_cons, List.sum_cons, sum_ones cs, List.length_cons]
    omega
theorem names_ok (ds : List D) (M : Mh) (k : DK) (kx : XKd) (h : sNames ds M k kx) : b__law_names sOf sPull { nx := fun _ M' => k .non M', rt := k } (startD 9 ds) M noX := by
  obtain ⟨b, n, rfl, hb, h0, h20, hk⟩ := h
  unfold b__law_names
  refine ⟨_, rfl, ?_⟩
  -- stem
  refine ⟨_, rfl, _, rfl, by show 4 ≤ sizeLine; decide, b, _, [.int 0, .int 1, .int 2, .int 5], rfl, hb, rfl, by decide, by decide, fun x hx => ?_⟩
  obtain ⟨m, hm, rfl⟩ : ∃ m : Nat, (m = 0 ∨ m = 1 ∨ m = 2 ∨ m = 5) ∧ x = .int (m : Int) := by
    simp only [List.mem_cons, List.not_mem_nil, or_false] at hx
    rcases hx with rfl | rfl | rfl | rfl
    · exact ⟨0, .inl rfl, rfl⟩
    · exact ⟨1, .inr (.inl rfl), rfl⟩
    · exact ⟨2, .inr (.inr (.inl rfl)), rfl⟩
    · exact ⟨5, .inr (.inr (.inr rfl)), rfl⟩
  have hli : (intsD 0 (m : Int).toNat).length = m := by unfold intsD; simp
  refine ⟨m, rfl, by omega, by omega, by rw [hli]; exact sz_le (by omega), ?_⟩
  refine lc_wp (fun _ y => ∃ c ∈ L26, y = .str ⟨#[c]⟩) trivial (fun d _ => ⟨_, rfl, fun k' hk' => ⟨_, rfl, _, rfl, b, _, signs letters, rfl, hb, rfl, ?_, ?_, fun y hy => hk' y ?_⟩⟩) fun ys hl hp => ?_
  · unfold signs; rw [List.length_map, letters_L]; decide
  · unfold signs; rw [List.length_map, letters_L]; decide
  · unfold signs at hy
    obtain ⟨c, hc, rfl⟩ := List.mem_map.mp hy
    rw [letters_L] at hc
    exact ⟨c, hc, rfl⟩
  rw [hli] at hl
  obtain ⟨cs, hcs, rfl⟩ := all_signs (ys := ys) fun y hy => by
    obtain ⟨i, hi, e⟩ := List.mem_iff_getElem.mp hy
    have hi2 : i < (intsD 0 (m : Int).toNat).length := by rw [hli, ← hl]; exact hi
    exact hp i _ y (List.getElem?_eq_getElem hi2) (by rw [List.getElem?_eq_getElem hi, e])
  rw [List.length_map] at hl
  refine ⟨_, _, rfl, tx_signs cs, ?_, ?_⟩
  · rw [List.map_map, List.length_map]
    have e : cs.map ((fun s : Str => s.length) ∘ fun c => (⟨#[c]⟩ : Str)) = cs.map fun _ => 1 := rfl
    have z : ("" : Str).length = 0 := by decide +kernel
    rw [e, z]
    rw [sum_ones]
    omega
  rw [join_signs]
  refine ⟨_, rfl, ?_⟩
  -- spot, first
  have hsl : (⟨cs.toArray⟩ : Str).length = cs.length := by show cs.toArray.size = _; simp
  refine ⟨_, rfl, _, rfl, _, rfl, by rw [hsl]; exact sz_le (by omega), ?_⟩
  refine ⟨b, _, rfl, hb, by rw [hsl]; omega, by rw [hsl]; omega, fun r h1 h2 => ?_⟩
  rw [hsl] at h2
  refine ⟨_, rfl, b, 26, rfl, hb, by decide, by decide, fun q h3 h4 => ?_⟩
  refine ⟨by show 2 ≤ sizeLine; decide, _, rfl, ?_⟩
  obtain ⟨rn, rfl⟩ : ∃ rn : Nat, r = (rn : Int) := ⟨r.toNat, by omega⟩
  have hr : rn ≤ cs.length := by omega
  -- found
  obtain ⟨nn, rfl⟩ : ∃ nn : Nat, n = (nn : Int) := ⟨n.toNat, by omega⟩
  have hl2 : (intsD 0 ((nn : Int) + 2).toNat).length = nn + 2 := by unfold intsD; simp; omega
  refine ⟨_, rfl, _, rfl, by omega, by omega, by rw [hl2]; exact sz_le (by omega), ?_⟩
  refine lc_map (fun d => match d with | .int j => .str ⟨(cand cs rn q j.toNat).toArray⟩ | _ => .non) trivial (fun d hd => ?_) ?_
  · obtain ⟨j, hj, rfl⟩ := intsD_mem hd
    refine ⟨_, rfl, fun k' hk' => ?_⟩
    have hx := ix26 q j
    have hx0 := Int.emod_nonneg (q + 7 * (j : Int)) (show (26 : Int) ≠ 0 by decide)
    refine ⟨_, rfl, _, rfl, rn, rfl, by rw [hsl]; exact sz_le (by omega), ?_⟩
    refine ⟨_, rfl, _, rfl, _, rfl, .inl ⟨by decide, by decide⟩, _, rfl, _, 26, rfl, rfl, (by show (0 : Int) < 26; decide), (q + 7 * (j : Int)) % 26, L26.getD ((q + 7 * (j : Int)) % 26).toNat 0, rfl, ?_, ?_, ?_⟩
    · exact sz_le (by decide +kernel)
    · rw [show ("abcdefghijklmnopqrstuvwxyz" : Str) = letters from rfl, letters_L]
      have e := L26_get hx
      generalize ((q + 7 * (j : Int)) % 26) = z at hx hx0 e ⊢
      rw [show z = ((z.toNat : Nat) : Int) by omega]
      exact atI_nat e
    · have e1 : cutS ⟨cs.toArray⟩ none (some (rn : Int)) = ⟨(cs.take rn).toArray⟩ := cut_lo cs rn hr
      have e2 : cutS ⟨cs.toArray⟩ (some (rn : Int)) none = ⟨(cs.drop rn).toArray⟩ := cut_hi cs rn hr
      rw [e1]
      have l1 : (⟨(cs.take rn).toArray⟩ : Str).length ≤ 5 := by show (cs.take rn).toArray.size ≤ 5; simp; omega
      have l2 : (⟨(cs.drop rn).toArray⟩ : Str).length ≤ 5 := by show (cs.drop rn).toArray.size ≤ 5; simp; omega
      refine ⟨sz_le ?_, _, rfl, _, rfl, rn, rfl, by rw [hsl]; exact sz_le (by omega), ?_⟩
      · show _ + 1 ≤ 1000000
        omega
      · rw [e2]
        have l3 : ((⟨(cs.take rn).toArray⟩ : Str) ++ (⟨#[L26.getD ((q + 7 * (j : Int)) % 26).toNat 0]⟩ : Str)).length ≤ 6 := by
          show ((cs.take rn).toArray ++ #[L26.getD ((q + 7 * (j : Int)) % 26).toNat 0]).size ≤ 6
          rw [Array.size_append]
          show (cs.take rn).toArray.size + 1 ≤ 6
          have : (cs.take rn).toArray.size ≤ 5 := l1
          omega
        refine ⟨sz_le (by omega), ?_⟩
        have e3 : (⟨(cs.take rn).toArray⟩ : Str) ++ (⟨#[L26.getD ((q + 7 * (j : Int)) % 26).toNat 0]⟩ : Str) ++ (⟨(cs.drop rn).toArray⟩ : Str) = ⟨(cand cs rn q j).toArray⟩ := by
          refine str_ext ?_
          show tl (_ ++ _ ++ _) = _
          rw [tl_append, tl_append]
          show cs.take rn ++ [L26.getD ((q + 7 * (j : Int)) % 26).toNat 0] ++ cs.drop rn = cand cs rn q j
          unfold cand
          simp
        rw [e3]
        exact hk'
  · have e4 : (intsD 0 ((nn : Int) + 2).toNat).map (fun d => match d with | .int j => D.str ⟨(cand cs rn q j.toNat).toArray⟩ | _ => .non) = ((List.range (nn + 2)).map fun j => (⟨(cand cs rn q j).toArray⟩ : Str)).map D.str := by
      unfold intsD
      rw [List.map_map, List.map_map, show ((nn : Int) + 2).toNat = nn + 2 by omega]
      refine List.map_congr_left fun j _ => ?_
      show D.str ⟨(cand cs rn q ((0 : Int) + (j : Int)).toNat).toArray⟩ = _
      rw [Int.zero_add, Int.toNat_natCast]
      rfl
    rw [List.nil_append, e4]
    refine ⟨_, rfl, ?_⟩
    have hln : (((List.range (nn + 2)).map fun j => (⟨(cand cs rn q j).toArray⟩ : Str)).map D.str).length = nn + 2 := by simp
    refine ⟨_, rfl, by rw [hln]; exact sz_le (by omega), ?_⟩
    refine lc_filter (fun d => !inF d (badW.map D.str)) (fun d => d) trivial (fun d hd => ?_) ?_
    · obtain ⟨w, _, rfl⟩ := List.mem_map.mp hd
      refine ⟨_, rfl, fun k' hk' => ?_, fun k' hk' => ⟨_, rfl, hk'⟩⟩
      exact ⟨_, rfl, by show 4 ≤ sizeLine; decide, badW.map D.str, rfl, rfl, rfl, _, rfl, hk'⟩
    · rw [List.nil_append, List.map_id', filter_strs]
      refine ⟨_, rfl, nn, rfl, _, rfl, ?_⟩
      rw [cut_strs]
      have e5 : (((List.range (nn + 2)).map fun j => (⟨(cand cs rn q j).toArray⟩ : Str)).filter fun w => !inF (.str w) (badW.map D.str)).take nn = named cs rn q nn := by
        unfold named
        congr 1
        refine List.filter_congr fun w _ => ?_
        rw [inF_strs]
        simp
      rw [e5]
      obtain ⟨w1, w2, w3⟩ := named_ok hcs (by omega) (r := rn) (q := q) (n := nn) (by omega)
      exact hk _ (by omega) w2 w3
end CM
namespace CM
open PySem L2 DL TL
/-! ### names of columns -/
def splitD (z : Str) : List Str := (spl [46] 0 [] (tl z)).map fun l => ⟨l.toArray⟩
theorem split_dot (z : Str) : Txt.split z "." = splitD z := by
  refine map_tl_inj ?_
  rw [split_spl z "." (by decide +kernel) (kind_ok (by decide +kernel))]
  unfold splitD
  rw [List.map_map]
  have e : tl "." = [46] := by decide +kernel
  rw [e]
  exact (List.map_id _).symm
theorem spl_no {l : List Nat} (h : 46 ∉ l) : ∀ acc : List Nat, spl [46] 0 acc l = [acc ++ l] := by
  induction l with
  | nil => intro acc; rw [spl_nil, List.append_nil]
  | cons c r ih =>
    intro acc
    rw [spl_miss (pre_of_head _ _ fun e => h (by rw [e]; exact List.mem_cons_self)), ih fun g => h (List.mem_cons_of_mem _ g), List.append_assoc]
    rfl
theorem spl_one {l r : List Nat} (h : 46 ∉ l) : ∀ acc : List Nat, spl [46] 0 acc (l ++ 46 :: r) = (acc ++ l) :: spl [46] 0 [] r := by
  induction l with
  | nil =>
    intro acc
    have e : spl [46] 0 acc (46 :: r) = acc :: spl [46] 0 [] r := spl_hit (pre_self [46] r)
    rw [List.nil_append, e, List.append_nil]
  | cons c l ih =>
    intro acc
    rw [List.cons_append, spl_miss (pre_of_head _ _ fun e => h (by rw [e]; exact List.mem_cons_self)), ih fun g => h (List.mem_cons_of_mem _ g), List.append_assoc]
    rfl
theorem spl_len : ∀ (l acc : List Nat), ∀ p ∈ spl [46] 0 acc l, p.length ≤ acc.length + l.length
  | [], acc, p, h => by
    rw [spl_nil] at h
    rw [List.mem_singleton.mp h]
    exact Nat.le_refl _
  | c :: r, acc, p, h => by
    cases q : pre [46] (c :: r) with
    | true =>
      rw [spl_hit q] at h
      rcases List.mem_cons.mp h with rfl | h
      · exact Nat.le_add_right _ _
      · have := spl_len r [] p h
        rw [List.length_nil] at this
        rw [List.length_cons]
        omega
    | false =>
      rw [spl_miss q] at h
      have := spl_len r (acc ++ [c]) p h
      rw [List.length_append, List.length_cons, List.length_nil] at this
      rw [List.length_cons]
      omega
theorem spl_many : ∀ (l acc : List Nat), (spl [46] 0 acc l).length ≤ 1 + l.length
  | [], acc => by rw [spl_nil]; exact Nat.le_refl _
  | c :: r, acc => by
    cases q : pre [46] (c :: r) with
    | true =>
      have e : spl [46] 0 acc (c :: r) = acc :: spl [46] 0 [] r := spl_hit q
      rw [e, List.length_cons, List.length_cons]
      have := spl_many r []
      omega
    | false =>
      rw [spl_miss q, List.length_cons]
      have := spl_many r (acc ++ [c])
      omega
def isColS (z : Str) : Bool := decide ((splitD z).length ≤ 2) && (splitD z).all isNameS
def isCol : D → Bool
  | .str z => isColS z
  | _ => false
theorem name_dot {w : Str} (h : isNameS w = true) : 46 ∉ tl w := fun hm => by
  unfold isNameS at h
  rw [Bool.and_eq_true, List.all_eq_true] at h
  have := h.2 46 hm
  rw [decide_eq_true_eq, letters_L] at this
  exact absurd this (by decide)
theorem col_name {w : Str} (h : isNameS w = true) : isColS w = true := by
  have e : splitD w = [w] := by
    unfold splitD
    rw [spl_no (name_dot h), List.nil_append]
    exact congrArg (fun x => [x]) (mk_tl w)
  unfold isColS
  rw [e, List.all_cons, h]
  rfl
theorem col_two {v w : Str} (hv : isNameS v = true) (hw : isNameS w = true) : isColS (v ++ "." ++ w) = true := by
  have e : splitD (v ++ "." ++ w) = [v, w] := by
    unfold splitD
    have e1 : tl "." = [46] := by decide +kernel
    rw [tl_append, tl_append, e1, List.append_assoc]
    show (spl [46] 0 [] (tl v ++ 46 :: tl w)).map _ = _
    rw [spl_one (name_dot hv), spl_no (name_dot hw), List.nil_append, List.nil_append, List.map_cons, List.map_cons, List.map_nil, mk_tl, mk_tl]
  unfold isColS
  rw [e, List.all_cons, List.all_cons, hv, hw]
  rfl
def sIsColName : MF := fun ds M k _ => ∃ d, ds = [d] ∧ tyN M d ∈ tys ∧ (∀ z, d = .str z → z.length ≤ 1000) ∧ k (.bl (isCol d)) M
/-! ### tests -/
def partsT : TabD := [("is", .int 3), ("has", .int 2), ("not", .int 2), ("and", .int 3), ("or", .int 3)]
def partsI (z : Str) : Int := if z = "is" then 3 else if z = "has" then 2 else if z = "not" then 2 else if z = "and" then 3 else if z = "or" then 3 else 0
theorem parts_get (z : Str) : (partsT.lookup z).getD (.int 0) = .int (partsI z) := by
  unfold partsT partsI
  simp only [List.lookup_cons, List.lookup_nil]
  have key : ∀ (y : Str) (n : Int) (o : Option D) (j : Int), o.getD (.int 0) = .int j → (match z == y with | true => some (D.int n) | false => o).getD (.int 0) = D.int (if z = y then n else j) := fun y n o j h => by
    by_cases e : z = y
    · rw [beq_iff_eq.mpr e, if_pos e]
      rfl
    · rw [beq_eq_false_iff_ne.mpr e, if_neg e]
      exact h
  exact key _ _ _ _ (key _ _ _ _ (key _ _ _ _ (key _ _ _ _ (key _ _ none 0 rfl))))
/-- value is a test of at most so many levels -/
def isT : Nat → D → Bool
  | n + 1, .tup (.str h :: ds) => decide (partsI h = ((.str h :: ds : List D).length : Int)) && if h = "is" then isCol (ds.getD 0 .non) && isName (ds.getD 1 .non) else if h = "has" then isName (ds.getD 0 .non) else ds.all (isT n)
  | _, _ => false
mutual
/-- plain data with short texts -/
def okD : Nat → D → Bool
  | 0, _ => false
  | _ + 1, .non => true
  | _ + 1, .bl _ => true
  | _ + 1, .int _ => true
  | _ + 1, .str z => decide (z.length ≤ 1000)
  | n + 1, .tup ds => decide (ds.length ≤ 1000) && okAll n ds
  | n + 1, .lst ds => decide (ds.length ≤ 1000) && okAll n ds
  | _ + 1, _ => false
def okAll : Nat → List D → Bool
  | _, [] => true
  | n, d :: ds => okD n d && okAll n ds
end
theorem okAll_mem {n : Nat} : ∀ {ds : List D}, okAll n ds = true → ∀ d ∈ ds, okD n d = true
  | [], _, d, h => by cases h
  | e :: es, h, d, hd => by
    rw [okAll, Bool.and_eq_true] at h
    rcases List.mem_cons.mp hd with rfl | hd
    · exact h.1
    · exact okAll_mem h.2 d hd
theorem ok_ty {n : Nat} {d : D} (M : Mh) (h : okD n d = true) : tyN M d ∈ tys := by
  cases n with
  | zero => rw [okD] at h; cases h
  | succ n =>
    cases d with
    | non => show "NoneType" ∈ tys; decide
    | bl _ => show "bool" ∈ tys; decide
    | int _ => show "int" ∈ tys; decide
    | str _ => show "str" ∈ tys; decide
    | tup _ => show "tuple" ∈ tys; decide
    | lst _ => show "list" ∈ tys; decide
    | ref a => simp [okD] at h
    | ty _ => simp [okD] at h
    | scr _ => simp [okD] at h
    | exc _ _ _ _ => simp [okD] at h
theorem ok_str {n : Nat} {d : D} (h : okD n d = true) : ∀ z, d = .str z → z.length ≤ 1000 := fun z e => by
  subst e
  cases n with
  | zero => rw [okD] at h; cases h
  | succ n => rw [okD] at h; simpa using h
mutual
theorem okD_up : ∀ (n : Nat) (d : D), okD n d = true → okD (n + 1) d = true
  | 0, _, h => by rw [okD] at h; cases h
  | n + 1, .non, _ => by rw [okD]
  | n + 1, .bl _, _ => by rw [okD]
  | n + 1, .int _, _ => by rw [okD]
  | n + 1, .str z, h => by rw [okD] at h ⊢; exact h
  | n + 1, .tup ds, h => by
    rw [okD, Bool.and_eq_true] at h ⊢
    exact ⟨h.1, okAll_up n ds h.2⟩
  | n + 1, .lst ds, h => by
    rw [okD, Bool.and_eq_true] at h ⊢
    exact ⟨h.1, okAll_up n ds h.2⟩
  | n + 1, .ref _, h => by simp [okD] at h
  | n + 1, .ty _, h => by simp [okD] at h
  | n + 1, .scr _, h => by simp [okD] at h
  | n + 1, .exc _ _ _ _, h => by simp [okD] at h
theorem okAll_up : ∀ (n : Nat) (ds : List D), okAll n ds = true → okAll (n + 1) ds = true
  | _, [], _ => by rw [okAll]
  | n, d :: ds, h => by
    rw [okAll, Bool.and_eq_true] at h ⊢
    exact ⟨okD_up n d h.1, okAll_up n ds h.2⟩
end
theorem okD_le {n m : Nat} (hm : n ≤ m) {d : D} (h : okD n d = true) : okD m d = true := by
  induction hm with
  | refl => exact h
  | step _ ih => exact okD_up _ _ ih
def sIsTest (n : Nat) : MF := fun ds M k _ => ∃ (d : D) (m j : Nat), ds = [d, .int (m : Int)] ∧ m < n ∧ okD j d = true ∧ k (.bl (isT m d)) M
/-- a test that is drawn, of just so many levels -/
inductive FT : Nat → D → Prop
  | is {c w : Str} : isColS c = true → c.length ≤ 1000 → isNameS w = true → FT 1 (.tup [.str "is", .str c, .str w])
  | has {w : Str} : isNameS w = true → FT 1 (.tup [.str "has", .str w])
  | not {n : Nat} {d : D} : FT n d → FT (n + 1) (.tup [.str "not", d])
  | two {n m : Nat} {h : Str} {d e : D} : h = "and" ∨ h = "or" → FT n d → FT m e → m ≤ n → FT (n + 1) (.tup [.str h, d, e])
  | owt {n m : Nat} {h : Str} {d e : D} : h = "and" ∨ h = "or" → FT n d → FT m e → m ≤ n → FT (n + 1) (.tup [.str h, e, d])
theorem FT.pos {n : Nat} {d : D} (h : FT n d) : 1 ≤ n := by cases h <;> omega
theorem isNameS_len {w : Str} (h : isNameS w = true) : 1 ≤ w.length ∧ w.length ≤ 6 := by
  unfold isNameS at h
  rw [Bool.and_eq_true, Bool.and_eq_true, decide_eq_true_eq, decide_eq_true_eq] at h
  exact h.1
theorem is_not {m : Nat} {d : D} : isT (m + 1) (.tup [.str "not", d]) = isT m d := by
  show (true && (isT m d && true)) = _
  rw [Bool.true_and, Bool.and_true]
theorem is_two {m : Nat} {h : Str} (hh : h = "and" ∨ h = "or") {d e : D} : isT (m + 1) (.tup [.str h, d, e]) = (isT m d && isT m e) := by
  rcases hh with rfl | rfl
  · show (true && (isT m d && (isT m e && true))) = _
    rw [Bool.true_and, Bool.and_true]
  · show (true && (isT m d && (isT m e && true))) = _
    rw [Bool.true_and, Bool.and_true]
theorem is_is {m : Nat} {c w : D} : isT (m + 1) (.tup [.str "is", c, w]) = (isCol c && isName w) := by
  show (true && (isCol c && isName w)) = _
  rw [Bool.true_and]
theorem is_has {m : Nat} {w : D} : isT (m + 1) (.tup [.str "has", w]) = isName w := by
  show (true && isName w) = _
  rw [Bool.true_and]
theorem FT.isT {n : Nat} {d : D} (h : FT n d) : ∀ m, CM.isT m d = decide (n ≤ m) := by
  have pos := h.pos
  intro m
  cases m with
  | zero => rw [decide_eq_false (by omega)]; cases h <;> rfl
  | succ m =>
    induction h generalizing m with
    | is h1 _ h2 =>
      rw [is_is]
      show (isColS _ && isNameS _) = _
      rw [h1, h2, decide_eq_true (by omega)]
      rfl
    | has h1 =>
      rw [is_has]
      show isNameS _ = _
      rw [h1, decide_eq_true (by omega)]
    | @not n d h ih =>
      rw [is_not]
      cases m with
      | zero =>
        have := h.pos
        rw [decide_eq_false (by omega)]
        cases h <;> rfl
      | succ m =>
        rw [ih h.pos]
        exact decide_eq_decide.mpr (by omega)
    | @two n m' hd d e hh h1 h2 hl ih1 ih2 =>
      rw [is_two hh]
      cases m with
      | zero =>
        have := h1.pos
        rw [decide_eq_false (by omega)]
        cases h1 <;> rfl
      | succ m =>
        rw [ih1 h1.pos, ih2 h2.pos]
        by_cases g : n ≤ m + 1
        · rw [decide_eq_true g, decide_eq_true (by omega), decide_eq_true (by omega)]; rfl
        · rw [decide_eq_false g, decide_eq_false (show ¬ n + 1 ≤ m + 1 + 1 by omega)]; rfl
    | @owt n m' hd d e hh h1 h2 hl ih1 ih2 =>
      rw [is_two hh]
      cases m with
      | zero =>
        have := h1.pos
        rw [decide_eq_false (by omega)]
        cases h2 <;> rfl
      | succ m =>
        rw [ih1 h1.pos, ih2 h2.pos]
        by_cases g : n ≤ m + 1
        · rw [decide_eq_true g, decide_eq_true (show m' ≤ m + 1 by omega), decide_eq_true (by omega)]; rfl
        · rw [decide_eq_false g, decide_eq_false (show ¬ n + 1 ≤ m + 1 + 1 by omega), Bool.and_false]
theorem len_and : ("and" : Str).length = 3 := by decide +kernel
theorem len_or : ("or" : Str).length = 2 := by decide +kernel
theorem hd_len {h : Str} (hh : h = "and" ∨ h = "or") : decide (h.length ≤ 1000) = true := by
  rcases hh with rfl | rfl
  · rw [len_and]; rfl
  · rw [len_or]; rfl
theorem l_is : decide (("is" : Str).length ≤ 1000) = true := by decide +kernel
theorem l_has : decide (("has" : Str).length ≤ 1000) = true := by decide +kernel
theorem l_not : decide (("not" : Str).length ≤ 1000) = true := by decide +kernel
theorem FT.ok {n : Nat} {d : D} (h : FT n d) : okD (n + 1) d = true := by
  induction h with
  | is _ h1 h2 =>
    have := isNameS_len h2
    simp only [okD, okAll, List.length_cons, List.length_nil]
    rw [decide_eq_true h1, l_is, decide_eq_true (show (_ : Str).length ≤ 1000 from Nat.le_trans this.2 (by decide))]
    rfl
  | has h2 =>
    have := isNameS_len h2
    simp only [okD, okAll, List.length_cons, List.length_nil]
    rw [l_has, decide_eq_true (show (_ : Str).length ≤ 1000 from Nat.le_trans this.2 (by decide))]
    rfl
  | not h ih =>
    simp only [okD, okAll, List.length_cons, List.length_nil, ih, l_not]
    rfl
  | two hh h1 h2 hl ih1 ih2 =>
    have := okD_le (show _ ≤ _ by exact Nat.succ_le_succ hl) ih2
    simp only [okD, okAll, List.length_cons, List.length_nil, ih1, this]
    rw [hd_len hh]
    rfl
  | owt hh h1 h2 hl ih1 ih2 =>
    have := okD_le (show _ ≤ _ by exact Nat.succ_le_succ hl) ih2
    simp only [okD, okAll, List.length_cons, List.length_nil, ih1, this]
    rw [hd_len hh]
    rfl
/-- five names -/
def Five (d : D) (w0 w1 w2 w3 w4 : Str) : Prop := d = .lst [.str w0, .str w1, .str w2, .str w3, .str w4] ∧ isNameS w0 = true ∧ isNameS w1 = true ∧ isNameS w2 = true ∧ isNameS w3 = true ∧ isNameS w4 = true
def sFree (n : Nat) : MF := fun ds M k _ => ∃ b d w0 w1 w2 w3 w4, ∃ m : Nat, ds = [.ref b, d, .int (m : Int)] ∧ M b = some .box ∧ Five d w0 w1 w2 w3 w4 ∧ 1 ≤ m ∧ m ≤ n ∧ ∀ t, FT m t → k t M
/-- what is no test -/
def NT (d : D) : Prop := (∀ m, isT m d = false) ∧ ∃ j, okD j d = true
def sBent (n : Nat) : MF := fun ds M k _ => ∃ b t ws, ∃ m : Nat, ds = [.ref b, t, ws] ∧ M b = some .box ∧ FT m t ∧ m ≤ n ∧ ∀ d, NT d → k d M
end CM
namespace CM
open PySem L2 DL TL
/-! ### tests that are drawn, over five names -/
inductive GT (w0 w1 w2 w3 w4 : Str) : Nat → D → Prop
  | is {c : Str} : c = w0 ∨ c = w1 ∨ c = w2 ++ "." ++ w0 → GT w0 w1 w2 w3 w4 1 (.tup [.str "is", .str c, .str w3])
  | has : GT w0 w1 w2 w3 w4 1 (.tup [.str "has", .str w4])
  | not {n : Nat} {d : D} : GT w0 w1 w2 w3 w4 n d → GT w0 w1 w2 w3 w4 (n + 1) (.tup [.str "not", d])
  | two {n m : Nat} {h : Str} {d e : D} : h = "and" ∨ h = "or" → GT w0 w1 w2 w3 w4 n d → GT w0 w1 w2 w3 w4 m e → m ≤ n → GT w0 w1 w2 w3 w4 (n + 1) (.tup [.str h, d, e])
  | owt {n m : Nat} {h : Str} {d e : D} : h = "and" ∨ h = "or" → GT w0 w1 w2 w3 w4 n d → GT w0 w1 w2 w3 w4 m e → m ≤ n → GT w0 w1 w2 w3 w4 (n + 1) (.tup [.str h, e, d])
theorem GT.pos {w0 w1 w2 w3 w4 : Str} {n : Nat} {d : D} (h : GT w0 w1 w2 w3 w4 n d) : 1 ≤ n := by cases h <;> omega
theorem dot1 : ("." : Str).length = 1 := by decide +kernel
theorem col_len {w0 w2 : Str} : (w2 ++ "." ++ w0).length = w2.length + 1 + w0.length := by
  rw [len_tl, tl_append, tl_append, List.length_append, List.length_append, ← len_tl, ← len_tl, ← len_tl, dot1]
theorem GT.ft {w0 w1 w2 w3 w4 : Str} {n : Nat} {d : D} (g0 : isNameS w0 = true) (g1 : isNameS w1 = true) (g2 : isNameS w2 = true) (g3 : isNameS w3 = true) (g4 : isNameS w4 = true) (h : GT w0 w1 w2 w3 w4 n d) : FT n d := by
  have l0 := isNameS_len g0
  have l1 := isNameS_len g1
  have l2 := isNameS_len g2
  induction h with
  | is hc =>
    rcases hc with rfl | rfl | rfl
    · exact .is (col_name g0) (by omega) g3
    · exact .is (col_name g1) (by omega) g3
    · exact .is (col_two g2 g0) (by rw [col_len]; omega) g3
  | has => exact .has g4
  | not _ ih => exact .not ih
  | two hh _ _ hl ih1 ih2 => exact .two hh ih1 ih2 hl
  | owt hh _ _ hl ih1 ih2 => exact .owt hh ih1 ih2 hl
def sGrow (n : Nat) : MF := fun ds M k _ => ∃ b d w0 w1 w2 w3 w4, ∃ m : Nat, ds = [.ref b, d, .int (m : Int)] ∧ M b = some .box ∧ Five d w0 w1 w2 w3 w4 ∧ 1 ≤ m ∧ m ≤ n ∧ ∀ t, GT w0 w1 w2 w3 w4 m t → k t M
def b__law_free_test (s : MF) : MS := (mSeq (mIfS (mTest (mOp dEq (mVar 2) (mC (.int 1)))) (mSeq (mAsg (mCall sOf (mCons (mVar 0) (mCons (mLst (mCons (mOp dIx (mVar 1) (mC (.int 0))) (mCons (mOp dIx (mVar 1) (mC (.int 1))) (mCons (mOp dAdd (mOp dAdd (mOp dIx (mVar 1) (mC (.int 2))) (mC (.str "."))) (mOp dIx (mVar 1) (mC (.int 0)))) mNil)))) mNil))) (.nm 3)) (mRet (mIf (mTest (mOp dGt (mCall sPull (mCons (mVar 0) (mCons (mC (.int 3)) mNil))) (mC (.int 0)))) (mTup (mCons (mC (.str "is")) (mCons (mVar 3) (mCons (mOp dIx (mVar 1) (mC (.int 3))) mNil)))) (mTup (mCons (mC (.str "has")) (mCons (mOp dIx (mVar 1) (mC (.int 4))) mNil)))))) mNext) (mSeq (mPar 4 5 (mCons (mCall sPull (mCons (mVar 0) (mCons (mC (.int 3)) mNil))) (mCons (mCall s (mCons (mVar 0) (mCons (mVar 1) (mCons (mOp dSub (mVar 2) (mC (.int 1))) mNil)))) mNil))) (mSeq (mIfS (mTest (mOp dEq (mVar 4) (mC (.int 0)))) (mRet (mTup (mCons (mC (.str "not")) (mCons (mVar 5) mNil)))) mNext) (mSeq (mAsg (mCall s (mCons (mVar 0) (mCons (mVar 1) (mCons (mOp dAdd (mC (.int 1)) (mCall sPull (mCons (mVar 0) (mCons (mCB cMin (mCons (mOp dSub (mVar 2) (mC (.int 1))) (mCons (mC (.int 2)) mNil))) mNil)))) mNil)))) (.nm 6)) (mRet (mIf (mTest (mOp dEq (mCall sPull (mCons (mVar 0) (mCons (mC (.int 2)) mNil))) (mC (.int 0)))) (mTup (mCons (mOp dIx (mLst (mCons (mC (.str "and")) (mCons (mC (.str "or")) mNil))) (mOp dSub (mVar 4) (mC (.int 1)))) (mCons (mVar 5) (mCons (mVar 6) mNil)))) (mTup (mCons (mOp dIx (mLst (mCons (mC (.str "and")) (mCons (mC (.str "or")) mNil))) (mOp dSub (mVar 4) (mC (.int 1)))) (mCons (mVar 6) (mCons (mVar 5) mNil))))))))))
theorem grow_ok (n : Nat) (ds : List D) (M : Mh) (k : DK) (kx : XKd) (h : sGrow (n + 1) ds M k kx) : b__law_free_test (sGrow n) { nx := fun _ M' => k .non M', rt := k } (startD 7 ds) M noX := by
  obtain ⟨b, d, w0, w1, w2, w3, w4, m, rfl, hb, ⟨rfl, g0, g1, g2, g3, g4⟩, h1, hn, hk⟩ := h
  have l0 := isNameS_len g0
  have l1 := isNameS_len g1
  have l2 := isNameS_len g2
  have dl : ("." : Str).length = 1 := by decide +kernel
  have l3 : (w2 ++ ".").length = w2.length + 1 := by rw [len_tl, tl_append, List.length_append, ← len_tl, ← len_tl, dl]
  have l4 : (w2 ++ "." ++ w0).length = w2.length + 1 + w0.length := by rw [len_tl, tl_append, List.length_append, ← len_tl, ← len_tl, l3]
  unfold b__law_free_test
  refine ⟨_, rfl, _, rfl, ?_⟩
  by_cases hm : m = 1
  · subst hm
    refine ⟨_, rfl, _, rfl, 0, _, _, rfl, rfl, rfl, _, rfl, 1, _, _, rfl, rfl, rfl, _, rfl, 2, _, _, rfl, rfl, rfl, sz_le (by omega), _, rfl, 0, _, _, rfl, rfl, rfl, sz_le (by omega), sz_le (by show 3 ≤ 1000000; decide), ?_⟩
    refine ⟨b, _, _, rfl, hb, rfl, by show 0 < 3; decide, by show 3 ≤ 1000000; decide, fun x hx => ⟨_, rfl, ?_⟩⟩
    obtain ⟨c, rfl, c1⟩ : ∃ c : Str, x = .str c ∧ (c = w0 ∨ c = w1 ∨ c = w2 ++ "." ++ w0) := by
      simp only [List.mem_cons, List.not_mem_nil, or_false] at hx
      rcases hx with rfl | rfl | rfl
      · exact ⟨_, rfl, .inl rfl⟩
      · exact ⟨_, rfl, .inr (.inl rfl)⟩
      · exact ⟨_, rfl, .inr (.inr rfl)⟩
    refine ⟨_, rfl, b, 3, rfl, hb, by decide, by decide, fun r r1 r2 => ⟨_, _, rfl, rfl, trivial, _, rfl, ?_⟩⟩
    by_cases hr : 0 < r
    · rw [decide_eq_true hr]
      exact ⟨_, rfl, _, rfl, 3, _, _, rfl, rfl, rfl, sz_le (by show 3 ≤ 1000000; decide), hk _ (.is c1)⟩
    · rw [decide_eq_false hr]
      exact ⟨_, rfl, 4, _, _, rfl, rfl, rfl, sz_le (by show 2 ≤ 1000000; decide), hk _ .has⟩
  · obtain ⟨m, rfl⟩ : ∃ m' : Nat, m = m' + 1 := ⟨m - 1, by omega⟩
    rw [show (if false = true then !decide (((m + 1 : Nat) : Int) = 1) else decide (((m + 1 : Nat) : Int) = 1)) = false from decide_eq_false (by omega)]
    have five : Five (.lst [.str w0, .str w1, .str w2, .str w3, .str w4]) w0 w1 w2 w3 w4 := ⟨rfl, g0, g1, g2, g3, g4⟩
    have em : ((m + 1 : Nat) : Int) - 1 = (m : Int) := by omega
    refine ⟨_, rfl, b, 3, rfl, hb, by decide, by decide, fun way q1 q2 => ?_⟩
    refine ⟨_, rfl, _, rfl, _, rfl, _, _, rfl, rfl, trivial, b, _, w0, w1, w2, w3, w4, m, by show [D.ref b, _, D.int (((m + 1 : Nat) : Int) - 1)] = _; rw [em], hb, five, by omega, by omega, fun part hp => ⟨_, _, rfl, ?_⟩⟩
    refine ⟨_, rfl, _, rfl, ?_⟩
    by_cases hw : way = 0
    · subst hw
      exact ⟨_, rfl, sz_le (by show 2 ≤ 1000000; decide), hk _ (.not hp)⟩
    · rw [show (if false = true then !decide (way = 0) else decide (way = 0)) = false from decide_eq_false hw]
      refine ⟨_, rfl, _, rfl, _, rfl, _, rfl, _, _, rfl, rfl, trivial, _, _, rfl, ?_⟩
      have hmin : 0 < (if (2 : Int) < ((m + 1 : Nat) : Int) - 1 then 2 else ((m + 1 : Nat) : Int) - 1) ∧ (if (2 : Int) < ((m + 1 : Nat) : Int) - 1 then 2 else ((m + 1 : Nat) : Int) - 1) ≤ m ∧ (if (2 : Int) < ((m + 1 : Nat) : Int) - 1 then 2 else ((m + 1 : Nat) : Int) - 1) ≤ 2 := by
        split <;> omega
      dsimp only
      generalize (if (2 : Int) < ((m + 1 : Nat) : Int) - 1 then 2 else ((m + 1 : Nat) : Int) - 1) = mn at hmin
      refine ⟨b, mn, rfl, hb, by omega, by omega, fun r r1 r2 => ?_⟩
      obtain ⟨rn, rfl⟩ : ∃ rn : Nat, r = (rn : Int) := ⟨r.toNat, by omega⟩
      refine ⟨b, _, w0, w1, w2, w3, w4, rn + 1, by show [D.ref b, _, D.int (1 + (rn : Int))] = _; rw [show 1 + (rn : Int) = ((rn + 1 : Nat) : Int) by omega], hb, five, by omega, by omega, fun other ho => ⟨_, rfl, ?_⟩⟩
      refine ⟨_, rfl, b, 2, rfl, hb, by decide, by decide, fun r3 _ _ => ⟨_, rfl, ?_⟩⟩
      have hw2 : way = 1 ∨ way = 2 := by omega
      by_cases h3 : r3 = 0
      · rw [show (if false = true then !decide (r3 = 0) else decide (r3 = 0)) = true from decide_eq_true h3]
        rcases hw2 with rfl | rfl
        · exact ⟨sz_le (by show 2 ≤ 1000000; decide), _, rfl, _, _, rfl, rfl, trivial, 0, _, _, rfl, rfl, rfl, _, rfl, _, rfl, sz_le (by show 3 ≤ 1000000; decide), hk _ (.two (.inl rfl) hp ho (by omega))⟩
        · exact ⟨sz_le (by show 2 ≤ 1000000; decide), _, rfl, _, _, rfl, rfl, trivial, 1, _, _, rfl, rfl, rfl, _, rfl, _, rfl, sz_le (by show 3 ≤ 1000000; decide), hk _ (.two (.inr rfl) hp ho (by omega))⟩
      · rw [show (if false = true then !decide (r3 = 0) else decide (r3 = 0)) = false from decide_eq_false h3]
        rcases hw2 with rfl | rfl
        · exact ⟨sz_le (by show 2 ≤ 1000000; decide), _, rfl, _, _, rfl, rfl, trivial, 0, _, _, rfl, rfl, rfl, _, rfl, _, rfl, sz_le (by show 3 ≤ 1000000; decide), hk _ (.owt (.inl rfl) hp ho (by omega))⟩
        · exact ⟨sz_le (by show 2 ≤ 1000000; decide), _, rfl, _, _, rfl, rfl, trivial, 1, _, _, rfl, rfl, rfl, _, rfl, _, rfl, sz_le (by show 3 ≤ 1000000; decide), hk _ (.owt (.inr rfl) hp ho (by omega))⟩

/-! ### what a test says of a row -/
def trIs (kvs : List (Key × D)) : D → D → Bool
  | .str c, .str w => eqS ((getG kvs (.inr c)).getD .non) (.str w) == some true
  | _, _ => false
def blOf : Option D → Bool
  | some (.bl b) => b
  | _ => false
def trHas (kvs : List (Key × D)) : D → Bool
  | .str c => blOf (getG kvs (.inr c))
  | _ => false
def tr (kvs : List (Key × D)) : Nat → D → Bool
  | n + 1, .tup (.str h :: ds) => if h = "is" then trIs kvs (ds.getD 0 .non) (ds.getD 1 .non) else if h = "has" then trHas kvs (ds.getD 0 .non) else if h = "not" then !tr kvs n (ds.getD 0 .non) else if h = "and" then ds.all (tr kvs n) else ds.any (tr kvs n)
  | _, _ => false
section
variable {kvs : List (Key × D)} {n : Nat} {c d e : D}
theorem tr_is : tr kvs (n + 1) (.tup [.str "is", c, d]) = trIs kvs c d := rfl
theorem tr_has : tr kvs (n + 1) (.tup [.str "has", c]) = trHas kvs c := rfl
theorem tr_not : tr kvs (n + 1) (.tup [.str "not", c]) = !tr kvs n c := rfl
theorem tr_and : tr kvs (n + 1) (.tup [.str "and", c, d]) = (tr kvs n c && tr kvs n d) := by
  show (tr kvs n c && (tr kvs n d && true)) = _
  rw [Bool.and_true]
theorem tr_or : tr kvs (n + 1) (.tup [.str "or", c, d]) = (tr kvs n c || tr kvs n d) := by
  show (tr kvs n c || (tr kvs n d || false)) = _
  rw [Bool.or_false]
end
theorem tr_up {kvs : List (Key × D)} {w0 w1 w2 w3 w4 : Str} {m : Nat} {t : D} (h : GT w0 w1 w2 w3 w4 m t) : ∀ n, m ≤ n → tr kvs (n + 1) t = tr kvs n t := by
  induction h with
  | is hc =>
    intro n hn
    obtain ⟨n, rfl⟩ : ∃ k, n = k + 1 := ⟨n - 1, by omega⟩
    rw [tr_is, tr_is]
  | has =>
    intro n hn
    obtain ⟨n, rfl⟩ : ∃ k, n = k + 1 := ⟨n - 1, by omega⟩
    rw [tr_has, tr_has]
  | not _ ih =>
    intro n hn
    obtain ⟨n, rfl⟩ : ∃ k, n = k + 1 := ⟨n - 1, by omega⟩
    rw [tr_not, tr_not, ih n (by omega)]
  | two hh _ _ hl ih1 ih2 =>
    intro n hn
    obtain ⟨n, rfl⟩ : ∃ k, n = k + 1 := ⟨n - 1, by omega⟩
    rcases hh with rfl | rfl
    · rw [tr_and, tr_and, ih1 n (by omega), ih2 n (by omega)]
    · rw [tr_or, tr_or, ih1 n (by omega), ih2 n (by omega)]
  | owt hh _ _ hl ih1 ih2 =>
    intro n hn
    obtain ⟨n, rfl⟩ : ∃ k, n = k + 1 := ⟨n - 1, by omega⟩
    rcases hh with rfl | rfl
    · rw [tr_and, tr_and, ih1 n (by omega), ih2 n (by omega)]
    · rw [tr_or, tr_or, ih1 n (by omega), ih2 n (by omega)]
def RowOk (w4 : Str) (kvs : List (Key × D)) : Prop := (∀ p ∈ kvs, flat p.2 = true) ∧ ∀ x, getG kvs (.inr w4) = some x → ∃ b, x = .bl b
theorem getG_mem {j : Key} : ∀ {kvs : List (Key × D)} {x : D}, getG kvs j = some x → ∃ p ∈ kvs, p.2 = x
  | [], x, h => by cases h
  | p :: r, x, h => by
    by_cases e : p.1 = j
    · rw [getG_pos e] at h
      exact ⟨p, List.mem_cons_self, Option.some.inj h⟩
    · rw [getG_neg e] at h
      obtain ⟨q, h1, h2⟩ := getG_mem h
      exact ⟨q, List.mem_cons_of_mem _ h1, h2⟩
theorem eq_flat {d : D} {w : Str} {M : Mh} {k : DK} (h : flat d = true) (hk : k (.bl (eqS d (.str w) == some true)) M) : dEqB false d (.str w) M k := by
  cases d with
  | non => exact hk
  | bl _ => exact hk
  | int _ => exact hk
  | str z =>
    have e : (some (decide (z = w)) == some true) = decide (z = w) := by cases decide (z = w) <;> rfl
    have hk : k (.bl (some (decide (z = w)) == some true)) M := hk
    rw [e] at hk
    exact hk
  | _ => cases h
def sHolds (n : Nat) : MF := fun ds M k _ => ∃ w0 w1 w2 w3 w4 t a kvs, ∃ m : Nat, ds = [t, .ref a] ∧ M a = some (.dct kvs) ∧ RowOk w4 kvs ∧ GT w0 w1 w2 w3 w4 m t ∧ m ≤ n ∧ k (.bl (tr kvs n t)) M
def sTruth (n : Nat) : MF := sHolds n
/-! ### a dict that grows -/
theorem getG_map (k j : Key) (d : D) : ∀ kvs : List (Key × D), getG (kvs.map fun kv => if kv.1 = k then (kv.1, d) else kv) j = (getG kvs j).map fun x => if j = k then d else x
  | [] => rfl
  | p :: r => by
    have ih := getG_map k j d r
    rw [List.map_cons]
    by_cases h : p.1 = k
    · rw [if_pos h]
      by_cases e : p.1 = j
      · rw [getG_pos (p := (p.1, d)) e, getG_pos e, Option.map_some, if_pos (e.symm.trans h)]
      · rw [getG_neg (p := (p.1, d)) e, getG_neg e, ih]
    · rw [if_neg h]
      by_cases e : p.1 = j
      · rw [getG_pos (p := p) e, getG_pos e, Option.map_some, if_neg (fun z => h (e.trans z))]
      · rw [getG_neg (p := p) e, getG_neg e, ih]
theorem getG_other {k j : Key} (h : j ≠ k) (d : D) : ∀ kvs : List (Key × D), getG (kvs ++ [(k, d)]) j = getG kvs j
  | [] => getG_neg (p := (k, d)) (r := []) fun e => h e.symm
  | p :: r => by
    rw [List.cons_append]
    by_cases e : p.1 = j
    · rw [getG_pos e, getG_pos e]
    · rw [getG_neg e, getG_neg e, getG_other h d r]
theorem getG_put_ne {k j : Key} (h : j ≠ k) (d : D) (kvs : List (Key × D)) : getG (putG kvs k d) j = getG kvs j := by
  unfold putG
  split
  · rw [getG_map]
    simp only [if_neg h]
    cases getG kvs j <;> rfl
  · exact getG_other h d kvs
theorem put_flat {k : Key} {d : D} {kvs : List (Key × D)} (hd : flat d = true) (h : ∀ p ∈ kvs, flat p.2 = true) : ∀ p ∈ putG kvs k d, flat p.2 = true := by
  intro p hp
  unfold putG at hp
  split at hp
  · obtain ⟨q, h1, h2⟩ := List.mem_map.mp hp
    split at h2
    · rw [← h2]; exact hd
    · rw [← h2]; exact h q h1
  · rcases List.mem_append.mp hp with hp | hp
    · exact h p hp
    · rw [List.mem_singleton.mp hp]; exact hd
theorem put_len (kvs : List (Key × D)) (k : Key) (d : D) : (putG kvs k d).length ≤ kvs.length + 1 := by
  unfold putG
  split
  · rw [List.length_map]; omega
  · rw [List.length_append]; exact Nat.le_refl _
theorem put_nd {k : Key} {d : D} {kvs : List (Key × D)} (h : (kvs.map (·.1)).Nodup) : ((putG kvs k d).map (·.1)).Nodup := by
  unfold putG
  split
  · rw [List.map_map]
    have e : ((fun p : Key × D => p.1) ∘ fun kv => if kv.1 = k then (kv.1, d) else kv) = fun p => p.1 := by
      funext p
      show (if p.1 = k then (p.1, d) else p).1 = p.1
      split <;> rfl
    rw [e]
    exact h
  · rename_i hn
    rw [List.map_append, List.nodup_append]
    refine ⟨h, by simp, fun a ha b hb e => ?_⟩
    simp only [List.map_cons, List.map_nil, List.mem_singleton] at hb
    subst e hb
    obtain ⟨p, h1, h2⟩ := List.mem_map.mp ha
    exact hn (List.any_eq_true.mpr ⟨p, h1, decide_eq_true h2⟩)
theorem getG_put_some {k : Key} {d : D} : ∀ {kvs : List (Key × D)} {x : D}, getG (putG kvs k d) k = some x → x = d := by
  intro kvs x h
  unfold putG at h
  split at h
  · rw [getG_map] at h
    cases q : getG kvs k with
    | none => rw [q] at h; cases h
    | some y =>
      rw [q] at h
      simp only [Option.map_some, if_true] at h
      exact (Option.some.inj h).symm
  · rename_i hn
    have key : ∀ l : List (Key × D), ¬ (l.any fun kv => decide (kv.1 = k)) = true → getG (l ++ [(k, d)]) k = some d := fun l => by
      induction l with
      | nil => intro _; exact getG_pos (p := (k, d)) rfl
      | cons p r ih =>
        intro hl
        rw [List.any_cons, Bool.or_eq_true, not_or] at hl
        rw [List.cons_append, getG_neg (p := p) (fun e => hl.1 (decide_eq_true e))]
        exact ih hl.2
    rw [key kvs hn] at h
    exact (Option.some.inj h).symm
theorem for_invN {t : Tg} {G : Mh → Prop} {body : MS} {De : DEnds} {kx : XKd} (P : Nat → DL.Env → Mh → Prop) : ∀ (ds : List D) {Γ : DL.Env} {M : Mh}, P ds.length Γ M →
    (∀ d ∈ ds, ∀ n Γ M, P (n + 1) Γ M → G M ∧ ∃ Γ1, bindT t d Γ = some Γ1 ∧ ∀ nx : DL.Env → Mh → Prop, (∀ Γ2 M2, P n Γ2 M2 → nx Γ2 M2) → body { De with nx := nx, ct := nx, bk := De.nx } Γ1 M kx) →
    (∀ Γ M, P 0 Γ M → G M ∧ De.nx Γ M) → loopFor t G body De kx ds Γ M
  | [], Γ, M, h, _, he => he Γ M h
  | d :: ds, Γ, M, h, hs, he => by
    obtain ⟨g, Γ1, e, hb⟩ := hs d List.mem_cons_self ds.length Γ M h
    exact ⟨g, Γ1, e, hb _ fun Γ2 M2 h2 => for_invN P ds h2 (fun d' hd => hs d' (List.mem_cons_of_mem _ hd)) he⟩
end CM
set_option maxHeartbeats 4000000
/-! super().__init__(..) in the hand layer -/
namespace DX
open PySem PySem.Spec PyProof.Rows L2
section
variable {X : Cx} {pins : List (Addr × Obj)} {σ : L2.St} {H : Hp} {s : Shared} {E : Value → Shared → Prop}
/-- what the written part says of a def that says super() -/
structure SupDef (X : Cx) (f cda cc D : Addr) (fd : FuncData) (slf : Str) : Prop where
  fn : ∃ oc od osl, X.K.lookup f = some ⟨oc, od, .func fd, osl⟩
  par : ∃ ar, (fd.params.posonlyargs ++ fd.params.args).head? = some ar ∧ ar.arg = slf
  code : ∃ ccl cdd vs ccs file tf, X.K.lookup cda = some ⟨ccl, cdd, .fields vs, ccs⟩ ∧ vs[2]? = some (.str file tf) ∧ ((X.prog.main.file : Str) == file) = true
  cell : ∃ cl cld csl, X.K.lookup cc = some ⟨cl, cld, .cell (some (.ref D)), csl⟩
  cls : ∃ cdD, PySem.W.clsIn X.K D = some cdD
  top : (X.prog.main.scope.names.lookup ("super" : Str)).isSome = false
  mg : X.mg "super" = none
theorem boot_super : bootBuiltins "super" = some (.type "super") := by decide +kernel
/-- super(): a new super object -/
theorem at_super {f cda cc D x C : Addr} {fd : FuncData} {slf : Str} {body : List Stmt} {ox : Obj} {p0 p1 : Pos} {attr : Str} {whole : Sem Value} {Q : Value → Shared → Prop} (I : Inv X pins σ H s) (T : SupDef X f cda cc D fd slf)
    (e1 : X.env.func = some f) (e2 : X.env.code = .ref cda) (e3 : X.env.cells = [(("__class__" : Str), cc)])
    (hN : X.N[0]? = some slf) (hv : σ[0]? = some (some (.ref x))) (hl : X.env.scope.names.lookup slf = some .local)
    (hks : X.env.kindOf "super" = some .globalImplicit) (hkc : X.env.kindOf "__class__" = some .free)
    (hx : s.heap.get? x = some ox) (hxc : ox.cls = .ref C) (hnc : ∀ c, ox.data ≠ .cls c) (hsub : PySem.W.mroIn X.K C (.ref D) = some true) (hat : (attr == ("__class__" : Str)) = false)
    (h : ∀ so h', (∀ b o, s.heap.get? b = some o → h'.get? b = some o) → h'.get? so = some (PySem.W.ks_superObj D x C) → s.heap.objs.size ≤ so → Q (.ref so) { s with heap := h' }) :
    _root_.PySem.wpAt (model X.prog X.w) X.A (.func body X.env) (attributeBase (.Call (.Name "super" p0) [] [] p1) attr X.env whole) Q E s := by
  obtain ⟨oc, od, osl, hf⟩ := T.fn
  obtain ⟨ar, har, rfl⟩ := T.par
  obtain ⟨ccl, cdd, vs, ccs, file, tf, hcode, hvs, hfile⟩ := T.code
  obtain ⟨cl, cld, csl, hcell⟩ := T.cell
  obtain ⟨cdD, hD⟩ := T.cls
  have KX := I.kIn
  obtain ⟨hh, g, d, t, os⟩ := s
  obtain ⟨oD, hD1, hD2⟩ : ∃ oD, hh.get? D = some oD ∧ oD.data = .cls cdD := by
    unfold PySem.W.clsIn at hD
    split at hD
    · rename_i c d cd' sl ho
      cases hD
      exact ⟨_, KX _ _ ho, rfl⟩
    · cases hD
  refine ks_wpAt_super_base (env := X.env) hks hkc hat e1 (KX _ _ hf) rfl har e2 (KX _ _ hcode) rfl hvs hfile T.top ?_
  obtain ⟨mb, b1, b2⟩ := I.mod.blt
  refine PySem.W.ks_loadName_global I.ok.kind hks (Calls.loadGlobal_builtin (by rw [I.ok.glob]; exact I.mod.glob.keeps I.bk) T.mg (by rw [I.ok.blt]; exact b1.keeps I.bk) ((b2 "super" (by decide)).trans boot_super) ⟨rfl, ?_⟩)
  refine wpAny_loadName_free I.ok.kind hkc (c := cc) (by rw [e3]; rfl) ⟨_, KX _ _ hcell, rfl⟩ ?_
  obtain ⟨m, hn, hlk⟩ := I.loc
  obtain ⟨u, ru, lk⟩ := hlk 0 ar.arg (.ref x) hN hv (.inl hl)
  obtain rfl : u = Value.ref x := ru
  have hm : m ar.arg = some (.ref x) := by
    rcases lk with ⟨_, hm⟩ | ⟨hk, _⟩
    · exact hm
    · have hl' : X.env.kindOf ar.arg = some .local := hl
      rw [hl'] at hk
      rcases hk with hk | hk <;> cases hk
  refine wpAny_loadName_local I.ok.kind hl hn hm ?_
  refine ks_wpAny_isType_cls hD1 hD2 ⟨rfl, ?_⟩
  exact ks_wpAny_call_super hD1 hD2 hx hxc hnc (PySem.W.looks_mroIn KX hsub) fun h' e k => h _ h' k e (Nat.le_refl _)
end
end DX
set_option maxHeartbeats 4000000
namespace DX
open PySem PySem.Spec PyProof.Rows L2 ClX
section
variable {X : Cx} {pins : List (Addr × Obj)} {σ : L2.St} {H : Hp} {s : Shared} {CX : CXT} {k : Nat} {sp : Sp} {EE : XK} {Q : VK} {e : Expr} {es : List Expr} {ta : TA} {p0 p1 apos pos : Pos}
/-- what stands behind the class D in the order of the class C -/
structure SupTo (X : Cx) (C D : Addr) (to : Value) : Prop where
  sub : PySem.W.mroIn X.K C (.ref D) = some true
  along : PySem.W.ks_superIn X.K C D "__init__" = some (some to)
  op : PySem.W.nsIn X.K PySem.cStatics "thirdparty.any" = some none
/-- super().__init__(e, ..), the next __init__ a def of the program's own -/
theorem at_sup_own {f cda cc D x C f2 : Addr} {fd : FuncData} {slf : Str} {body : List Stmt} {dx : Option Addr} {pl : Sem Bool} (I : Inv X pins σ H s) (T : SupDef X f cda cc D fd slf) (U : SupTo X C D (.ref f2)) (hf2 : PySem.W.fnIn X.K f2 = true) (ht2 : PySem.W.typeIn X.K (.ref f2) = some (.type "function"))
    (e1 : X.env.func = some f) (e2 : X.env.code = .ref cda) (e3 : X.env.cells = [(("__class__" : Str), cc)])
    (hN : X.N[0]? = some slf) (hv : σ[0]? = some (some (.ref x))) (hl : X.env.scope.names.lookup slf = some .local)
    (hks : X.env.kindOf "super" = some .globalImplicit) (hkc : X.env.kindOf "__class__" = some .free)
    (hx : H x = some (exo x C dx)) (F : FnR X.prog X.w X.K X.mg X.base CX k f2 sp) (hr : Room k X.A) (hxx : Passes CX X EE)
    (ha : PA X (e :: es) ta) (h : ta σ H fun vs H1 => sp (.ref x :: vs) H1 Q EE)
    (hev : eval (.Call (.Attribute (.Call (.Name "super" p0) [] [] p1) "__init__" apos) (e :: es) [] pos) X.env = (do
      let ov ← attributeBase (.Call (.Name "super" p0) [] [] p1) "__init__" X.env (eval (.Call (.Name "super" p0) [] [] p1) X.env)
      standAt apos.atName
      let (f, first) ← holding [ov] (getMethod ov "__init__" pl)
      callWith pos f first (backTo pos (starEach (e :: es) X.env)) []) := by rfl)
    (he : starEach (e :: es) X.env = (false, eval e X.env) :: starEach es X.env := by rfl) (hpl : (backTo pos (starEach es X.env)).any (·.1) = false := by rfl) :
    _root_.PySem.wpAt (model X.prog X.w) X.A (.func body X.env) (eval (.Call (.Attribute (.Call (.Name "super" p0) [] [] p1) "__init__" apos) (e :: es) [] pos) X.env) (EP X pins σ Q) X.xe s := by
  obtain ⟨t1, ho⟩ := exo_at I.hok hx
  refine ks_wpAt_MethodCall (pl := pl) ?_ hev
  refine at_super I T e1 e2 e3 hN hv hl hks hkc ho rfl (fun c z => by cases z) U.sub (by decide) fun so h' kp hso hsz => ?_
  have I1 : Inv X pins σ H { s with heap := h' } := I.kept (t' := s.toks) kp
  have KX := I1.kIn
  obtain ⟨cd, hcl⟩ : ∃ cd, PySem.W.clsIn X.K C = some cd := by
    have := U.along
    unfold PySem.W.ks_superIn at this
    cases q : PySem.W.clsIn X.K C with
    | none => rw [q] at this; cases this
    | some cd => exact ⟨cd, rfl⟩
  have hal : PySem.W.alongIn X.K "__init__" ((cd.mro.dropWhile (· != .ref D)).drop 1) = some (some (.ref f2)) := by
    have := U.along
    unfold PySem.W.ks_superIn at this
    rw [hcl] at this
    exact this
  obtain ⟨of, hof, hofc⟩ : ∃ of, h'.get? f2 = some of ∧ of.cls = .type "function" := by
    have ht' : (X.K.lookup f2).map (·.cls) = some (.type "function") := ht2
    cases z : X.K.lookup f2 with
    | none => rw [z] at ht'; cases ht'
    | some of => rw [z] at ht'; exact ⟨of, KX _ _ z, Option.some.inj ht'⟩
  have hxC : x ≠ C := fun z => by
    have h1 := kp _ _ ho
    rw [z] at h1
    unfold PySem.W.clsIn at hcl
    split at hcl
    · rename_i c d cd' sl hoC
      have := (KX _ _ hoC).symm.trans h1
      cases this
    · cases hcl
  refine ks_wpAny_getMethod_super hso (PySem.W.looks_opaque KX U.op) (l₀ := cd.mro) (fun A Q E s k q => wpAny_bind ((PySem.W.looks_clsIn KX hcl) A _ E s k (wpAny_pure q))) rfl KX hal hof hofc hxC (by decide) ?_
  have I2 := met_new (g := f2) (C := x) I1
  refine callwith_cm I2 (base_none I1 (Nat.le_refl _)) hf2 (thn (ha.run pos _ _ σ H _ I2 h) fun us s3 ⟨vs, H3, I3, r3, q3⟩ => ⟨⟨pin_at I3, I3.kIn⟩, ?_⟩) he hpl
  exact run_cm F hr hxx I3 r3 q3
end
end DX
set_option maxHeartbeats 4000000
namespace DX
open PySem PySem.Spec PyProof.Rows L2 ClX
section
variable {X : Cx} {pins : List (Addr × Obj)} {σ : L2.St} {H : Hp} {s : Shared} {Q : VK} {e : Expr} {es : List Expr} {ta : TA} {p0 p1 apos pos : Pos}
/-- the class C is an exception class over the built-in class B -/
structure OverB (X : Cx) (C : Addr) (B newId i : String) (bmB : List Value) : Prop where
  kf : PySem.W.KxsFacts B i
  fb : ExcBaseFacts B newId i bmB
  obj : ∃ nm q N bs bm hd sn sub ab col dd k0 k1 k2 k3 k5, X.K.lookup C = some (excClassObj nm q C N bs bm hd sn sub ab col dd k0 k1 k2 k3 k5 newId)
  sub : PySem.W.subIn X.K (.ref C) (.type B) = some true
/-- super().__init__(e, ..), the next __init__ the built-in one: nothing of it is told -/
theorem at_sup_blt {f cda cc D x C : Addr} {fd : FuncData} {slf : Str} {body : List Stmt} {dx : Option Addr} {pl : Sem Bool} {B newId i : String} {bmB : List Value} (I : Inv X pins σ H s) (T : SupDef X f cda cc D fd slf) (U : SupTo X C D (.builtin i)) (O : OverB X C B newId i bmB)
    (e1 : X.env.func = some f) (e2 : X.env.code = .ref cda) (e3 : X.env.cells = [(("__class__" : Str), cc)])
    (hN : X.N[0]? = some slf) (hv : σ[0]? = some (some (.ref x))) (hl : X.env.scope.names.lookup slf = some .local)
    (hks : X.env.kindOf "super" = some .globalImplicit) (hkc : X.env.kindOf "__class__" = some .free)
    (hx : H x = some (exo x C dx)) (ha : PA X (e :: es) ta) (h : ta σ H fun vs H1 => vs.length ≤ 1000 ∧ H1 x = some (exo x C dx) ∧ Q .non H1)
    (hev : eval (.Call (.Attribute (.Call (.Name "super" p0) [] [] p1) "__init__" apos) (e :: es) [] pos) X.env = (do
      let ov ← attributeBase (.Call (.Name "super" p0) [] [] p1) "__init__" X.env (eval (.Call (.Name "super" p0) [] [] p1) X.env)
      standAt apos.atName
      let (f, first) ← holding [ov] (getMethod ov "__init__" pl)
      callWith pos f first (backTo pos (starEach (e :: es) X.env)) []) := by rfl)
    (he : starEach (e :: es) X.env = (false, eval e X.env) :: starEach es X.env := by rfl) (hpl : (backTo pos (starEach es X.env)).any (·.1) = false := by rfl) :
    _root_.PySem.wpAt (model X.prog X.w) X.A (.func body X.env) (eval (.Call (.Attribute (.Call (.Name "super" p0) [] [] p1) "__init__" apos) (e :: es) [] pos) X.env) (EP X pins σ Q) X.xe s := by
  obtain ⟨t1, ho⟩ := exo_at I.hok hx
  refine ks_wpAt_MethodCall (pl := pl) ?_ hev
  refine at_super I T e1 e2 e3 hN hv hl hks hkc ho rfl (fun c z => by cases z) U.sub (by decide) fun so h' kp hso hsz => ?_
  have I1 : Inv X pins σ H { s with heap := h' } := I.kept (t' := s.toks) kp
  have KX := I1.kIn
  obtain ⟨cd, hcl⟩ : ∃ cd, PySem.W.clsIn X.K C = some cd := by
    have := U.along
    unfold PySem.W.ks_superIn at this
    cases q : PySem.W.clsIn X.K C with
    | none => rw [q] at this; cases this
    | some cd => exact ⟨cd, rfl⟩
  have hal : PySem.W.alongIn X.K "__init__" ((cd.mro.dropWhile (· != .ref D)).drop 1) = some (some (.builtin i)) := by
    have := U.along
    unfold PySem.W.ks_superIn at this
    rw [hcl] at this
    exact this
  have hxC : x ≠ C := fun z => by
    have h1 := kp _ _ ho
    rw [z] at h1
    unfold PySem.W.clsIn at hcl
    split at hcl
    · rename_i c d cd' sl hoC
      have := (KX _ _ hoC).symm.trans h1
      cases this
    · cases hcl
  have hI : PySem.W.Looks (model X.prog X.w) h' (isInstance (.ref x) (.type B)) true := by
    have ty : PySem.W.Looks (model X.prog X.w) h' (typeOf (.ref x)) (.ref C) := (PySem.W.Looks.ld (kp _ _ ho)).andThen .now
    exact ty.andThen (PySem.W.looks_subIn KX O.sub)
  refine PySem.W.kxs_getMethod O.kf hso (PySem.W.looks_opaque KX U.op) (l₀ := cd.mro) (fun A Q E s k q => wpAny_bind ((PySem.W.looks_clsIn KX hcl) A _ E s k (wpAny_pure q))) rfl KX hal hI hxC (by decide) ?_
  have I2 : Inv X ((h'.objs.size, PySem.W.kxs_mw i x) :: pins) σ H { s with heap := h'.push (PySem.W.kxs_mw i x), toks := s.toks + 1 } :=
    pin_new (s := { s with heap := h' }) (t' := s.toks + 1) I1 (fun _ _ z => Heap.get?_push_of_some _ z) (Nat.le_refl _) (Heap.get?_push_size h' rfl) (fun v z => nomatch z)
  show wpAny _ _ (callWith pos (.ref h'.objs.size) [] (backTo pos (starEach (e :: es) X.env)) []) _ _ _
  have key : wpAny (model X.prog X.w) X.A (spliced (backTo pos (starEach (e :: es) X.env))) (fun us s3 => PySem.W.KxsAt i h'.objs.size x s3.heap ∧ wpAny (model X.prog X.w) X.A (call (.ref h'.objs.size) us) (EP X pins σ Q) X.xe s3) X.xe { s with heap := h'.push (PySem.W.kxs_mw i x), toks := s.toks + 1 } := ?key
  · rw [he] at key ⊢
    refine PySem.W.kxs_callWith (i := i) (x := x) (by show (false || (backTo pos (starEach es X.env)).any (·.1)) = false; rw [hpl]; rfl) ?_
    exact Calls.evalArgs_plain key
  refine thn (ha.run pos _ _ σ H _ I2 h) fun us s3 ⟨vs, H3, I3, r3, hlen, hx3, q3⟩ => ⟨pin_at I3, ?_⟩
  show wpAny _ _ (call (.ref h'.objs.size) us) _ _ _
  obtain ⟨t3, ho3⟩ := exo_at I3.hok hx3
  obtain ⟨nm, q, N, bs, bm, hd, sn, sub, ab, col, dd, k0, k1, k2, k3, k5, hC⟩ := O.obj
  have hu := pin_at I3
  have hz : us.length ≤ sizeLine := by
    rw [← Paired.length r3, sizeLine_eq]
    omega
  obtain ⟨hh, g, d, tk, os⟩ := s3
  have fin : ∀ h2, (∀ b o, b ≠ x → hh.get? b = some o → h2.get? b = some o) → h2.get? x = some (PySem.W.excObj C hh.objs.size dx .none) → h2.get? hh.objs.size = some (PySem.W.excTup us) → EP X pins σ Q .none ⟨h2, g, d, tk, os⟩ := fun h2 k2 e2 _ => by
    have J := I3.write (t' := tk) (x := x) (e := x) (o := exo x C dx) (by rw [hx3]; exact True.intro) (.inl rfl) k2 ⟨_, e2⟩ (exo_ok e2)
    have eu : upd H3 x (exo x C dx) = H3 := by
      funext b
      by_cases hb : b = x
      · rw [hb, upd_same, hx3]
      · rw [upd_ne hb]
    rw [eu] at J
    exact ⟨.non, H3, unpin J, rfl, q3⟩
  refine wpAny_call (codeAny_of_tree ?_)
  show wpAny _ X.A.in1 (callAny (.ref h'.objs.size) ⟨us, []⟩) _ _ _
  simp only [callAny]
  refine wpAny_bind (wpAny_load hu ?_)
  simp only [PySem.W.kxs_mw, show (Value.type "method-wrapper" == Value.type "method" || Value.type "method-wrapper" == Value.type "builtin_function_or_method" || Value.type "method-wrapper" == Value.type "method-wrapper") = true by decide, if_true]
  refine PySem.W.KFB.if_so (by decide) ?_
  refine wpAny_bind (PySem.W.check_bound_init O.fb.toExcCallFacts (I3.kIn _ _ hC) ho3 rfl ?_)
  refine wpAny_bind (wpAny_pure (wpAny_pure ?_))
  refine ⟨plainId_quiet O.fb.init.plain _, codeAny_builtin O.fb.initEntry ?_⟩
  exact PySem.W.exc_init_tree (cls := .ref C) (t0 := t3) (dv := dx) (c2 := .none) (c3 := .none) (b4 := .bool false) ho3 hz fin
end
end DX
set_option maxHeartbeats 4000000
namespace DX
open PySem PySem.Spec PyProof.Rows L2 ClX NdefX
/-- a def whose first statement says super() -/
abbrev supF (name qual : Str) (params : Arguments) (body : List Stmt) (scope : Scope) (cc cda : Addr) : NF := ⟨name, qual, params, body, scope, [(("__class__" : Str), cc)], cda⟩
theorem fn_sup {CX : CXT} {P : Program} {w : World} {K : PySem.W.Frag} {mg : Str → Option Value} {base : Heap} {k : Nat} {f cc cda D : Addr} {name qual : Str} {params : Arguments} {ex : Expr} {p4 : Pos} {rest : List Stmt} {scope : Scope} {dV kV doc pm ct oc cl : Value} {an od cld : Option Addr}
    {osl csl : Array (Option Value)} {N ps : List Str} {sp : Sp} (lk : K.lookup f = some ⟨oc, od, .func (PySem.W.fnX name qual params (.Expr ex p4 :: rest) scope [(("__class__" : Str), cc)] dV kV doc pm an (.ref cda) ct), osl⟩) (hcd : PySem.W.codeIn K (.ref cda) qual = true)
    (hcell : K.lookup cc = some ⟨cl, cld, .cell (some (.ref D)), csl⟩) (S : NScope N ps ["__class__"] scope) (len : ∀ vs H Q E, sp vs H Q E → vs.length = ps.length)
    (hs : ∀ L, swapsWith ex none p4.line (envF (supF name qual params (.Expr ex p4 :: rest) scope cc cda) f L) = pure false)
    (hbody : ∀ (A : Around) (outer : List Env) (s : Shared) (H : Hp) (vs : List V) (Q : VK) (E : XK), Room k (A.deeper (envF (supF name qual params (.Expr ex p4 :: rest) scope cc cda) f s.heap.objs.size)) → sp vs H Q E →
      ∃ (t : TS) (Q1 : VK), PSs (ncx CX P w K mg base N (supF name qual params (.Expr ex p4 :: rest) scope cc cda) f A outer s H E) rest t ∧
        (∀ s1, Inv (ncx CX P w K mg base N (supF name qual params (.Expr ex p4 :: rest) scope cc cda) f A outer s H E) [] (startF N vs [none]) H s1 →
          _root_.PySem.wpAt (model P w) (A.deeper (envF (supF name qual params (.Expr ex p4 :: rest) scope cc cda) f s.heap.objs.size)) (.func (.Expr ex p4 :: rest) (envF (supF name qual params (.Expr ex p4 :: rest) scope cc cda) f s.heap.objs.size)) (eval ex (envF (supF name qual params (.Expr ex p4 :: rest) scope cc cda) f s.heap.objs.size))
            (EP (ncx CX P w K mg base N (supF name qual params (.Expr ex p4 :: rest) scope cc cda) f A outer s H E) [] (startF N vs [none]) Q1) (ncx CX P w K mg base N (supF name qual params (.Expr ex p4 :: rest) scope cc cda) f A outer s H E).xe s1) ∧
        ∀ v H1, Q1 v H1 → t { nx := fun _ H' => Q .non H', rt := Q } (startF N vs [none]) H1) :
    FnOk P w K mg base CX (k + 1) f (PySem.W.fnX name qual params (.Expr ex p4 :: rest) scope [(("__class__" : Str), cc)] dV kV doc pm an (.ref cda) ct) ps sp := by
  refine ⟨len, fun A outer s H args us vs Q E hr e0 hb r hsp => ?_⟩
  have hl := len _ _ _ _ hsp
  have up := fun b o e => (e0.bs b o e).1
  have KX : K.In s.heap := e0.mod.kin.keeps up
  have lim : s.heap.NoLimit := e0.mod.nolimit.keeps up
  have C : CellsAt [(("__class__" : Str), cc)] ["__class__"] [none] s.heap H := by
    have key : ∀ y c, ([(("__class__" : Str), cc)] : List (Str × Addr)).lookup y = some c → y = "__class__" ∧ c = cc := fun y c h => by
      rw [List.lookup_cons] at h
      cases q : y == ("__class__" : Str) with
      | true =>
        rw [q] at h
        exact ⟨beq_iff_eq.mp q, (Option.some.inj h).symm⟩
      | false =>
        rw [q] at h
        cases h
    refine ⟨rfl, fun y c h => ?_, fun x y c h1 h2 => (key x c h1).1.trans (key y c h2).1.symm, fun i y h => ?_⟩
    · obtain ⟨_, rfl⟩ := key y c h
      exact ⟨(e0.bs _ _ (e0.mod.kin _ _ hcell)).2, _, ⟨_, KX _ _ hcell, rfl⟩⟩
    · cases i with
      | zero =>
        cases h
        exact ⟨cc, rfl, fun v hv => by cases hv⟩
      | succ i => cases h
  refine codeAny_call_function hr.depth (KX _ _ lk) rfl S.co S.gen rfl (PySem.W.codeRec_of KX hcd) (hb _ _ _ _ ?_)
  refine wpAny_newFunctionEnv S.nocell (fun ⟨n, _⟩ hy => S.par n (List.of_mem_zip hy).1) (fun h₁ hns hsb => ⟨lim.fresh _ hsb, ?_⟩) S.kind
  show codeAny _ _ (.func (.Expr ex p4 :: rest) (envF (supF name qual params (.Expr ex p4 :: rest) scope cc cda) f s.heap.objs.size)) _ _
  have kp : ∀ b o, s.heap.get? b = some o → h₁.get? b = some o := fun b o e => hsb.extBut b o (Nat.ne_of_lt (Heap.lt_size e)) (Heap.get?_push_of_some _ e)
  obtain ⟨t, Q1, ht, h0, hq⟩ := hbody A outer s H vs Q E (hr.deeper _) hsp
  have I : Inv (ncx CX P w K mg base N (supF name qual params (.Expr ex p4 :: rest) scope cc cda) f A outer s H E) [] (startF N vs [none]) H { s with heap := h₁, toks := s.toks + (ps.zip us).length } := inv_startN S hr.hd e0 hl r C hns kp
  refine ks_codeAny_funcAt ?_
  refine ks_wpAt_execs_cons ?_
  refine ks_wpAt_Expr_any ?_ I.quiet (hs _)
  refine ks_wpAt_mono (h0 _ I) (fun v s1 hv => ?_) fun e s' hs => hs
  obtain ⟨v', H1, I1, r1, q1⟩ := hv
  refine wpAt_of_wpAny (wpAny_mono (ht.run [] s1 (startF N vs [none]) H1 _ I1 (hq v' H1 q1)) (fun fl s' hs => ?_) fun e s' hs => hs)
  cases fl with
  | ret u => obtain ⟨v2, σ2, H2, J, rv, q⟩ := hs; exact ⟨v2, H2, J.os, J.bare, J.base, J.hok, rv, q⟩
  | next => obtain ⟨σ2, H2, J, q⟩ := hs; exact ⟨.non, H2, J.os, J.bare, J.base, J.hok, rfl, q⟩
  | brk => obtain ⟨_, _, _, q⟩ := hs; exact q.elim
  | cont => obtain ⟨_, _, _, q⟩ := hs; exact q.elim
end DX
set_option maxHeartbeats 4000000
namespace DX
open PySem PySem.Spec PyProof.Rows L2 ClX NdefX
/-- what an __init__ promises that leaves these fields: all that is looked at of the class -/
def spI (K : PySem.W.Frag) (ok : Addr → Prop) (n : Nat) (fs : List V → List (Str × V)) : Sp := fun vs H Q _ => ∃ a C ws, vs = .ref a :: ws ∧ ws.length = n ∧ H a = some (exo a C none) ∧ OexC K C ∧ ok C ∧
  ∀ dx, H dx = none → dx ≠ a → Q .non (upd (upd H dx (exd dx (fs ws))) a (exo a C (some dx)))
theorem upd2 {H : Hp} {a : Addr} {o u : HO} : upd (upd H a o) a u = upd H a u := by
  funext b
  by_cases e : b = a
  · rw [e, upd_same, upd_same]
  · rw [upd_ne e, upd_ne e, upd_ne e]
theorem upd_comm {H : Hp} {a b : Addr} {o u : HO} (h : a ≠ b) : upd (upd H a o) b u = upd (upd H b u) a o := by
  funext c
  by_cases e : c = b
  · subst e
    rw [upd_same, upd_ne (Ne.symm h), upd_same]
  · rw [upd_ne e]
    by_cases e2 : c = a
    · subst e2
      rw [upd_same, upd_same]
    · rw [upd_ne e2, upd_ne e2, upd_ne e]
section
variable {P : Program} {w : World} {K : PySem.W.Frag} {mg : Str → Option Value} {base : Heap}
/-- the class C, as a def of the class D asks it: what comes behind D is the built-in __init__ -/
structure ToBlt (K : PySem.W.Frag) (C D : Addr) (B newId i : String) (bmB : List Value) : Prop where
  kf : PySem.W.KxsFacts B i
  fb : ExcBaseFacts B newId i bmB
  obj : ∃ nm q N bs bm hd sn sub ab col dd k0 k1 k2 k3 k5, K.lookup C = some (excClassObj nm q C N bs bm hd sn sub ab col dd k0 k1 k2 k3 k5 newId)
  isB : PySem.W.subIn K (.ref C) (.type B) = some true
  sub : PySem.W.mroIn K C (.ref D) = some true
  along : PySem.W.ks_superIn K C D "__init__" = some (some (.builtin i))
  op : PySem.W.nsIn K PySem.cStatics "thirdparty.any" = some none
/-- .. or a def of the program's own -/
structure ToOwn (K : PySem.W.Frag) (C D f2 : Addr) : Prop where
  sub : PySem.W.mroIn K C (.ref D) = some true
  along : PySem.W.ks_superIn K C D "__init__" = some (some (.ref f2))
  op : PySem.W.nsIn K PySem.cStatics "thirdparty.any" = some none
/-- what the written part says of a def that says super(), with no context -/
structure SupK (P : Program) (K : PySem.W.Frag) (mg : Str → Option Value) (f cda cc D : Addr) (fd : FuncData) (slf : Str) : Prop where
  fn : ∃ oc od osl, K.lookup f = some ⟨oc, od, .func fd, osl⟩
  par : ∃ ar, (fd.params.posonlyargs ++ fd.params.args).head? = some ar ∧ ar.arg = slf
  code : ∃ ccl cdd vs ccs file tf, K.lookup cda = some ⟨ccl, cdd, .fields vs, ccs⟩ ∧ vs[2]? = some (.str file tf) ∧ ((P.main.file : Str) == file) = true
  cell : ∃ cl cld csl, K.lookup cc = some ⟨cl, cld, .cell (some (.ref D)), csl⟩
  cls : ∃ cdD, PySem.W.clsIn K D = some cdD
  top : (P.main.scope.names.lookup ("super" : Str)).isSome = false
  mg : mg "super" = none
theorem SupK.to {X : Cx} {f cda cc D : Addr} {fd : FuncData} {slf : Str} (T : SupK X.prog X.K X.mg f cda cc D fd slf) : SupDef X f cda cc D fd slf := ⟨T.fn, T.par, T.code, T.cell, T.cls, T.top, T.mg⟩
abbrev supEx (p0 p1 apos p3 : Pos) (e : Expr) : Expr := .Call (.Attribute (.Call (.Name "super" p0) [] [] p1) "__init__" apos) [e] [] p3
/-- how such a call is read -/
def SupEv (p0 p1 apos p3 : Pos) (e : Expr) (env : Env) (pl : Sem Bool) : Prop :=
  eval (supEx p0 p1 apos p3 e) env = (do
      let ov ← attributeBase (.Call (.Name "super" p0) [] [] p1) "__init__" env (eval (.Call (.Name "super" p0) [] [] p1) env)
      standAt apos.atName
      let (f, first) ← holding [ov] (getMethod ov "__init__" pl)
      callWith p3 f first (backTo p3 (starEach [e] env)) [])
/-- def __init__(self, x): super().__init__(x); self.x = x, over a built-in class -/
theorem init_blt {f cc cda D : Addr} {name qual par : Str} {params : Arguments} {p0 p1 apos p3 p4 p2 q1 q2 q3 q4 : Pos} {scope : Scope} {dV kV doc pm ct oc : Value} {an od : Option Addr} {osl : Array (Option Value)} {B newId i : String} {bmB : List Value} {pl : Sem Bool}
    (lk : K.lookup f = some ⟨oc, od, .func (PySem.W.fnX name qual params [.Expr (supEx p0 p1 apos p3 (.Name par p2)) p4, .Assign [.Attribute (.Name "self" q1) par q2] (.Name par q3) q4] scope [(("__class__" : Str), cc)] dV kV doc pm an (.ref cda) ct), osl⟩) (hcd : PySem.W.codeIn K (.ref cda) qual = true)
    (T : SupK P K mg f cda cc D (PySem.W.fnX name qual params [.Expr (supEx p0 p1 apos p3 (.Name par p2)) p4, .Assign [.Attribute (.Name "self" q1) par q2] (.Name par q3) q4] scope [(("__class__" : Str), cc)] dV kV doc pm an (.ref cda) ct) "self")
    (S : NScope ["self", par, "__class__"] ["self", par] ["__class__"] scope) (hks : scope.names.lookup ("super" : Str) = some .globalImplicit)
    (hev : ∀ env, SupEv p0 p1 apos p3 (.Name par p2) env pl) (hsw : ∀ env, swapsWith (supEx p0 p1 apos p3 (.Name par p2)) none p4.line env = pure false) (hsw2 : ∀ env, swapsWith (.Name par q3) (some (.Attribute (.Name "self" q1) par q2)) q4.line env = pure false)
    (hd : (par == ("__debug__" : Str)) = false) (hdc : (par == ("__classdict__" : Str)) = false) :
    FnOk P w K mg base CX0 1 f (PySem.W.fnX name qual params [.Expr (supEx p0 p1 apos p3 (.Name par p2)) p4, .Assign [.Attribute (.Name "self" q1) par q2] (.Name par q3) q4] scope [(("__class__" : Str), cc)] dV kV doc pm an (.ref cda) ct) ["self", par]
      (spI K (fun C => ToBlt K C D B newId i bmB ∧ PySem.W.findIn K (.ref C) par = some none) 1 fun ws => (ws.map fun c => (par, c))) := by
  obtain ⟨cl, cld, csl, hcell⟩ := T.cell
  refine fn_sup (k := 0) lk hcd hcell S (fun vs H Q E ⟨a, C, ws, e, hl, _⟩ => by rw [e, List.length_cons, hl]; rfl) (fun L => hsw _) fun A outer s H vs Q E hr ⟨a, C, ws, e, hl, ha, hox, ⟨hb, hfi⟩, hq⟩ => ?_
  obtain ⟨c, rfl⟩ : ∃ c, ws = [c] := by
    match ws, hl with
    | [c], _ => exact ⟨c, rfl⟩
  subst e
  have v0 : Vis scope "self" := .inl (S.par "self" (by simp))
  have v1 : Vis scope par := .inl (S.par par (by simp))
  refine ⟨_, fun v H1 => H1 = H, pss_one (ps_ost (pe_var (i := 0) (x := "self") rfl v0) (pe_var (i := 1) (x := par) rfl v1 hd hdc) (hsw2 _)), fun s1 I => ?_, fun v H1 e => ?_⟩
  · refine at_sup_blt (x := a) (C := C) (dx := none) (B := B) (newId := newId) (i := i) (bmB := bmB) (pl := pl) I (SupK.to T) ⟨hb.sub, hb.along, hb.op⟩ ⟨hb.kf, hb.fb, hb.obj, hb.isB⟩ rfl rfl rfl rfl rfl (S.par "self" (by simp)) hks (S.frk "__class__" (by simp)) ha (pa_cons (pe_var (i := 1) (x := par) rfl v1 hd hdc) pa_nil) ?_ (hev _)
    exact ⟨c, rfl, by show 1 ≤ 1000; decide, ha, rfl⟩
  · subst e
    exact ⟨c, rfl, .ref a, rfl, a, C, rfl, hox, hfi, .inl ⟨ha, fun dx h1 h2 => hq dx h1 h2⟩⟩
end
end DX
set_option maxHeartbeats 4000000
namespace DX
open PySem PySem.Spec PyProof.Rows L2 ClX NdefX
section
variable {P : Program} {w : World} {K : PySem.W.Frag} {mg : Str → Option Value} {base : Heap}
theorem FnOk.r {CX : CXT} {k : Nat} {f : Addr} {fd : FuncData} {ps : List Str} {sp : Sp} (F : FnOk P w K mg base CX k f fd ps sp) (hb : Binds K fd ps []) : FnR P w K mg base CX k f sp := fun A outer s H us vs Q E hr e0 r h => by
  have KX : K.In s.heap := e0.mod.kin.keeps fun b o e => (e0.bs b o e).1
  have hl : us.length = ps.length := by rw [← r.length]; exact F.len _ _ _ _ h
  have b := hb s us KX (by rw [List.append_nil]; exact hl)
  rw [List.append_nil] at b
  exact F.run A outer s H ⟨us, []⟩ us vs Q E hr e0 b r h
abbrev asgS (par : Str) (q1 q2 q3 q4 : Pos) : Stmt := .Assign [.Attribute (.Name "self" q1) par q2] (.Name par q3) q4
def codeF (z : Str) : V → List (Str × V) := fun _ => [("code", .str z)]
/-- def __init__(self): super().__init__('Z') -/
theorem init_own0 {f f2 cc cda D : Addr} {name qual z : Str} {params : Arguments} {p0 p1 apos p3 p4 p2 : Pos} {j : Nat} {scope : Scope} {dV kV doc pm ct oc : Value} {an od : Option Addr} {osl : Array (Option Value)} {pl : Sem Bool} {k : Nat} {ok : Addr → Prop}
    (lk : K.lookup f = some ⟨oc, od, .func (PySem.W.fnX name qual params [.Expr (supEx p0 p1 apos p3 (.Constant (.str z) j p2)) p4] scope [(("__class__" : Str), cc)] dV kV doc pm an (.ref cda) ct), osl⟩) (hcd : PySem.W.codeIn K (.ref cda) qual = true)
    (T : SupK P K mg f cda cc D (PySem.W.fnX name qual params [.Expr (supEx p0 p1 apos p3 (.Constant (.str z) j p2)) p4] scope [(("__class__" : Str), cc)] dV kV doc pm an (.ref cda) ct) "self")
    (S : NScope ["self", "__class__"] ["self"] ["__class__"] scope) (hks : scope.names.lookup ("super" : Str) = some .globalImplicit)
    (hev : ∀ env, SupEv p0 p1 apos p3 (.Constant (.str z) j p2) env pl) (hsw : ∀ env, swapsWith (supEx p0 p1 apos p3 (.Constant (.str z) j p2)) none p4.line env = pure false)
    (hf2 : PySem.W.fnIn K f2 = true) (ht2 : PySem.W.typeIn K (.ref f2) = some (.type "function")) (F2 : FnR P w K mg base CX0 k f2 (spI K ok 1 fun ws => (ws.map fun c => ("code", c)))) :
    FnOk P w K mg base CX0 (k + 1) f (PySem.W.fnX name qual params [.Expr (supEx p0 p1 apos p3 (.Constant (.str z) j p2)) p4] scope [(("__class__" : Str), cc)] dV kV doc pm an (.ref cda) ct) ["self"]
      (spI K (fun C => ToOwn K C D f2 ∧ ok C) 0 fun _ => [("code", .str z)]) := by
  obtain ⟨cl, cld, csl, hcell⟩ := T.cell
  refine fn_sup (k := k) lk hcd hcell S (fun vs H Q E ⟨a, C, ws, e, hl, _⟩ => by rw [e, List.length_cons, hl]; rfl) (fun L => hsw _) fun A outer s H vs Q E hr ⟨a, C, ws, e, hl, ha, hox, ⟨ho, hok⟩, hq⟩ => ?_
  obtain rfl : ws = [] := List.length_eq_zero_iff.mp hl
  subst e
  refine ⟨_, fun v H1 => ∃ dx, H dx = none ∧ dx ≠ a ∧ H1 = upd (upd H dx (exd dx [("code", .str z)])) a (exo a C (some dx)), pss_nil, fun s1 I => ?_, fun v H1 ⟨dx, h1, h2, e⟩ => ?_⟩
  · refine at_sup_own (x := a) (C := C) (dx := none) (pl := pl) (EE := fun _ _ _ => False) I (SupK.to T) ⟨ho.sub, ho.along, ho.op⟩ hf2 ht2 rfl rfl rfl rfl rfl (S.par "self" (by simp)) hks (S.frk "__class__" (by simp)) ha F2 hr (fun _ _ _ _ _ _ _ h => h.elim) (pa_cons pe_str pa_nil) ?_ (hev _)
    exact ⟨a, C, [.str z], rfl, rfl, ha, hox, hok, fun dx h1 h2 => ⟨dx, h1, h2, rfl⟩⟩
  · subst e
    exact hq dx h1 h2
/-- def __init__(self, x): super().__init__('Z'); self.x = x -/
theorem init_own1 {f f2 cc cda D : Addr} {name qual z par : Str} {params : Arguments} {p0 p1 apos p3 p4 p2 q1 q2 q3 q4 : Pos} {j : Nat} {scope : Scope} {dV kV doc pm ct oc : Value} {an od : Option Addr} {osl : Array (Option Value)} {pl : Sem Bool} {k : Nat} {ok : Addr → Prop}
    (lk : K.lookup f = some ⟨oc, od, .func (PySem.W.fnX name qual params [.Expr (supEx p0 p1 apos p3 (.Constant (.str z) j p2)) p4, asgS par q1 q2 q3 q4] scope [(("__class__" : Str), cc)] dV kV doc pm an (.ref cda) ct), osl⟩) (hcd : PySem.W.codeIn K (.ref cda) qual = true)
    (T : SupK P K mg f cda cc D (PySem.W.fnX name qual params [.Expr (supEx p0 p1 apos p3 (.Constant (.str z) j p2)) p4, asgS par q1 q2 q3 q4] scope [(("__class__" : Str), cc)] dV kV doc pm an (.ref cda) ct) "self")
    (S : NScope ["self", par, "__class__"] ["self", par] ["__class__"] scope) (hks : scope.names.lookup ("super" : Str) = some .globalImplicit)
    (hev : ∀ env, SupEv p0 p1 apos p3 (.Constant (.str z) j p2) env pl) (hsw : ∀ env, swapsWith (supEx p0 p1 apos p3 (.Constant (.str z) j p2)) none p4.line env = pure false) (hsw2 : ∀ env, swapsWith (.Name par q3) (some (.Attribute (.Name "self" q1) par q2)) q4.line env = pure false)
    (hd : (par == ("__debug__" : Str)) = false) (hdc : (par == ("__classdict__" : Str)) = false)
    (hf2 : PySem.W.fnIn K f2 = true) (ht2 : PySem.W.typeIn K (.ref f2) = some (.type "function")) (F2 : FnR P w K mg base CX0 k f2 (spI K ok 1 fun ws => (ws.map fun c => ("code", c)))) :
    FnOk P w K mg base CX0 (k + 1) f (PySem.W.fnX name qual params [.Expr (supEx p0 p1 apos p3 (.Constant (.str z) j p2)) p4, asgS par q1 q2 q3 q4] scope [(("__class__" : Str), cc)] dV kV doc pm an (.ref cda) ct) ["self", par]
      (spI K (fun C => ToOwn K C D f2 ∧ ok C ∧ PySem.W.findIn K (.ref C) par = some none) 1 fun ws => (ws.map fun c => (par, c)) ++ [(("code" : Str), V.str z)]) := by
  obtain ⟨cl, cld, csl, hcell⟩ := T.cell
  refine fn_sup (k := k) lk hcd hcell S (fun vs H Q E ⟨a, C, ws, e, hl, _⟩ => by rw [e, List.length_cons, hl]; rfl) (fun L => hsw _) fun A outer s H vs Q E hr ⟨a, C, ws, e, hl, ha, hox, ⟨ho, hok, hfi⟩, hq⟩ => ?_
  obtain ⟨c, rfl⟩ : ∃ c, ws = [c] := by
    match ws, hl with
    | [c], _ => exact ⟨c, rfl⟩
  subst e
  have v0 : Vis scope "self" := .inl (S.par "self" (by simp))
  have v1 : Vis scope par := .inl (S.par par (by simp))
  refine ⟨_, fun v H1 => ∃ dx, H dx = none ∧ dx ≠ a ∧ H1 = upd (upd H dx (exd dx [("code", .str z)])) a (exo a C (some dx)), pss_one (ps_ost (pe_var (i := 0) (x := "self") rfl v0) (pe_var (i := 1) (x := par) rfl v1 hd hdc) (hsw2 _)), fun s1 I => ?_, fun v H1 ⟨dx, h1, h2, e⟩ => ?_⟩
  · refine at_sup_own (x := a) (C := C) (dx := none) (pl := pl) (EE := fun _ _ _ => False) I (SupK.to T) ⟨ho.sub, ho.along, ho.op⟩ hf2 ht2 rfl rfl rfl rfl rfl (S.par "self" (by simp)) hks (S.frk "__class__" (by simp)) ha F2 hr (fun _ _ _ _ _ _ _ h => h.elim) (pa_cons pe_str pa_nil) ?_ (hev _)
    exact ⟨a, C, [.str z], rfl, rfl, ha, hox, hok, fun dx h1 h2 => ⟨dx, h1, h2, rfl⟩⟩
  · subst e
    refine ⟨c, rfl, .ref a, rfl, a, C, rfl, hox, hfi, .inr ⟨dx, _, upd_same, by rw [upd_ne h2, upd_same], by show 1 ≤ 900; decide, ?_⟩⟩
    have := hq dx h1 h2
    show Q .non (upd (upd (upd H dx (exd dx [("code", .str z)])) a (exo a C (some dx))) dx (exd dx [(par, c), ("code", .str z)]))
    rw [upd_comm (Ne.symm h2), upd2]
    exact this
/-- .. two of them -/
theorem init_own2 {f f2 cc cda D : Addr} {name qual z par par2 : Str} {params : Arguments} {p0 p1 apos p3 p4 p2 q1 q2 q3 q4 r1 r2 r3 r4 : Pos} {j : Nat} {scope : Scope} {dV kV doc pm ct oc : Value} {an od : Option Addr} {osl : Array (Option Value)} {pl : Sem Bool} {k : Nat} {ok : Addr → Prop}
    (lk : K.lookup f = some ⟨oc, od, .func (PySem.W.fnX name qual params [.Expr (supEx p0 p1 apos p3 (.Constant (.str z) j p2)) p4, asgS par q1 q2 q3 q4, asgS par2 r1 r2 r3 r4] scope [(("__class__" : Str), cc)] dV kV doc pm an (.ref cda) ct), osl⟩) (hcd : PySem.W.codeIn K (.ref cda) qual = true)
    (T : SupK P K mg f cda cc D (PySem.W.fnX name qual params [.Expr (supEx p0 p1 apos p3 (.Constant (.str z) j p2)) p4, asgS par q1 q2 q3 q4, asgS par2 r1 r2 r3 r4] scope [(("__class__" : Str), cc)] dV kV doc pm an (.ref cda) ct) "self")
    (S : NScope ["self", par, par2, "__class__"] ["self", par, par2] ["__class__"] scope) (hks : scope.names.lookup ("super" : Str) = some .globalImplicit)
    (hev : ∀ env, SupEv p0 p1 apos p3 (.Constant (.str z) j p2) env pl) (hsw : ∀ env, swapsWith (supEx p0 p1 apos p3 (.Constant (.str z) j p2)) none p4.line env = pure false) (hsw2 : ∀ env, swapsWith (.Name par q3) (some (.Attribute (.Name "self" q1) par q2)) q4.line env = pure false) (hsw3 : ∀ env, swapsWith (.Name par2 r3) (some (.Attribute (.Name "self" r1) par2 r2)) r4.line env = pure false)
    (hd : (par == ("__debug__" : Str)) = false) (hdc : (par == ("__classdict__" : Str)) = false) (hd2 : (par2 == ("__debug__" : Str)) = false) (hdc2 : (par2 == ("__classdict__" : Str)) = false)
    (hf2 : PySem.W.fnIn K f2 = true) (ht2 : PySem.W.typeIn K (.ref f2) = some (.type "function")) (F2 : FnR P w K mg base CX0 k f2 (spI K ok 1 fun ws => (ws.map fun c => ("code", c)))) :
    FnOk P w K mg base CX0 (k + 1) f (PySem.W.fnX name qual params [.Expr (supEx p0 p1 apos p3 (.Constant (.str z) j p2)) p4, asgS par q1 q2 q3 q4, asgS par2 r1 r2 r3 r4] scope [(("__class__" : Str), cc)] dV kV doc pm an (.ref cda) ct) ["self", par, par2]
      (spI K (fun C => ToOwn K C D f2 ∧ ok C ∧ PySem.W.findIn K (.ref C) par = some none ∧ PySem.W.findIn K (.ref C) par2 = some none) 2 fun ws => (([par, par2].zip ws).reverse) ++ [(("code" : Str), V.str z)]) := by
  obtain ⟨cl, cld, csl, hcell⟩ := T.cell
  refine fn_sup (k := k) lk hcd hcell S (fun vs H Q E ⟨a, C, ws, e, hl, _⟩ => by rw [e, List.length_cons, hl]; rfl) (fun L => hsw _) fun A outer s H vs Q E hr ⟨a, C, ws, e, hl, ha, hox, ⟨ho, hok, hfi, hfi2⟩, hq⟩ => ?_
  obtain ⟨c, c2, rfl⟩ : ∃ c c2, ws = [c, c2] := by
    match ws, hl with
    | [c, c2], _ => exact ⟨c, c2, rfl⟩
  subst e
  have v0 : Vis scope "self" := .inl (S.par "self" (by simp))
  have v1 : Vis scope par := .inl (S.par par (by simp))
  have v2 : Vis scope par2 := .inl (S.par par2 (by simp))
  refine ⟨_, fun v H1 => ∃ dx, H dx = none ∧ dx ≠ a ∧ H1 = upd (upd H dx (exd dx [("code", .str z)])) a (exo a C (some dx)), pss_cons (ps_ost (pe_var (i := 0) (x := "self") rfl v0) (pe_var (i := 1) (x := par) rfl v1 hd hdc) (hsw2 _)) (pss_one (ps_ost (pe_var (i := 0) (x := "self") rfl v0) (pe_var (i := 2) (x := par2) rfl v2 hd2 hdc2) (hsw3 _))), fun s1 I => ?_, fun v H1 ⟨dx, h1, h2, e⟩ => ?_⟩
  · refine at_sup_own (x := a) (C := C) (dx := none) (pl := pl) (EE := fun _ _ _ => False) I (SupK.to T) ⟨ho.sub, ho.along, ho.op⟩ hf2 ht2 rfl rfl rfl rfl rfl (S.par "self" (by simp)) hks (S.frk "__class__" (by simp)) ha F2 hr (fun _ _ _ _ _ _ _ h => h.elim) (pa_cons pe_str pa_nil) ?_ (hev _)
    exact ⟨a, C, [.str z], rfl, rfl, ha, hox, hok, fun dx h1 h2 => ⟨dx, h1, h2, rfl⟩⟩
  · subst e
    refine ⟨c, rfl, .ref a, rfl, a, C, rfl, hox, hfi, .inr ⟨dx, _, upd_same, by rw [upd_ne h2, upd_same], by show 1 ≤ 900; decide, ?_⟩⟩
    rw [upd_comm (Ne.symm h2), upd2]
    refine ⟨c2, rfl, .ref a, rfl, a, C, rfl, hox, hfi2, .inr ⟨dx, _, upd_same, by rw [upd_ne h2, upd_same], by show 2 ≤ 900; decide, ?_⟩⟩
    rw [upd_comm (Ne.symm h2), upd2]
    exact hq dx h1 h2
end
end DX
set_option maxHeartbeats 4000000
namespace DX
open PySem PySem.Spec PyProof.Rows L2 DL
theorem pmk_le {X : Cx} {e : Expr} {t u : L2.St → Hp → XK → Prop} (h : PMk X e t) (le : ∀ σ H Q, u σ H Q → t σ H Q) : PMk X e u := fun pins s σ H Q I q => h pins s σ H Q I (le σ H Q q)
/-- X(e, ..): an exception with its fields, over data -/
def tMkD (K : PySem.W.Frag) (E : XK) (C : Addr) (n : Nat) (fs : List D → List (Str × D)) (m : MA) : L2.St → Hp → XK → Prop := fun σ H Q => ∃ M S Γ kr kx, R K M S H ∧ EnvR K (hid M S H) Γ σ ∧
  m Γ M (fun ds M1 => ds.length = n ∧ kr ⟨.ref C, some (fs ds)⟩ M1) kx ∧ KeepX K S (hid M S H) kr Q ∧ KeepX K S (hid M S H) kx E
/-- the fields of data stand for the fields of values -/
def FsOk (K : PySem.W.Frag) (n : Nat) (fd : List D → List (Str × D)) (fv : List V → List (Str × V)) : Prop := ∀ F ds vs, DVs K F ds vs → ds.length = n → KVD K F (fd ds) (fv vs)
/-- raise X(e, ..) -/
def mRaise (C : Addr) (n : Nat) (fs : List D → List (Str × D)) (m : MA) : MS := fun De Γ M kx => m Γ M (fun ds M1 => ds.length = n ∧ kx ⟨.ref C, some (fs ds)⟩ M1) kx
section
variable {X : Cx} {e : Expr} {es : List Expr} {E : XK} {mA : MA} {p pos rpos : Pos} {x : Str} {C fI : Addr} {k n : Nat} {fd : FuncData} {ps : List Str} {ok : Addr → Prop} {fs : List V → List (Str × V)} {fsD : List D → List (Str × D)}
theorem made2 {H1 : Hp} {a d : Addr} {fv : List (Str × V)} {o1 o2 o3 : HO} (ha : H1 a = none) (hd : d ≠ a) : upd (del (upd (upd (upd H1 a o1) d o2) a o3) a) d (.xd fv) = upd H1 d (.xd fv) := by
  funext b
  by_cases e1 : b = d
  · rw [e1, upd_same, upd_same]
  · rw [upd_ne e1, upd_ne e1]
    by_cases e2 : b = a
    · rw [e2, del_same, ha]
    · rw [del_ne e2, upd_ne e2, upd_ne e1, upd_ne e2]
theorem pmk_err (T : OexC X.K C) (iC : PySem.W.findIn X.K (.ref C) "__init__" = some (some (.ref fI))) (tI : PySem.W.typeIn X.K (.ref fI) = some (.type "function"))
    (F1 : FnOk X.prog X.w X.K X.mg X.base CX0 k fI fd ps (DX.spI X.K ok n fs)) (hok : ok C) (hn : n ≤ 1000) (hr : Room (k + 1) X.A) (hb : Binds X.K fd ps []) (hg : Gl X x) (hm : X.mg x = some (.ref C)) (hfs : FsOk X.K n fsD fs) (ha : PA X (e :: es) (tA X.K E mA))
    (hdb : (x == ("__debug__" : Str)) = false := by decide) (he : starEach (e :: es) X.env = (false, eval e X.env) :: starEach es X.env := by rfl) (hpl : (backTo pos (starEach es X.env)).any (·.1) = false := by rfl) :
    PMk X (.Call (.Name x p) (e :: es) [] pos) (tMkD X.K E C n fsD mA) := by
  refine pmk_le (pmk_oex T iC tI F1 hr hb .nil (fun _ _ _ _ _ _ _ h => h.elim) hg hm ha hdb he hpl) fun σ H Q ⟨M, S, Γ, kr, kx, r, er, h, kq, kxx⟩ => ?_
  refine ⟨M, S, Γ, _, kx, r, er, h, fun ds M1 ⟨hl, q⟩ H1 vs r1 e1 d1 => ?_, kxx⟩
  have hv : vs.length = n := by rw [← d1.length]; exact hl
  refine ⟨by omega, fun a hn0 => ⟨a, C, vs ++ [], rfl, by rw [List.append_nil]; exact hv, upd_same, T, hok, fun dx h1 h2 => ?_⟩⟩
  rw [upd_ne h2] at h1
  refine ⟨rfl, dx, fs (vs ++ []), upd_same, by rw [upd_ne h2, upd_same], h1, ?_⟩
  rw [made2 hn0 h2, List.append_nil]
  obtain ⟨g1, g2, g3⟩ := r1.new (o := .xd (fs vs)) h1
  exact kq _ M1 q _ _ _ g1 (e1.trans g2) ⟨rfl, dx, fs vs, rfl, g3, KVD.mono g2 (hfs _ _ _ d1 hl)⟩
theorem ds_raise {ce : Expr} (hc : X.calm = true) (tk : Takes X fun c d _ H => E c d H) (mk : PMk X ce (tMkD X.K E C n fsD mA)) : PS X (.Raise (some ce) none rpos) (tSt X.K E (mRaise C n fsD mA)) :=
  ps_le (ps_raise hc tk mk) fun D σ H ⟨M, S, Γ, De, kx, r, er, h, h1, h2, h3, h4, h5⟩ => ⟨M, S, Γ, kx, kx, r, er, h, h5, h5⟩
end
end DX
set_option maxHeartbeats 4000000
namespace DX
open PySem PySem.Spec PyProof.Rows L2 DL
section
variable {P : Program} {w : World} {K : PySem.W.Frag} {mg : Str → Option Value} {base : Heap} {x qual : Str} {params : Arguments} {body : List Stmt} {scope : Scope} {dvs : List V} {kws : List (Str × V)} {f : Addr} {fd : FuncData}
/-- what leaves a def that may raise -/
theorem takesX {N : List Str} {cdv : Value} {A : Around} {outer : List PySem.Env} {sh : Shared} {H : Hp} {E : XK} : Takes (cxOf (L2.CX P w) P w K mg base N qual scope f cdv A outer sh H E) fun c d _ H' => E c d H' := takes_of rfl rfl rfl rfl
/-- a def that may raise, by its reading -/
theorem d_okX {N ps : List Str} {k : Nat} {m : MS} {s : MF} (F : FunD K x qual params body scope dvs kws f fd) (S : FnScope N ps scope)
    (hb : ∀ (cdv : Value) (A : Around) (outer : List PySem.Env) (sh : Shared) (H : Hp) (E : XK), Room k (A.deeper (envOfC qual scope sh.heap.objs.size f cdv)) → PSs (cxOf (L2.CX P w) P w K mg base N qual scope f cdv A outer sh H E) body (tSt K E m))
    (len : ∀ ds M k kx, s ds M k kx → ds.length = ps.length)
    (hs : ∀ ds M k kx, s ds M k kx → m { nx := fun _ M' => k .non M', rt := k } (startD N.length ds) M kx) : FnOk P w K mg base (L2.CX P w) (k + 1) f fd ps (DL.spI K s) := by
  refine F.ok S (fun vs H Q E ⟨M, S, ds, k, kx, r, hd, h, _⟩ => by rw [← hd.length]; exact len _ _ _ _ h) fun cdv A outer sh H vs Q E hr ⟨M, S, ds, k, kx, r, hd, h, kv, kxx⟩ => ⟨_, hb cdv A outer sh H E hr, ?_⟩
  exact ⟨M, S, _, _, kx, r, start_ok hd, hs _ _ _ _ h, fun Γ' M' q H' σ' r' e' er' => kv _ M' q H' _ r' e' (dv_non.mpr rfl), kv, fun Γ' M' q => q.elim, fun Γ' M' q => q.elim, kxx⟩
/-- a call of a def that may raise -/
theorem passX {X : Cx} {E : XK} (tk : Takes X fun c d _ H => E c d H) : Passes (L2.CX X.prog X.w) X E := passes_call tk fun _ _ _ _ h => h
end
end DX
set_option maxHeartbeats 4000000
namespace DX
open PySem PySem.Spec PyProof.Rows L2
theorem fly_up {base h1 h2 : Heap} {l : List PySem.Env} {e : Addr} {Z : Obj → Prop} (k : ∀ b o, h1.get? b = some o → h2.get? b = some o) (fl : HandSPX.FlyingZ base l e Z h1) : HandSPX.FlyingZ base l e Z h2 := by
  obtain ⟨g1, g2, g3, oe, vs, T, oT, ts, i1, i2, i3, i4, i5, i6, i7, i8, i9⟩ := fl
  exact ⟨fun b o q => k b o (g1 b o q), g2, Heap.FunFrames.of_keeps (fun b o q _ => ⟨o, k b o q, rfl⟩) g3, oe, vs, T, oT, ts, k _ _ i1, i2, i3, i4, i5, i6, k _ _ i7, i8, i9⟩
theorem slots_up {h1 h2 : Heap} (k : ∀ b o, h1.get? b = some o → h2.get? b = some o) : h1.UpToSlots h2 := fun b o q _ => ⟨o.slots, k b o q⟩
/-- an exception that the clause takes: slot i is the clause's name -/
def wTake (K : PySem.W.Frag) (cs : List Value) (n i : Nat) (ts : Addr → Value → Option Addr → TS) (D : Ends) : WX := fun cls d σ H => PySem.W.exmAny K cls cs = some true ∧
  (σ.length = n → ∀ a, H a = none → ts a cls d { nx := fun σ' H' => D.nx (σ'.set i none) H', rt := D.rt, bk := fun σ' H' => D.bk (σ'.set i none) H', ct := fun σ' H' => D.ct (σ'.set i none) H' } (σ.set i (some (.ref a))) H)
section
variable {X : Cx} {x1 x2 x3 n : Str} {c1 c2 c3 : Value} {i kk : Nat} {body suite : List Stmt} {b₀ : Stmt} {np1 np2 np3 tpos pos pos' : Pos} {tb : WX → TS} {ts : Addr → Value → Option Addr → TS}
/-- try: body / except (x1, x2, x3) as n: suite, where all that is raised is taken -/
theorem ps_try3 (hs : X.stack = X.env :: X.outer) (hf : X.env.frame = some X.env.locals) (hN : X.N.Nodup) (hi : X.N[i]? = some n) (hln : X.env.kindOf n = some .local) (m1 : Names X x1 c1) (m2 : Names X x2 c2) (m3 : Names X x3 c3)
    (hb : ∀ (W : WX) (pn : List (Addr × Obj)) (xe : Value → Shared → Prop), Takes (X.tr pn xe) W → PassesOwn (model X.prog X.w) X.A X.env xe → PSs (X.tr pn xe) body (tb W))
    (hsu : ∀ (a : Addr) (oe : Obj) (cls : Value) (d : Option Addr) (pn : List (Addr × Obj)), Zc cls d oe → (∃ vs, oe.data = .fields vs) → PSs (X.suite a ((a, oe) :: pn)) (b₀ :: suite) (ts a cls d)) :
    PS X (.Try body [.ExceptHandler (some (.Tuple [.Name x1 np1, .Name x2 np2, .Name x3 np3] kk tpos)) (some n) (b₀ :: suite) pos'] [] [] pos) (fun D σ H => tb (wTake X.K [c1, c2, c3] X.N.length i ts D) D σ H) := by
  refine ⟨fun pins s σ H D I h => wpAny_Try_except ?_⟩
  have ok := I.ok
  have hfr : X.A.frames = some (X.env :: X.outer) := ok.frames.trans (congrArg some hs)
  refine wpAny_mono ((hb (wTake X.K [c1, c2, c3] X.N.length i ts D) (X.pn ++ pins) _ (fun u s' xx => ?_) PassesOwn.looking).run [] s σ H D (I.toTry _) h) (fun fl s1 hsp => ?_) (fun _ _ z => z)
  rotate_left
  · cases fl with
    | next => obtain ⟨σ1, H1, J1, q⟩ := hsp; exact wpAny_execs_nil ⟨σ1, H1, J1.ofTry ok, q⟩
    | brk => obtain ⟨σ1, H1, J1, q⟩ := hsp; exact ⟨σ1, H1, J1.ofTry ok, q⟩
    | cont => obtain ⟨σ1, H1, J1, q⟩ := hsp; exact ⟨σ1, H1, J1.ofTry ok, q⟩
    | ret u => obtain ⟨v, σ1, H1, J1, r, q⟩ := hsp; exact ⟨v, σ1, H1, J1.ofTry ok, r, q⟩
  obtain ⟨a, B, sI, pins1, σ1, H1, cls, d, rfl, J0, nb, up, sky, na, os, ag, hm, hyes⟩ := xx
  have J : Inv X pins σ1 H1 sI := J0.ofTry ok
  rw [show (X.tr (X.pn ++ pins) _).stack = X.env :: X.outer from hs] at sky
  refine Sky.land Zc.steady hfr hf sky fun h3 fl3 up3 => ?_
  have J3 : Inv X pins σ1 H1 { s' with heap := h3 } := J.landed nb fl3.1 (up.trans up3) os ag
  have off : ∀ {hh : Heap}, HandSPX.FlyingZ B (X.env :: X.outer) a (Zc cls d) hh → ∃ o vs, hh.get? a = some o ∧ Zc cls d o ∧ o.data = .fields vs ∧ a ∉ frs (X.env :: X.outer) := fun {hh} fl => by
    obtain ⟨o, vs, e1, e2, e3⟩ := fl.there
    refine ⟨o, vs, e1, e2, e3, fun hm => ?_⟩
    obtain ⟨_, o2, e4, hnf⟩ := fl.2.2.1.mem hm
    cases e1.symm.trans e4
    exact hnf _ e3
  obtain ⟨oe3, vs3, he3, hz3, hd3, nfr⟩ := off fl3
  have nL : a ≠ X.env.locals := fun z => nfr (List.mem_filterMap.mpr ⟨X.env, List.mem_cons_self, hf.trans (congrArg some z.symm)⟩)
  have nF : a ∉ X.fs := fun hm => by
    obtain ⟨en, he, q⟩ := List.mem_filterMap.mp hm
    exact nfr (List.mem_filterMap.mpr ⟨en, List.mem_cons_of_mem _ he, q⟩)
  have S3 := J3.suite he3 hd3 na nL nF
  have LT : PySem.W.Looks (model X.prog X.w) h3 (typeOf (.ref a)) cls := fun A Q E s k q => wpAny_typeOf_ref (k _ _ he3) (by rw [hz3.1]; exact q)
  have nm : ∀ {x : Str} {c : Value} {np : Pos}, Names X x c → ∀ {Q : Value → Shared → Prop} {E : Value → Shared → Prop}, Q c { s' with heap := h3 } → wpAny (model X.prog X.w) (X.A.mark (some (.ref a))) (eval (.Name x np) X.env) Q E { s' with heap := h3 } := fun {x c np} hc {Q E} q => by
    obtain ⟨hg, hdbg, hm | ⟨hm, hv, hnn⟩⟩ := hc
    · exact ld_glob (X := X.suite a ((a, oe3) :: (X.pn ++ pins))) S3 hg hm q hdbg
    · exact ld_blt (X := X.suite a ((a, oe3) :: (X.pn ++ pins))) S3 hg hm hv q hnn hdbg
  refine wpAny_handleBy_cons (codeAny_handlers_test (wpAny_Tuple (wpAny_items_cons (nm m1 (wpAny_items_cons (nm m2 (wpAny_items_cons (nm m3 (wpAny_items_nil ⟨by size_fits, ?_⟩)))))))) ) (by intro q; cases q)
  have kp : ∀ q o, h3.get? q = some o → (h3.push { cls := .type "tuple", data := .seq [c1, c2, c3].toArray }).get? q = some o := fun _ _ z => Heap.get?_push_of_some _ z
  refine (PySem.W.exm_tup3 (J3.kIn.keeps kp) (LT.keeps kp) (Heap.get?_push_size h3 rfl) hm).here ?_
  refine codeAny_handlers_suite_as (HandSPX.lands_againZ (fly_up kp fl3) fun h4 fl4 up4 => ?_)
  have J4 : Inv X pins σ1 H1 { s' with heap := h4 } := J.landed nb fl4.1 (((up.trans up3).trans (slots_up kp)).trans up4) os ag
  obtain ⟨oe4, vs4, he4, hz4, hd4, _⟩ := off fl4
  refine store_ok (X := X.suite a ((a, oe4) :: (X.pn ++ pins))) (v := .ref a) (J4.suite he4 hd4 na nL nF) hN hi (.inl hln) rfl (fun s5 S5 => ?_) (.inr hln)
  refine wpAny_mono ((hsu a oe4 cls d (X.pn ++ pins) hz4 ⟨_, hd4⟩).run [] s5 _ H1 _ S5 (hyes J.len a na)) (fun fl s6 hsp => ?_) (fun _ _ z => False.elim z)
  have gone : ∀ {σ6 : L2.St} {H6 : Hp} {Q : Shared → Prop}, Inv (X.suite a ((a, oe4) :: (X.pn ++ pins))) [] σ6 H6 s6 → (∀ s7, Inv X pins (σ6.set i none) H6 s7 → Q s7) →
      wpAny (model X.prog X.w) X.A (do bindName X.env n .none; unbindBehindTheSuite X.env n pos') (fun _ s7 => Q s7) X.xe s6 := fun {σ6 H6 Q} S6 hq => gone_ok (S6.unsuite ok) hN hi hln hq
  cases fl with
  | next => obtain ⟨σ6, H6, S6, q6⟩ := hsp; exact gone S6 fun s7 J7 => ⟨_, _, J7, q6⟩
  | brk => obtain ⟨σ6, H6, S6, q6⟩ := hsp; exact gone S6 fun s7 J7 => ⟨_, _, J7, q6⟩
  | cont => obtain ⟨σ6, H6, S6, q6⟩ := hsp; exact gone S6 fun s7 J7 => ⟨_, _, J7, q6⟩
  | ret u => obtain ⟨v6, σ6, H6, S6, r6, q6⟩ := hsp; exact gone S6 fun s7 J7 => ⟨_, _, _, J7, r6, q6⟩
end
end DX
set_option maxHeartbeats 4000000
namespace DX
open PySem PySem.Spec PyProof.Rows L2
/-- the reading of e.f, e the exception at a that the context keeps -/
abbrev PinX (X : Cx) (a : Addr) (oe : Obj) (cls : Value) (d : Option Addr) : Prop := (a, oe) ∈ X.pn ∧ Zc cls d oe ∧ ∃ vs, oe.data = .fields vs
theorem pe_field {X : Cx} {a C : Addr} {oe : Obj} {cls : Value} {d : Option Addr} {e : Expr} {te : TE} {pos : Pos} {n : Str} (T : XfC X.K C) (hno : PySem.W.findIn X.K (.ref C) n = some none) (hp : PinX X a oe cls d)
    (he : PE X e te) (hb : attributeBase e n X.env (eval e X.env) = eval e X.env := by rfl) : PE X (.Attribute e n pos) (tXf a cls d C n te) := by
  obtain ⟨hm, hz, vs, hd⟩ := hp
  refine ⟨fun pins s σ H Q I h => attr_of hb (thn (he.run pins s σ H _ I h) fun u s1 hh => ?_)⟩
  obtain ⟨x, H1, I1, rx, ex, ec, dd, fs, v, ed, ea, l, q⟩ := hh
  subst ex ec ed
  cases (show u = Value.ref a from rx)
  have hx : ObjOk X.prog X.w H1 s1.heap dd (.xd fs) := I1.hok dd _ ea
  obtain ⟨mA, hns, hr⟩ := hx
  obtain ⟨od, ho, hl⟩ := lookIn_ns hns
  obtain ⟨u2, hu, ru⟩ := RelO.some_of (v := v) (o := mA n) (l ▸ hr n)
  have J : PySem.W.InstAt s1.heap a oe C (some od) := ⟨(I1.pin (a, oe) (List.mem_append_left _ hm)).1, hz.1, by unfold PySem.W.notCls; rw [hd] <;> rfl, by rw [hz.2]; exact ho⟩
  exact HandSPX.exc_get I1.kIn J T.ga T.gg T.exC (PySem.W.findObj_own T.hdC hno rfl (by rw [hl, hu])) (handed_of ru) ⟨v, H1, I1.tok _, ru, q⟩
/-- a def that is called where p's exception is handled: its promise may speak of p -/
structure FnE (P : Program) (w : World) (K : PySem.W.Frag) (mg : Str → Option Value) (base : Heap) (k : Nat) (f : Addr) (fd : FuncData) (ps : List Str) (sp : Addr × Obj → Sp) : Prop where
  len : ∀ p vs H Q E, sp p vs H Q E → vs.length = ps.length
  run : ∀ (A : Around) (outer : List PySem.Env) (s : Shared) (H : Hp) (args : Args) (us : List Value) (vs : List V) (Q : VK) (E : XK) (p : Addr × Obj), L2H.RoomH k A → L2H.PinOk outer H s p → Env0 P w K mg base A outer s H → BindsTo s fd args (ps.zip us) → Vals vs us → sp p vs H Q E →
    codeAny (model P w) A (.call (.ref f) args) (CR CX0 outer P w H s Q E) s
theorem fn_e {P : Program} {w : World} {K : PySem.W.Frag} {mg : Str → Option Value} {base : Heap} {k : Nat} {f : Addr} {x qual : Str} {params : Arguments} {body : List Stmt} {scope : Scope} {kws : List (Str × V)} {dvs : List V} {fd : FuncData} {N ps : List Str} {sp : Addr × Obj → Sp}
    (F : FunD K x qual params body scope dvs kws f fd) (S : FnScope N ps scope) (len : ∀ p vs H Q E, sp p vs H Q E → vs.length = ps.length)
    (hbody : ∀ (cdv : Value) (A : Around) (outer : List PySem.Env) (s : Shared) (H : Hp) (vs : List V) (Q : VK) (E : XK) (p : Addr × Obj), L2H.RoomH k (A.deeper (envOfC qual scope s.heap.objs.size f cdv)) → sp p vs H Q E →
      ∃ t, PSs (L2H.cxH CX0 P w K mg base N qual scope f cdv A outer s H E p) body t ∧ t { nx := fun _ H' => Q .non H', rt := Q } (L2.start N vs) H) :
    FnE P w K mg base (k + 1) f fd ps sp := by
  obtain ⟨oc, od, dV, kV, doc, pm, an, cdv, ct, osl, rfl, lk, hcd, _, _⟩ := F.ex
  refine ⟨len, fun A outer s H args us vs Q E p hr hpin e0 hb r hsp => ?_⟩
  have up := fun b o e => (e0.bs b o e).1
  have KX : K.In s.heap := e0.mod.kin.keeps up
  refine codeAny_call_function hr.depth (KX _ _ lk) rfl S.co S.gen rfl (PySem.W.codeRec_of KX hcd) (hb _ _ _ _ (wpAny_newFunctionEnv_cells S.kind (fun y hy => ?_) fun env he s1 z => ?_))
  · rcases S.par y.1 (List.of_mem_zip (a := y.1) (b := y.2) hy).1 with g | g
    · exact .inl g
    · exact .inr ⟨g, PySem.W.cellsFrom_some _ _ _ (.inl g)⟩
  subst he
  obtain ⟨t, ht, hq⟩ := hbody cdv A outer s H vs Q E p (hr.deeper _) hsp
  refine ⟨(e0.mod.nolimit.keeps up).keeps z.toInCall.keep, codeAny_func (wpAny_mono (ht.run [] s1 (L2.start N vs) H _ (L2H.inv_startH S hpin e0 (len _ _ _ _ _ hsp) r z) hq) (fun fl s2 hs => ?_) fun _ _ h => h)⟩
  cases fl with
  | ret u => obtain ⟨v, σ2, H2, J, rv, q⟩ := hs; exact ⟨v, H2, J.os, J.bare, J.base, J.hok, rv, q⟩
  | next => obtain ⟨σ2, H2, J, q⟩ := hs; exact ⟨.non, H2, J.os, J.bare, J.base, J.hok, rfl, q⟩
  | brk => obtain ⟨_, _, _, q⟩ := hs; exact q.elim
  | cont => obtain ⟨_, _, _, q⟩ := hs; exact q.elim
/-- f(e, ..) in a suite: p is pinned there -/
def tCallE (sp : Addr × Obj → Sp) (p : Addr × Obj) (ta : TA) : TE := fun σ H Q => ta σ H fun vs H1 => sp p vs H1 Q fun _ _ _ => False
theorem pe_callE {X : Cx} {k : Nat} {f : Addr} {fd : FuncData} {ps : List Str} {sp : Addr × Obj → Sp} {p : Addr × Obj} {x : Str} {q pos : Pos} {e : Expr} {es : List Expr} {ta : TA} (F : FnE X.prog X.w X.K X.mg X.base k f fd ps sp) (hr : L2H.RoomH k X.A) (hp : p ∈ X.pn) (hg : Gl X x) (hm : X.mg x = some (.ref f)) (hk : PySem.W.keepIn X.K (.ref f) = true) (hb : Binds X.K fd ps [])
    (ha : PA X (e :: es) ta) (hdb : (x == ("__debug__" : Str)) = false := by decide) (he : starEach (e :: es) X.env = (false, eval e X.env) :: starEach es X.env := by rfl) (hpl : (backTo pos (starEach es X.env)).any (·.1) = false := by rfl) :
    PE X (.Call (.Name x q) (e :: es) [] pos) (tCallE sp p ta) := by
  refine ⟨fun pins s σ H Q I h => wpAny_Call_Name_kw (ld_glob I hg hm ?_ hdb)⟩
  refine PySem.W.callWith_K (h₀ := X.base) I.ok.mod.kin hk (thn (ha.run pos pins s σ H _ I h) fun us s1 ⟨vs, H1, I1, r, hq⟩ => ⟨I1.kIn, ?_⟩) he hpl
  have hl : us.length = ps.length := r.length.symm.trans (F.len _ _ _ _ _ hq)
  have b := hb s1 us I1.kIn ((List.append_nil us).symm ▸ hl)
  rw [List.append_nil] at b
  have P1 := I1.pin p (List.mem_append_left _ hp)
  show wpAny _ _ (call (.ref f) us) _ _ _
  refine wpAny_call (codeAny_mono (F.run X.A X.stack s1 H1 ⟨us, []⟩ us vs Q _ p hr ⟨P1.1, P1.2.1, fun hm => (List.mem_cons.mp (I1.stkSub p.1 hm)).elim P1.2.2.1 P1.2.2.2.1, P1.2.2.2.2⟩ I1.env0 b r hq) fun r s2 hr2 => ?_)
  cases r with
  | error _ => exact (show False from hr2).elim
  | ok fl => cases fl with
    | ret u => exact I1.after hr2
    | next => exact False.elim hr2
    | brk => exact False.elim hr2
    | cont => exact False.elim hr2
end DX
set_option maxHeartbeats 4000000
namespace DX
open PySem PySem.Spec PyProof.Rows L2 DL
theorem look_zip {K : PySem.W.Frag} {F : Hp} {n : Str} : ∀ {ns : List Str} {ds : List D} {vs : List V} {d : D}, DVs K F ds vs → (ns.zip ds).lookup n = some d → ∃ v, (ns.zip vs).lookup n = some v ∧ DV K F d v
  | [], ds, vs, d, _, h => by
    rw [List.zip_nil_left] at h
    cases h
  | m :: ns, [], vs, d, _, h => by
    rw [List.zip_nil_right] at h
    cases h
  | m :: ns, e :: ds, vs, d, hd, h => by
    obtain ⟨v, r, rfl, g1, g2⟩ := dvs_cons.mp hd
    rw [List.zip_cons_cons, List.lookup_cons] at h ⊢
    cases q : n == m with
    | true =>
      rw [q] at h
      cases h
      exact ⟨v, rfl, g1⟩
    | false =>
      rw [q] at h
      exact look_zip g2 h
/-- e.f of the handled exception, over data -/
def mFld (a dd : Addr) (n : Str) (me : ME) : ME := fun Γ M k kx => me Γ M (fun d M1 => ∃ ns ds v, d = .exc a dd ns ds ∧ (ns.zip ds).lookup n = some v ∧ k v M1) kx
theorem de_fld {X : Cx} {E : XK} {a dd C : Addr} {oe : Obj} {e : Expr} {me : ME} {pos : Pos} {n : Str} (T : XfC X.K C) (hno : PySem.W.findIn X.K (.ref C) n = some none) (hp : PinX X a oe (.ref C) (some dd)) (he : PE X e (tI X.K E me)) (hb : attributeBase e n X.env (eval e X.env) = eval e X.env := by rfl) :
    PE X (.Attribute e n pos) (tI X.K E (mFld a dd n me)) := by
  refine pe_le (pe_field T hno hp he hb) fun σ H Q ⟨M, S, Γ, k, kx, r, er, h, kv, kxx⟩ => ?_
  refine ⟨M, S, Γ, _, kx, r, er, h, fun d M1 ⟨ns, ds, v, ed, el, q⟩ H1 x r1 e1 d1 => ?_, kxx⟩
  subst ed
  obtain ⟨g1, vs, g2, g3⟩ := dv_exc.mp d1
  obtain ⟨u, g4, g5⟩ := look_zip g3 el
  exact ⟨g1, rfl, dd, _, u, rfl, hid_le _ _ _ _ _ g2, g4, kv _ M1 q H1 u r1 e1 g5⟩
end DX
set_option maxHeartbeats 4000000
namespace DX
open PySem PySem.Spec PyProof.Rows L2 DL
/-- the promise of a def that is called with the handled exception, over data: a where it stands, dd its dict -/
def spE (K : PySem.W.Frag) (ok : Addr → Prop) (s : Addr → Addr → MF) : Addr × Obj → Sp := fun p vs H Q _ => ∃ C dd M S ds k, ok C ∧ Zc (.ref C) (some dd) p.2 ∧ (∃ fv, p.2.data = .fields fv) ∧ R K M S H ∧ DVs K (hid M S H) ds vs ∧ s p.1 dd ds M k noX ∧ KeepV K S (hid M S H) k Q
section
variable {P : Program} {w : World} {K : PySem.W.Frag} {mg : Str → Option Value} {base : Heap} {x qual : Str} {params : Arguments} {body : List Stmt} {scope : Scope} {dvs : List V} {kws : List (Str × V)} {f : Addr} {fd : FuncData}
theorem d_okE {N ps : List Str} {k : Nat} {ok : Addr → Prop} {m : Addr → Addr → MS} {s : Addr → Addr → MF} (F : FunD K x qual params body scope dvs kws f fd) (S : FnScope N ps scope)
    (hb : ∀ (cdv : Value) (A : Around) (outer : List PySem.Env) (sh : Shared) (H : Hp) (E : XK) (p : Addr × Obj) (C dd : Addr), L2H.RoomH k (A.deeper (envOfC qual scope sh.heap.objs.size f cdv)) → ok C →
      PinX (L2H.cxH CX0 P w K mg base N qual scope f cdv A outer sh H E p).nox p.1 p.2 (.ref C) (some dd) → PSs (L2H.cxH CX0 P w K mg base N qual scope f cdv A outer sh H E p).nox body (tSt K E0 (m p.1 dd)))
    (len : ∀ a dd ds M k kx, s a dd ds M k kx → ds.length = ps.length)
    (hs : ∀ a dd ds M k, s a dd ds M k noX → m a dd { nx := fun _ M' => k .non M', rt := k } (startD N.length ds) M noX) : FnE P w K mg base (k + 1) f fd ps (spE K ok s) := by
  refine fn_e F S (fun p vs H Q E ⟨C, dd, M, T, ds, k, _, _, _, _, hd, h, _⟩ => by rw [← hd.length]; exact len _ _ _ _ _ _ h) fun cdv A outer sh H vs Q E p hr ⟨C, dd, M, T, ds, k, h1, h2, h3, r, hd, h, kv⟩ => ?_
  refine ⟨_, PSs.nox (hb cdv A outer sh H E p C dd hr h1 ⟨List.mem_singleton.mpr rfl, h2, h3⟩), ?_⟩
  exact ⟨M, T, _, _, noX, r, start_ok hd, hs _ _ _ _ _ h, fun Γ' M' q H' σ' r' e' er' => kv _ M' q H' _ r' e' (dv_non.mpr rfl), kv, fun Γ' M' q => q.elim, fun Γ' M' q => q.elim, fun _ _ q => q.elim⟩
end
/-- f(e, ..) in the suite, over data -/
theorem de_callE {X : Cx} {E : XK} {k : Nat} {f a dd C : Addr} {oe : Obj} {fd : FuncData} {ps : List Str} {ok : Addr → Prop} {s : Addr → Addr → MF} {x : Str} {q pos : Pos} {e : Expr} {es : List Expr} {mA : MA} (F : FnE X.prog X.w X.K X.mg X.base k f fd ps (spE X.K ok s)) (hok : ok C) (hr : L2H.RoomH k X.A) (hp : PinX X a oe (.ref C) (some dd))
    (hg : Gl X x) (hm : X.mg x = some (.ref f)) (hk : PySem.W.keepIn X.K (.ref f) = true) (hb : Binds X.K fd ps []) (ha : PA X (e :: es) (tA X.K E mA))
    (hdb : (x == ("__debug__" : Str)) = false := by decide) (he : starEach (e :: es) X.env = (false, eval e X.env) :: starEach es X.env := by rfl) (hpl : (backTo pos (starEach es X.env)).any (·.1) = false := by rfl) :
    PE X (.Call (.Name x q) (e :: es) [] pos) (tI X.K E (fun Γ M k kx => mA Γ M (fun ds M1 => s a dd ds M1 k noX) kx)) := by
  refine pe_le (pe_callE F hr hp.1 hg hm hk hb ha hdb he hpl) fun σ H Q ⟨M, S, Γ, k, kx, r, er, h, kv, kxx⟩ => ?_
  exact ⟨M, S, Γ, _, kx, r, er, h, fun ds M1 q1 H1 vs r1 e1 d1 => ⟨C, dd, M1, S, ds, k, hok, hp.2.1, hp.2.2, r1, d1, q1, kv.ex e1⟩, kxx⟩
end DX
set_option maxHeartbeats 4000000
namespace DX
open PySem PySem.Spec PyProof.Rows L2 DL
theorem kvd_zip {K : PySem.W.Frag} {F : Hp} : ∀ {ns : List Str} {ds : List D} {ps : List (Str × V)}, ns.length = ds.length → KVD K F (ns.zip ds) ps → ∃ vs, ps = ns.zip vs ∧ DVs K F ds vs
  | [], [], ps, _, h => ⟨[], h, dvs_nil.mpr rfl⟩
  | [], _ :: _, _, e, _ => by cases e
  | _ :: _, [], _, e, _ => by cases e
  | n :: ns, d :: ds, ps, e, h => by
    obtain ⟨v, t, rfl, h2, h3⟩ := h
    obtain ⟨vs, rfl, h4⟩ := kvd_zip (Nat.succ.inj e) h3
    exact ⟨v :: vs, rfl, dvs_cons.mpr ⟨v, vs, rfl, h2, h4⟩⟩
/-- try: body / except (..) as n: suite, the suite returns -/
def mTry (n i : Nat) (ok : Addr → Prop) (mb : MS) (ms : Addr → Addr → Addr → MS) : MS := fun De Γ M _ => mb De Γ M fun x M1 => ∃ C ns ds, x.cls = .ref C ∧ x.fs = some (ns.zip ds) ∧ ns.length = ds.length ∧ ok C ∧
  ∀ a dd, ms a dd C { nx := fun _ _ => False, rt := De.rt } ((List.replicate n none).set i (some (.exc a dd ns ds))) M1 noX
section
variable {X : Cx} {E : XK} {x1 x2 x3 nm : Str} {c1 c2 c3 : Value} {i kk : Nat} {body suite : List Stmt} {b₀ : Stmt} {np1 np2 np3 tpos pos pos' : Pos} {ok : Addr → Prop} {mb : MS} {ms : Addr → Addr → Addr → MS}
theorem ds_try3 (hs : X.stack = X.env :: X.outer) (hf : X.env.frame = some X.env.locals) (hN : X.N.Nodup) (hi : X.N[i]? = some nm) (hln : X.env.kindOf nm = some .local) (m1 : Names X x1 c1) (m2 : Names X x2 c2) (m3 : Names X x3 c3)
    (hex : ∀ C, ok C → PySem.W.exmAny X.K (.ref C) [c1, c2, c3] = some true)
    (hb : ∀ (E' : XK) (pn : List (Addr × Obj)) (xe : Value → Shared → Prop), (Takes (X.tr pn xe) fun c d _ H => E' c d H) → PSs (X.tr pn xe) body (tSt X.K E' mb))
    (hsu : ∀ (a dd C : Addr) (oe : Obj) (pn : List (Addr × Obj)), ok C → PinX (X.suite a ((a, oe) :: pn)) a oe (.ref C) (some dd) → PSs (X.suite a ((a, oe) :: pn)) (b₀ :: suite) (tSt X.K E0 (ms a dd C))) :
    PS X (.Try body [.ExceptHandler (some (.Tuple [.Name x1 np1, .Name x2 np2, .Name x3 np3] kk tpos)) (some nm) (b₀ :: suite) pos'] [] [] pos) (tSt X.K E (mTry X.N.length i ok mb ms)) := by
  refine ps_le (ps_try3 (tb := fun W D σ H => ∃ Ech : XK, (∀ cls d σ' H', Ech cls d H' → W cls d σ' H') ∧ tSt X.K Ech mb D σ H) (ts := fun a cls d D σ H => ∃ C dd, cls = .ref C ∧ d = some dd ∧ ok C ∧ tSt X.K E0 (ms a dd C) D σ H) hs hf hN hi hln m1 m2 m3 (fun W pn xe tk _ => ?_) fun a oe cls d pn hz hfv => ?_) fun D σ H ⟨M, S, Γ, De, kx, r, er, h, h1, h2, h3, h4, h5⟩ => ?_
  · exact ⟨fun pins s σ H D I ⟨Ech, hW, q⟩ => (hb Ech pn xe (tk.imp fun c d σ H z => hW c d σ H z)).run pins s σ H D I q⟩
  · exact ⟨fun pins s σ H D I ⟨C, dd, e1, e2, hok, q⟩ => by
      subst e1 e2
      exact (hsu a dd C oe pn hok ⟨List.mem_cons_self, hz, hfv⟩).run pins s σ H D I q⟩
  · refine ⟨fun cls d H' => ∃ x M', (∃ C ns ds, x.cls = .ref C ∧ x.fs = some (ns.zip ds) ∧ ns.length = ds.length ∧ ok C ∧ ∀ a dd, ms a dd C { nx := fun _ _ => False, rt := De.rt } ((List.replicate X.N.length none).set i (some (.exc a dd ns ds))) M' noX) ∧ R X.K M' S H' ∧ Ex (hid M S H) (hid M' S H') ∧ XR X.K (hid M' S H') x cls d, ?_,
      M, S, Γ, De, _, r, er, h, h1, h2, h3, h4, fun x M' q H' c o r' e' xr => ⟨x, M', q, r', e', xr⟩⟩
    rintro cls d σ' H' ⟨⟨xc, xf⟩, M', ⟨C, ns, ds, rfl, rfl, hl, hok, q⟩, r', e', rfl, dd, ps, rfl, g1, g2⟩
    obtain ⟨vs, rfl, g3⟩ := kvd_zip hl g2
    refine ⟨hex C hok, fun hlen a na => ⟨C, dd, rfl, rfl, hok, M', S, _, _, noX, r', ?_, q a dd, fun _ _ z => z.elim, h2.ex e', fun _ _ z => z.elim, fun _ _ z => z.elim, fun _ _ z => z.elim⟩⟩
    refine EnvR.set ⟨by rw [List.length_replicate]; exact hlen.symm, fun j d q => ?_⟩ (dv_exc.mpr ⟨rfl, vs, g1, g3⟩)
    rw [List.getElem?_replicate] at q
    split at q <;> cases q
end
end DX
set_option maxHeartbeats 4000000
/-! a lambda handed to a def, the table of code objects told exactly -/
namespace DX
open PySem PySem.Spec PyProof.Rows L2 LamX
/-- the table at P may have grown by a code object; all else stays -/
structure Grown (H H1 : Hp) (P : Addr) (q : Str) : Prop where
  stay : ∀ b o, b ≠ P → H b = some o → H1 b = some o
  tab : ∃ ps us : Array Value, H P = some (.tbl ps) ∧ H1 P = some (.tbl us) ∧ TriplesOk us.toList ∧ ∀ (p : Pos) (v : Value), codeAmong p us.toList = some v → codeAmong p ps.toList = some v ∨ ∃ c, v = .ref c ∧ H c = none ∧ H1 c = some (CodeO c q)
section
variable {X : Cx} {pins : List (Addr × Obj)} {σ : L2.St} {H : Hp} {s : Shared}
theorem lam_mk {c P : Addr} {params : Arguments} {body : Expr} {scope : Scope} {pos : Pos} {E Q : Value → Shared → Prop} (J : Inv X pins σ H s) (TB : TabB X.base X.mg c P) (hcode : X.env.code = .ref c)
    (tb : TabS H P (X.env.qual ++ "<lambda>")) (hdef : defaultsOf params X.env = ([], [])) (hfree : ∀ y ∈ scope.names, y.2 = .free → ∃ c, X.env.cells.lookup y.1 = some c)
    (k : ∀ (f d : Addr) (pm ctv : Value) (H1 : Hp) (s1 : Shared), Inv X pins σ H1 s1 → Grown H H1 P (X.env.qual ++ "<lambda>") →
      s1.heap.get? f = some (PySem.W.kla_obj "<lambda>" (X.env.qual ++ "<lambda>") params body scope (cloFrom X.env.cells scope.names []) pm d ctv) → H1 f = none → f ∉ frs X.stack → H1 d = some (CodeO d (X.env.qual ++ "<lambda>")) → Q (.ref f) s1) :
    wpAny (model X.prog X.w) X.A (eval (.Lambda params body scope pos) X.env) Q E s := by
  obtain ⟨ps, eP, tr, am⟩ := tb
  refine PySem.W.kla_eval hdef ?_
  have gP : s.heap.get? P = some { cls := .none, data := .fields ps } := J.hok P _ eP
  have off : ∀ f, s.heap.objs.size ≤ f → f ∉ frs X.stack := fun f le z => by
    rcases List.mem_cons.mp (J.stkSub _ z) with e | e
    · have lt := J.lt
      rw [← e] at lt
      exact absurd lt (Nat.not_lt.mpr le)
    · exact J.nofs le e
  cases hit : codeAmong pos ps.toList with
  | some v =>
    obtain ⟨d, e, ed⟩ := am pos v hit
    subst e
    refine PySem.W.kla_makeFunctionHit (mg := X.mg) (c := c) (P := P) (ps := ps) (closure_ok hfree) J.ok.glob (J.mod.glob.keeps J.bk) hcode (TB.code.keeps J.bk) gP tr hit (TB.bm.keeps J.bk) fun ctv h2 tk kp sz => ?_
    exact k h2.objs.size d _ ctv H _ (J.kept fun b o e => Heap.get?_push_of_some _ (kp b o e)) ⟨fun _ _ _ e => e, ps, ps, eP, eP, tr, fun _ _ z => .inl z⟩ (Heap.get?_push_size _ rfl) (J.hok.fresh sz) (off _ sz) ed
  | none =>
    refine PySem.W.kla_makeFunction (mg := X.mg) (c := c) (P := P) (ps := ps) (closure_ok hfree) J.ok.glob (J.mod.glob.keeps J.bk) hcode (TB.code.keeps J.bk) gP tr hit TB.gP (TB.bm.keeps J.bk) fun d ctv h2 tk kp ge lt rec' tab' => ?_
    obtain ⟨d2, od, vs, t, e2, god, dat, nm⟩ := rec'
    cases e2
    have sz : s.heap.objs.size ≤ h2.objs.size := by omega
    have nd : H d = none := J.hok.fresh ge
    have J1 := inv_table (q := X.env.qual ++ "<lambda>") (t' := tk) (more := #[rawInt pos.line, rawInt pos.col, .ref d]) (h' := h2.push (PySem.W.kla_obj "<lambda>" (X.env.qual ++ "<lambda>") params body scope (cloFrom X.env.cells scope.names []) ((X.mg "__name__").getD .none) d ctv)) J eP
      (fun b o ne e => Heap.get?_push_of_some _ (kp b o ne e)) (Heap.get?_push_of_some _ tab') ge ⟨od, vs, t, Heap.get?_push_of_some _ god, dat, nm⟩
    have two : (ps ++ #[rawInt pos.line, rawInt pos.col, .ref d]).toList = ps.toList ++ [rawInt pos.line, rawInt pos.col, .ref d] := by simp
    refine k h2.objs.size d _ ctv _ _ J1 ⟨fun b o ne e => by rw [upd_ne (ne_of_none e nd), upd_ne ne]; exact e, ps, _, eP, by rw [upd_ne (ne_of_none eP nd), upd_same], by rw [two]; exact PySem.TriplesOk_snoc _ _ _ _ tr, fun p v z => ?_⟩ (Heap.get?_push_size _ rfl) ?_ (off _ sz) upd_same
    · rw [two] at z
      rcases among_app _ tr z with g | g
      · exact .inl g
      · exact .inr ⟨d, g, nd, upd_same⟩
    · rw [upd_ne (Nat.ne_of_gt lt), upd_ne (Nat.ne_of_gt (Nat.lt_of_lt_of_le (Heap.lt_size gP) sz))]
      exact J.hok.fresh sz
end
/-- x(lambda: body), told exactly -/
def tLamG (P : Addr) (q : Str) (TT : (XK → Hp → VK → Prop) → Hp → VK → Prop) (t : XK → TE) : TE := fun σ H Q => TabS H P q ∧ ∀ H1, Grown H H1 P q → TT (fun E H' Q' => t E σ H' Q') H1 Q
section
variable {X : Cx}
theorem pe_lamG {TT : (XK → Hp → VK → Prop) → Hp → VK → Prop} {x a : Str} {g c P : Addr} {k : Nat} {pg : Arguments} {bg : List Stmt} {sg : Scope} {dV kV doc pm cdv ct oc : Value} {an od : Option Addr} {osl : Array (Option Value)} {Ng : List Str}
    {params : Arguments} {body : Expr} {scope : Scope} {t : XK → TE} {p lpos pos : Pos} (hg : Gl X x) (hm : X.mg x = some (.ref g)) (hk : PySem.W.keepIn X.K (.ref g) = true)
    (lk : X.K.lookup g = some ⟨oc, od, .func (PySem.W.fnOf x x pg bg sg dV kV doc pm an cdv ct), osl⟩) (hcg : PySem.W.codeIn X.K cdv x = true) (hb : L2.Binds X.K (PySem.W.fnOf x x pg bg sg dV kV doc pm an cdv ct) [a] []) (Sg : FnScope Ng [a] sg) (hNg : Ng[0]? = some a) (hva : Vis sg a)
    (hG : GivesTo X Ng x sg g cdv bg a (X.env.qual ++ "<lambda>") TT) (TB : TabB X.base X.mg c P) (hcode : X.env.code = .ref c) (room : Room (k + 2) X.A) (L : LamS X.env.scope scope) (hdef : defaultsOf params X.env = ([], []))
    (hbind : ∀ (q : Str) (cl : List (Str × Addr)) (pm cv ctv : Value), bindArgs (PySem.W.kla_fn "<lambda>" q params body scope cl pm cv ctv) ⟨[], []⟩ = pure [])
    (hbody : ∀ (A : Around) (outer : List Env) (s : Shared) (H : Hp) (E : XK) (f d : Addr), Room k (A.deeper (lamEnv X scope s.heap.objs.size f d)) → PE (lamCx X A outer s H E scope f d) body (t E))
    (hdb : (x == ("__debug__" : Str)) = false := by decide) (hd : (a == ("__debug__" : Str)) = false := by decide) (hcd : (a == ("__classdict__" : Str)) = false := by decide) :
    PE X (.Call (.Name x p) [.Lambda params body scope lpos] [] pos) (tLamG P (X.env.qual ++ "<lambda>") TT t) := by
  refine ⟨fun pins s σ H Q J ⟨tb, h⟩ => wpAny_Call_Name_kw (ld_glob J hg hm ?_ hdb)⟩
  refine PySem.W.callWith_K (h₀ := X.base) J.ok.mod.kin hk ?_ (by rfl) (by rfl)
  show wpAny _ _ (spliced ((false, eval (.Lambda params body scope lpos) X.env) :: backTo pos (starEach [] X.env))) _ _ s
  refine Calls.spliced_cons (lam_mk J TB hcode tb hdef (L.has J.ok) fun f d pm2 ctv H1 s1 J1 gr hf hfn hfr hco => Calls.spliced_nil ⟨J1.kIn, ?_⟩)
  have run : codeAny (model X.prog X.w) X.A (.call (.ref g) ⟨[.ref f], []⟩) (CR C8.CX0 X.stack X.prog X.w H1 s1 Q C8.E0) s1 := by
    refine run_ofS (N := Ng) (ps := [a]) (us := [.ref f]) (vs := [.ref f]) lk hcg Sg room J1.env0 (hb s1 [.ref f] J1.kIn rfl) (.cons rfl .nil) rfl fun r2 => ?_
    obtain ⟨t2, p2, q2⟩ := hG f d s1 H1 Q (fun E H' Q' => t E σ H' Q') (fun W pn xe E p1 p2 tk hW => pe_act (i := 0) J1 L hf hfn hfr (hbind _ _ _ _ _) tk hW r2 (fun A outer s H r3 => hbody A outer s H E f d r3) hNg hva hd hcd) hco (h H1 gr)
    exact ⟨t2, p2.nox, q2⟩
  refine wpAny_call (codeAny_mono run fun r s2 z => ?_)
  match r, z with
  | .error e, z => exact (show False from z).elim
  | .ok (.ret u), z => exact J1.after z
  | .ok .next, z => exact False.elim z
  | .ok .brk, z => exact False.elim z
  | .ok .cont, z => exact False.elim z
end
end DX
set_option maxHeartbeats 4000000
/-! try: return ('', ask()) / except (A, B, C) as e: return (e.code, f(e)), over data -/
namespace DX
open PySem PySem.Spec PyProof.Rows L2 LamX DL
section
variable {K : PySem.W.Frag} {M : Mh} {S H H1 : Hp} {P : Addr} {q : Str}
theorem R.tabS (r : R K M S H) (h : M P = some (.tab q)) : TabS H P q := by
  obtain ⟨u, e, ps, rfl, h2, h3⟩ := r.chg P _ h
  exact ⟨ps, e, h2, fun p v z => let ⟨c, g1, g2⟩ := h3 p v z; ⟨c, g1, hid_le _ _ _ _ _ g2⟩⟩
theorem R.grown (r : R K M S H) (h : M P = some (.tab q)) (g : Grown H H1 P q) : R K M S H1 ∧ Ex (hid M S H) (hid M S H1) := by
  have np : ∀ a, M a = none → a ≠ P := fun a e z => by rw [z, h] at e; cases e
  have ex : Ex (hid M S H) (hid M S H1) := fun a o z => by
    obtain ⟨h1, h2, h3⟩ := hid_some.mp z
    exact hid_some.mpr ⟨h1, h2, g.stay a o (np a h1) h3⟩
  refine ⟨⟨fun a o z => ?_, fun a o z => ?_⟩, ex⟩
  · obtain ⟨h1, h2⟩ := r.hidden a o z
    exact ⟨g.stay a o (np a h2) h1, h2⟩
  · by_cases ne : a = P
    · subst ne
      rw [h] at z
      cases z
      obtain ⟨ps, us, e1, e2, e3, e4⟩ := g.tab
      refine ⟨_, e2, us, rfl, e3, fun p v w => ?_⟩
      rcases e4 p v w with w | ⟨c, rfl, n1, n2⟩
      · obtain ⟨u, f1, f2⟩ := r.chg a _ h
        rw [e1] at f1
        cases f1
        obtain ⟨ps', f3, f4, f5⟩ := f2
        cases f3
        obtain ⟨c, g1, g2⟩ := f5 p v w
        exact ⟨c, g1, ex _ _ g2⟩
      · exact ⟨c, rfl, hid_some.mpr ⟨r.freeM n1, r.freeS n1, n2⟩⟩
    · obtain ⟨u, h1, h2⟩ := r.chg a o z
      exact ⟨u, g.stay a u ne h1, h2.mono ex⟩
end
/-- what it makes of the lambda's reading -/
def TTgot (K : PySem.W.Frag) (ok : Addr → Prop) (fld : Addr → Addr → MF) : (XK → Hp → VK → Prop) → Hp → VK → Prop := fun tl H Q =>
  ∃ E : XK, (∀ cls d H', E cls d H' → ∃ C dd ns ds M S k, cls = .ref C ∧ d = some dd ∧ ok C ∧ R K M S H' ∧ (∃ vs, hid M S H' dd = some (.xd (ns.zip vs)) ∧ DVs K (hid M S H') ds vs) ∧ KeepV K S (hid M S H') k Q ∧
    ∀ a, ∃ c, (ns.zip ds).lookup ("code" : Str) = some c ∧ fld a dd [.exc a dd ns ds] M (fun v M1 => [c, v].length ≤ sizeLine ∧ k (.tup [c, v]) M1) noX) ∧
  tl E H fun v H1 => [V.str "", v].length ≤ sizeLine ∧ ∀ p, H1 p = none → Q (.ref p) (upd H1 p (.tup [.str "", v]))
abbrev gotBody (a nm x1 x2 x3 fl : Str) (j n1 n2 n3 : Nat) (p : Nat → Pos) : List Stmt :=
  [.Try [.Return (some (.Tuple [.Constant (.str "") j (p 0), .Call (.Name a (p 1)) [] [] (p 2)] n1 (p 3))) (p 4)]
    [.ExceptHandler (some (.Tuple [.Name x1 (p 5), .Name x2 (p 6), .Name x3 (p 7)] n2 (p 8))) (some nm) [.Return (some (.Tuple [.Attribute (.Name nm (p 9)) "code" (p 10), .Call (.Name fl (p 11)) [.Name nm (p 12)] [] (p 13)] n3 (p 14))) (p 15)] (p 16)] [] [] (p 17)]
section
variable {X : Cx} {E : XK} {k : Nat} {x a nm x1 x2 x3 fl q pf : Str} {sg : Scope} {g ff : Addr} {cdg c1 c2 c3 : Value} {ok : Addr → Prop} {fld : Addr → Addr → MF} {fdf : FuncData} {j n1 n2 n3 : Nat} {p : Nat → Pos}
theorem got_gives (nd : [a, nm].Nodup) (ln : sg.names.lookup nm = some .local) (k1 : sg.names.lookup x1 = some .globalImplicit) (k2 : sg.names.lookup x2 = some .globalImplicit) (k3 : sg.names.lookup x3 = some .globalImplicit) (kf : sg.names.lookup fl = some .globalImplicit)
    (m1 : X.mg x1 = some c1) (m2 : X.mg x2 = some c2) (m3 : X.mg x3 = some c3) (d1 : (x1 == ("__debug__" : Str)) = false) (d2 : (x2 == ("__debug__" : Str)) = false) (d3 : (x3 == ("__debug__" : Str)) = false) (df : (fl == ("__debug__" : Str)) = false) (dn : (nm == ("__debug__" : Str)) = false) (dc : (nm == ("__classdict__" : Str)) = false)
    (hex : ∀ C, ok C → PySem.W.exmAny X.K (.ref C) [c1, c2, c3] = some true) (okf : ∀ C, ok C → XfC X.K C ∧ PySem.W.findIn X.K (.ref C) "code" = some none)
    (F : FnE X.prog X.w X.K X.mg X.base k ff fdf [pf] (spE X.K ok fld)) (gf : X.mg fl = some (.ref ff)) (kp : PySem.W.keepIn X.K (.ref ff) = true) (bf : Binds X.K fdf [pf] []) (room : Room (k + 1) X.A) :
    GivesTo X [a, nm] x sg g cdg (gotBody a nm x1 x2 x3 fl j n1 n2 n3 p) a q (TTgot X.K ok fld) := by
  intro f d s H Q tl act hc h
  have vn : Vis sg nm := .inl ln
  have suite : ∀ (e dd C : Addr) (oe : Obj) (pn : List (Addr × Obj)), ok C → PinX ((cxOf C8.CX0 X.prog X.w X.K X.mg X.base [a, nm] x sg g cdg X.A X.stack s H C8.E0).nox.suite e ((e, oe) :: pn)) e oe (.ref C) (some dd) →
      PSs ((cxOf C8.CX0 X.prog X.w X.K X.mg X.base [a, nm] x sg g cdg X.A X.stack s H C8.E0).nox.suite e ((e, oe) :: pn)) [.Return (some (.Tuple [.Attribute (.Name nm (p 9)) "code" (p 10), .Call (.Name fl (p 11)) [.Name nm (p 12)] [] (p 13)] n3 (p 14))) (p 15)]
        (tSt X.K E0 (mRet (mTup (mCons (mFld e dd "code" (mVar 1)) (mCons (fun Γ M k kx => (mCons (mVar 1) mNil) Γ M (fun ds M1 => fld e dd ds M1 k noX) kx) mNil))))) := by
    intro e dd C oe pn hok hp
    have r2 : L2H.RoomH k ((cxOf C8.CX0 X.prog X.w X.K X.mg X.base [a, nm] x sg g cdg X.A X.stack s H C8.E0).nox.suite e ((e, oe) :: pn)).A := by
      have z : Room k (X.A.deeper (envOfC x sg s.heap.objs.size g cdg)) := room.deeper _
      exact ⟨z.dp, z.un⟩
    exact dss_one (ds_ret (de_tup (da_cons (de_fld (okf C hok).1 (okf C hok).2 hp (de_var 1 rfl vn dn dc)) (da_cons (de_callE F hok r2 hp kf gf kp bf (da_cons (de_var 1 rfl vn dn dc) da_nil) df) da_nil))))
  refine ⟨_, pss_one (ps_try3 (X := (cxOf C8.CX0 X.prog X.w X.K X.mg X.base [a, nm] x sg g cdg X.A X.stack s H C8.E0).nox) (i := 1) (c1 := c1) (c2 := c2) (c3 := c3)
    (tb := fun W D σ H => ∃ Ech : XK, (∀ cls d σ' H', Ech cls d H' → W cls d σ' H') ∧ σ[0]? = some (some (.ref f)) ∧ H d = some (CodeO d q) ∧ tl Ech H fun v H1 => [V.str "", v].length ≤ sizeLine ∧ ∀ p, H1 p = none → D.rt (.ref p) (upd H1 p (.tup [.str "", v])))
    (ts := fun e cls d D σ H => ∃ C dd, cls = .ref C ∧ d = some dd ∧ ok C ∧ tSt X.K E0 (mRet (mTup (mCons (mFld e dd "code" (mVar 1)) (mCons (fun Γ M k kx => (mCons (mVar 1) mNil) Γ M (fun ds M1 => fld e dd ds M1 k noX) kx) mNil)))) D σ H)
    rfl rfl nd rfl ln ⟨k1, d1, .inl m1⟩ ⟨k2, d2, .inl m2⟩ ⟨k3, d3, .inl m3⟩ (fun W pn xe tk _ => ?_) fun e oe cls d pn hz hfv => ?_), ?_⟩
  · refine ⟨fun pins s' σ H' D I ⟨Ech, hW, h1, h2, h3⟩ => ?_⟩
    have hp := act W pn xe Ech (p 1) (p 2) tk hW
    exact (pss_one (ps_ret (pos := p 4) (pe_tup (x1 := n1) (pos := p 3) (pa_cons (pe_str (pos := p 0) (j := j)) (pa_cons hp pa_nil))))).run pins s' σ H' D I ⟨h1, h2, h3⟩
  · exact ⟨fun pins s' σ H' D I ⟨C, dd, e1, e2, hok, z⟩ => by
      subst e1 e2
      exact (suite e dd C oe pn hok ⟨List.mem_cons_self, hz, hfv⟩).run pins s' σ H' D I z⟩
  · obtain ⟨E1, hE, ht⟩ := h
    refine ⟨E1, fun cls d' σ' H' z => ?_, rfl, hc, ht⟩
    obtain ⟨C, dd, ns, ds, M, S, kk, rfl, rfl, hok, r, ⟨vs, g1, g2⟩, kv, hf⟩ := hE _ _ _ z
    refine ⟨hex C hok, fun hl e ne => ⟨C, dd, rfl, rfl, hok, M, S, (List.replicate 2 none).set 1 (some (.exc e dd ns ds)), ⟨fun _ _ => False, kk, fun _ _ => False, fun _ _ => False⟩, noX, r, ?_, ?_, fun _ _ z => z.elim, kv, fun _ _ z => z.elim, fun _ _ z => z.elim, fun _ _ z => z.elim⟩⟩
    · refine EnvR.set ⟨by rw [List.length_replicate]; exact hl.symm, fun i d z => ?_⟩ (dv_exc.mpr ⟨rfl, vs, g1, g2⟩)
      rw [List.getElem?_replicate] at z
      split at z <;> cases z
    · obtain ⟨c, hl, hf⟩ := hf e
      exact ⟨.exc e dd ns ds, rfl, ns, ds, c, rfl, hl, .exc e dd ns ds, rfl, hf⟩
end
end DX
set_option maxHeartbeats 4000000
namespace DX
open PySem PySem.Spec PyProof.Rows L2 LamX DL
/-- _law_got(lambda: e) -/
def mGot (P : Addr) (q : Str) (ok : Addr → Prop) (fld : Addr → Addr → MF) (m : ME) : ME := fun Γ M k _ => M P = some (.tab q) ∧
  m Γ M (fun v M1 => k (.tup [.str "", v]) M1) fun x M1 => ∃ C ns ds, x.cls = .ref C ∧ x.fs = some (ns.zip ds) ∧ ns.length = ds.length ∧ ok C ∧
    ∀ a dd, ∃ c, (ns.zip ds).lookup ("code" : Str) = some c ∧ fld a dd [.exc a dd ns ds] M1 (fun v M2 => [c, v].length ≤ sizeLine ∧ k (.tup [c, v]) M2) noX
section
variable {X : Cx} {E : XK} {k : Nat} {x a : Str} {pg : Arguments} {bg : List Stmt} {sg : Scope} {g c P : Addr} {fd : FuncData} {ok : Addr → Prop} {fld : Addr → Addr → MF} {Ng : List Str}
  {params : Arguments} {body : Expr} {scope : Scope} {m : ME} {p lpos pos : Pos}
theorem de_got (F : FunD X.K x x pg bg sg [] [] g fd) (hm : X.mg x = some (.ref g)) (hb : L2.Binds X.K fd [a] []) (Sg : FnScope Ng [a] sg) (hNg : Ng[0]? = some a) (hva : Vis sg a) (TB : TabB X.base X.mg c P)
    (hG : ∀ cdv, GivesTo X Ng x sg g cdv bg a (X.env.qual ++ "<lambda>") (TTgot X.K ok fld)) (hg : Gl X x) (hcode : X.env.code = .ref c) (room : Room (k + 2) X.A) (L : LamS X.env.scope scope) (hdef : defaultsOf params X.env = ([], []))
    (hbind : ∀ (q : Str) (cl : List (Str × Addr)) (pm cv ctv : Value), bindArgs (PySem.W.kla_fn "<lambda>" q params body scope cl pm cv ctv) ⟨[], []⟩ = pure [])
    (hbody : ∀ (A : Around) (outer : List PySem.Env) (s : Shared) (H : Hp) (E : XK) (f d : Addr), Room k (A.deeper (lamEnv X scope s.heap.objs.size f d)) → PE (lamCx X A outer s H E scope f d) body (tI X.K E m))
    (hdb : (x == ("__debug__" : Str)) = false := by decide) (hd : (a == ("__debug__" : Str)) = false := by decide) (hcd : (a == ("__classdict__" : Str)) = false := by decide) :
    PE X (.Call (.Name x p) [.Lambda params body scope lpos] [] pos) (tI X.K E (mGot P (X.env.qual ++ "<lambda>") ok fld m)) := by
  obtain ⟨oc, od, dV, kV, doc, pm, an, cdv, ct, osl, rfl, lk, hcd2, _, _⟩ := F.ex
  refine pe_le (pe_lamG (k := k) (t := fun E => tI X.K E m) hg hm F.kp lk hcd2 hb Sg hNg hva (hG cdv) TB hcode room L hdef hbind hbody hdb hd hcd) fun σ H Q ⟨M, S, Γ, kk, kx, r, er, ⟨hP, h⟩, kv, _⟩ => ⟨R.tabS r hP, fun H1 gr => ?_⟩
  obtain ⟨r1, e1⟩ := R.grown r hP gr
  refine ⟨fun cls d H' => ∃ z M', (∃ C ns ds, z.cls = .ref C ∧ z.fs = some (ns.zip ds) ∧ ns.length = ds.length ∧ ok C ∧ ∀ a dd, ∃ c, (ns.zip ds).lookup ("code" : Str) = some c ∧ fld a dd [.exc a dd ns ds] M' (fun v M2 => [c, v].length ≤ sizeLine ∧ kk (.tup [c, v]) M2) noX) ∧ R X.K M' S H' ∧ Ex (hid M S H1) (hid M' S H') ∧ XR X.K (hid M' S H') z cls d,
    ?_, M, S, Γ, _, _, r1, er.mono e1, h, fun v M1 z H2 u r2 e2 d2 => ⟨by show 2 ≤ sizeLine; rw [sizeLine_eq]; decide, fun pp hp => ?_⟩, fun z M' w H' cl o r' e' xr => ⟨z, M', w, r', e', xr⟩⟩
  · rintro cls d H' ⟨⟨zc, zf⟩, M', ⟨C, ns, ds, rfl, rfl, hl, hok, w⟩, r', e', rfl, dd, ps, rfl, g1, g2⟩
    obtain ⟨vs, rfl, g3⟩ := kvd_zip hl g2
    exact ⟨C, dd, ns, ds, M', S, kk, rfl, rfl, hok, r', ⟨vs, g1, g3⟩, kv.ex (e1.trans e'), fun a => w a dd⟩
  · obtain ⟨h1, h2, h3⟩ := new_tup r2 hp (DVs.two (dv_str.mpr rfl) d2)
    exact kv _ M1 z _ _ h1 ((e1.trans e2).trans h2) h3
end
/-- what leaves the lambda -/
theorem takesL {X : Cx} {A : Around} {outer : List PySem.Env} {s : Shared} {H : Hp} {E : XK} {scope : Scope} {f d : Addr} : Takes (lamCx X A outer s H E scope f d) fun c o _ H' => E c o H' := takes_of rfl rfl rfl rfl
end DX
set_option maxHeartbeats 4000000
/-! the head's Hook with defs that say super() -/
namespace DX
open PySem PySem.Spec PyProof.Rows L2
/-- one __init__ that says super(): its class's name, its own text -/
structure IDef where
  cls : Str
  qual : Str
  params : Arguments
  body : List Stmt
  scope : Scope
abbrev IW : Type := Option (Str × Str × Arguments × FuncBody × Scope × Addr × List Str × Addr)
def iAt (d : IDef) : Str × Option Str := (d.cls, some "__init__")
def iSee (K : PySem.W.Frag) (d : IDef) : IW := match K.lookup (He.fAd K (iAt d)) with
  | some ⟨_, _, .func fd, _⟩ => some (fd.name, fd.qualname, fd.params, fd.body, fd.scope, fd.globals, fd.closure.map (·.1), fd.builtins)
  | _ => none
def iVal (d : IDef) : IW := some ("__init__", d.qual, d.params, .stmts d.body, d.scope, mainGlobals, ["__class__"], builtinsNs)
/-- the cell at c holds the class D -/
def cellB (K : PySem.W.Frag) (c D : Addr) : Bool := match K.lookup c with
  | some ⟨_, _, .cell (some (.ref a)), _⟩ => decide (a = D)
  | _ => false
def fileB (K : PySem.W.Frag) (c : Addr) (file : Str) : Bool := match K.lookup c with
  | some ⟨_, _, .fields vs, _⟩ => (match (vs[2]? : Option Value) with
    | some (.str x _) => file == x
    | _ => false)
  | _ => false
def codB (K : PySem.W.Frag) (file qual : Str) (D : Addr) : Value → List (Str × Addr) → Value → Bool
  | .ref c, [(_, cc)], .none => PySem.W.codeIn K (.ref c) qual && (cellB K cc D && fileB K c file)
  | _, _, _ => false
theorem codB_ok {K : PySem.W.Frag} {file qual : Str} {D : Addr} {v dv : Value} {l : List (Str × Addr)} (h : codB K file qual D v l dv = true) : ∃ c y cc, v = .ref c ∧ l = [(y, cc)] ∧ dv = .none ∧ PySem.W.codeIn K (.ref c) qual = true ∧ cellB K cc D = true ∧ fileB K c file = true := by
  unfold codB at h
  split at h
  · rename_i c y cc
    obtain ⟨h1, h⟩ := He.ba h
    obtain ⟨h2, h3⟩ := He.ba h
    exact ⟨c, y, cc, rfl, rfl, rfl, h1, h2, h3⟩
  · cases h
def iB (K : PySem.W.Frag) (file : Str) (d : IDef) : Bool := match K.lookup (He.fAd K (iAt d)) with
  | some ⟨_, _, .func fd, _⟩ => codB K file d.qual (He.ga K d.cls) fd.code fd.closure fd.defaults
  | _ => false
/-- what the class asks: an exception over the built-in one whose __new__ is newId -/
def oexB (K : PySem.W.Frag) (C : Addr) (newId : String) : Bool := match K.lookup C with
  | some ⟨.type t, _, .cls cd, sl⟩ => decide (t = "type") && (match cd.mro, sl.toList with
    | .ref a :: bm, [_, _, _, _, some (.builtin n), _] => decide (a = C) && (decide (n = newId) && (!cd.hasDel && (cd.hasDict && PySem.HandSPX.refsVE bm)))
    | _, _ => false)
  | _ => false
theorem oexB_ok {K : PySem.W.Frag} {C : Addr} {newId : String} (h : oexB K C newId = true) : ∃ nm q N bs bm sn sub ab col dd k0 k1 k2 k3 k5, K.lookup C = some (excClassObj nm q C N bs bm true sn sub ab col dd k0 k1 k2 k3 k5 newId) ∧ PySem.HandSPX.refsVE bm = true := by
  unfold oexB at h
  split at h
  · rename_i t dd cd sl ho
    obtain ⟨h1, h⟩ := He.ba h
    split at h
    · rename_i a bm k0 k1 k2 k3 n k5 hm hs
      obtain ⟨h2, h⟩ := He.ba h
      obtain ⟨h3, h⟩ := He.ba h
      obtain ⟨h4, h⟩ := He.ba h
      obtain ⟨h5, h6⟩ := He.ba h
      obtain ⟨nm, bs, mro, ns, qn, hd, sn, sub, ab, col, del⟩ := cd
      have e1 := of_decide_eq_true h1
      have e2 := of_decide_eq_true h2
      have e3 := of_decide_eq_true h3
      dsimp only at hm h4 h5
      subst hm e1 e2 e3 h5
      have e4 : del = false := by
        cases del with
        | false => rfl
        | true => cases h4
      subst e4
      have e5 : sl = #[k0, k1, k2, k3, some (.builtin n), k5] := by
        obtain ⟨l⟩ := sl
        simp only at hs
        rw [hs]
      subst e5
      exact ⟨nm, qn, ns, bs, bm, sn, sub, ab, col, dd, k0, k1, k2, k3, k5, ho, h6⟩
    · cases h
  · cases h
def dec {α : Type} [DecidableEq α] (a b : α) : Bool := decide (a = b)
/-- the facts of a class of exceptions: made by its own __init__; these names are no attributes of it -/
def clsB (K : PySem.W.Frag) (newId : String) (x : Str) (ns : List Str) : Bool :=
  oexB K (He.ga K x) newId && (dec (PySem.W.findIn K (.ref (He.ga K x)) "__setattr__") (some (some (.builtin "object.__setattr__"))) && (dec (PySem.W.subIn K (.ref (He.ga K x)) (.type "BaseException")) (some true) && (dec (PySem.W.typeIn K (.ref (He.ga K x))) (some (.type "type")) &&
  (PySem.W.keepIn K (.ref (He.ga K x)) && (xfB K (He.ga K x) && (dec (PySem.W.findIn K (.ref (He.ga K x)) "__init__") (some (some (.ref (He.fAd K (x, some "__init__"))))) && (dec (PySem.W.typeIn K (.ref (He.fAd K (x, some "__init__")))) (some (.type "function")) &&
  (PySem.W.fnIn K (He.fAd K (x, some "__init__")) && ns.all fun n => dec (PySem.W.findIn K (.ref (He.ga K x)) n) (some none)))))))))
structure ClsF (K : PySem.W.Frag) (newId : String) (x : Str) (ns : List Str) : Prop where
  obj : ∃ nm q N bs bm sn sub ab col dd k0 k1 k2 k3 k5, K.lookup (He.ga K x) = some (excClassObj nm q (He.ga K x) N bs bm true sn sub ab col dd k0 k1 k2 k3 k5 newId) ∧ PySem.HandSPX.refsVE bm = true
  sa : PySem.W.findIn K (.ref (He.ga K x)) "__setattr__" = some (some (.builtin "object.__setattr__"))
  exC : PySem.W.subIn K (.ref (He.ga K x)) (.type "BaseException") = some true
  tyC : PySem.W.typeIn K (.ref (He.ga K x)) = some (.type "type")
  kC : PySem.W.keepIn K (.ref (He.ga K x)) = true
  xf : XfC K (He.ga K x)
  ini : PySem.W.findIn K (.ref (He.ga K x)) "__init__" = some (some (.ref (He.fAd K (x, some "__init__"))))
  fty : PySem.W.typeIn K (.ref (He.fAd K (x, some "__init__"))) = some (.type "function")
  fin : PySem.W.fnIn K (He.fAd K (x, some "__init__")) = true
  no : ∀ n ∈ ns, PySem.W.findIn K (.ref (He.ga K x)) n = some none
theorem clsB_ok {K : PySem.W.Frag} {newId : String} {x : Str} {ns : List Str} (h : clsB K newId x ns = true) : ClsF K newId x ns := by
  obtain ⟨h1, h⟩ := He.ba h
  obtain ⟨h2, h⟩ := He.ba h
  obtain ⟨h3, h⟩ := He.ba h
  obtain ⟨h4, h⟩ := He.ba h
  obtain ⟨h5, h⟩ := He.ba h
  obtain ⟨h6, h⟩ := He.ba h
  obtain ⟨h7, h⟩ := He.ba h
  obtain ⟨h8, h⟩ := He.ba h
  obtain ⟨h9, h⟩ := He.ba h
  exact ⟨oexB_ok h1, of_decide_eq_true h2, of_decide_eq_true h3, of_decide_eq_true h4, h5, xfB_ok h6, of_decide_eq_true h7, of_decide_eq_true h8, h9, fun n hn => of_decide_eq_true (List.all_eq_true.mp h n hn)⟩
theorem ClsF.oex {K : PySem.W.Frag} {x : Str} {ns : List Str} (c : ClsF K "ValueError.__new__" x ns) : OexC K (He.ga K x) := ⟨c.obj, c.sa, c.exC, c.tyC, c.kC⟩
/-! what stands behind a class in the order of another -/
def ownB (K : PySem.W.Frag) (C D : Str) (to : Value) : Bool := dec (PySem.W.mroIn K (He.ga K C) (.ref (He.ga K D))) (some true) && (dec (PySem.W.ks_superIn K (He.ga K C) (He.ga K D) "__init__") (some (some to)) && dec (PySem.W.nsIn K PySem.cStatics "thirdparty.any") (some none))
theorem ownB_ok {K : PySem.W.Frag} {C D : Str} {to : Value} (h : ownB K C D to = true) : PySem.W.mroIn K (He.ga K C) (.ref (He.ga K D)) = some true ∧ PySem.W.ks_superIn K (He.ga K C) (He.ga K D) "__init__" = some (some to) ∧ PySem.W.nsIn K PySem.cStatics "thirdparty.any" = some none := by
  obtain ⟨h1, h⟩ := He.ba h
  obtain ⟨h2, h3⟩ := He.ba h
  exact ⟨of_decide_eq_true h1, of_decide_eq_true h2, of_decide_eq_true h3⟩
/-! the Hook -/
abbrev AlI : Type := He.AlX × List IW
/-- the init of a class's text -/
def cInit : Stmt → Stmt
  | .ClassDef _ _ _ (st :: _) _ _ _ _ _ _ _ => st
  | st => st
structure SaysI (fa : List He.Fa) (fn : List He.DefD) (ts : List He.Tab) (tf : List He.Defn) (ex : PySem.W.Frag → Bool) (ins : List IDef) (w : World) (h : Heap) (K : PySem.W.Frag) : Prop where
  x : He.SaysX fa fn ts tf ex w h K
  i : ins.map (iSee K) = ins.map iVal
/-- what is looked at: what the names reach, and the place of the statics -/
def seeK (g : Addr → Option Obj) (n : Nat) : PySem.W.Frag := He.frT g (He.asD g n ++ [PySem.cStatics])
def obsI (n : Nat) (fa : List He.Fa) (fn : List He.DefD) (ts : List He.Tab) (tf : List He.Defn) (ex : PySem.W.Frag → Bool) (ins : List IDef) (g : Addr → Option Obj) : AlI :=
  ((He.obsT fa fn ts (seeK g n), ex (seeK g n) && He.tabsB g tf (seeK g n)), ins.map (iSee (seeK g n)))
theorem obsI_ok {n : Nat} {fa : List He.Fa} {fn : List He.DefD} {ts : List He.Tab} {tf : List He.Defn} {ex : PySem.W.Frag → Bool} {ins : List IDef} {w : World} {h : Heap} (e : obsI n fa fn ts tf ex ins h.get? = (He.valX fn ts w, ins.map iVal)) : SaysI fa fn ts tf ex ins w h (seeK h.get? n) := by
  have e1 : He.obsT fa fn ts (seeK h.get? n) = He.valT fn ts w := congrArg (fun z : AlI => z.1.1) e
  have e2 : (ex (seeK h.get? n) && He.tabsB h.get? tf (seeK h.get? n)) = true := congrArg (fun z : AlI => z.1.2) e
  have e3 : ins.map (iSee (seeK h.get? n)) = ins.map iVal := congrArg (fun z : AlI => z.2) e
  obtain ⟨x1, x2⟩ := He.ba e2
  have at_ : ∀ p ∈ tf, PySem.W.codeHdIn (seeK h.get? n) (He.cT (seeK h.get? n) p).1 (He.cT (seeK h.get? n) p).2 = true ∧ ∃ o, h.get? (He.cT (seeK h.get? n) p).2 = some o ∧ He.emptyTab o = true := fun p hp => by
    have y := List.all_eq_true.mp x2 p hp
    obtain ⟨y1, y2⟩ := He.ba y
    refine ⟨y1, ?_⟩
    cases z : h.get? (He.cT (seeK h.get? n) p).2 with
    | some o => rw [z] at y2; exact ⟨o, rfl, y2⟩
    | none => rw [z] at y2; cases y2
  refine ⟨⟨e1, x1, fun p hp => (at_ p hp).1, fun p hp => ?_, fun p hp => ?_⟩, e3⟩
  · obtain ⟨_, o, z1, z2⟩ := at_ p hp
    exact He.frT_none z1 z2
  · obtain ⟨_, o, z1, z2⟩ := at_ p hp
    rw [z1, He.emptyTab_eq z2]
def hookI (n : Nat) (fa : List He.Fa) (fn : List He.DefD) (ts : List He.Tab) (tf : List He.Defn) (ex : PySem.W.Frag → Bool) (ins : List IDef) : PySem.W.Hook where
  α := AlI
  obs := fun s => obsI n fa fn ts tf ex ins s.heap.get?
  val := fun w => (He.valX fn ts w, ins.map iVal)
  says := fun w h => ∃ K : PySem.W.Frag, K.In h ∧ SaysI fa fn ts tf ex ins w h K
  of := fun _ _ e => ⟨_, He.frT_in, obsI_ok e⟩
  keeps := fun _ _ _ ⟨K, hK, c⟩ k => ⟨K, PySem.W.Frag.In.keeps hK k, ⟨c.x.t, c.x.more, c.x.hd, c.x.out, fun p hp => k _ _ (c.x.empty p hp)⟩, c.i⟩
/-- what is told of such a def -/
theorem SaysI.at {fa : List He.Fa} {fn : List He.DefD} {ts : List He.Tab} {tf : List He.Defn} {ex : PySem.W.Frag → Bool} {ins : List IDef} {w : World} {h : Heap} {K : PySem.W.Frag} (c : SaysI fa fn ts tf ex ins w h K) (i : Nat) {d : IDef} (e : ins[i]? = some d) : iSee K d = iVal d := by
  have e2 : (ins.map (iSee K))[i]? = (ins.map iVal)[i]? := by rw [c.i]
  rw [List.getElem?_map, List.getElem?_map, e] at e2
  exact Option.some.inj e2
theorem iLook {K : PySem.W.Frag} {P : Program} {mg : Str → Option Value} {d : IDef} (e : iSee K d = iVal d) (b : iB K P.main.file d = true) (hc : ∃ cd, PySem.W.clsIn K (He.ga K d.cls) = some cd) (hp : ∃ ar, (d.params.posonlyargs ++ d.params.args).head? = some ar ∧ ar.arg = "self")
    (top : (P.main.scope.names.lookup ("super" : Str)).isSome = false) (hm : mg "super" = none) :
    ∃ (cc cda : Addr) (kV doc pm ct oc : Value) (an od : Option Addr) (osl : Array (Option Value)), K.lookup (He.fAd K (iAt d)) = some ⟨oc, od, .func (PySem.W.fnX "__init__" d.qual d.params d.body d.scope [(("__class__" : Str), cc)] .none kV doc pm an (.ref cda) ct), osl⟩ ∧
      PySem.W.codeIn K (.ref cda) d.qual = true ∧ SupK P K mg (He.fAd K (iAt d)) cda cc (He.ga K d.cls) (PySem.W.fnX "__init__" d.qual d.params d.body d.scope [(("__class__" : Str), cc)] .none kV doc pm an (.ref cda) ct) "self" := by
  unfold iSee at e
  unfold iB at b
  cases q : K.lookup (He.fAd K (iAt d)) with
  | none => rw [q] at b; cases b
  | some o =>
    obtain ⟨oc, od, dt, osl⟩ := o
    rw [q] at b e
    cases dt with
    | func fd =>
      obtain ⟨n1, n2, n3, n4, n5, n6, n7, n8, n9, n10, n11, n12, n13, n14, n15⟩ := fd
      have e2 : (some (n1, n2, n3, n4, n5, n6, n7.map (·.1), n15) : IW) = (some ((("__init__" : Str)), d.qual, d.params, .stmts d.body, d.scope, mainGlobals, [("__class__" : Str)], builtinsNs) : IW) := e
      simp only [Option.some.injEq, Prod.mk.injEq] at e2
      obtain ⟨h1, h2, h3, h4, h5, h6, h7, h8⟩ := e2
      subst h1 h2 h3 h4 h5 h6 h8
      have b2 : codB K P.main.file d.qual (He.ga K d.cls) n13 n7 n8 = true := b
      obtain ⟨c, y, cc, rfl, rfl, rfl, b3, b5, b6⟩ := codB_ok b2
      · have ey : y = "__class__" := by
          have z : [y] = [("__class__" : Str)] := h7
          exact (List.cons.inj z).1
        subst ey
        refine ⟨cc, c, n9, n10, n11, n14, oc, n12, od, osl, rfl, b3, ⟨⟨oc, od, osl, q⟩, hp, ?_, ?_, hc, top, hm⟩⟩
        · unfold fileB at b6
          split at b6
          · rename_i ccl cdd vs ccs ho
            split at b6
            · rename_i x t hx
              exact ⟨_, _, vs, _, x, t, ho, hx, b6⟩
            · cases b6
          · cases b6
        · unfold cellB at b5
          split at b5
          · rename_i cl cld a csl ho
            have ea : a = He.ga K d.cls := of_decide_eq_true b5
            rw [ea] at ho
            exact ⟨_, _, _, ho⟩
          · cases b5
    | _ => cases b
end DX
set_option maxHeartbeats 4000000
namespace DX
open PySem PySem.Spec PyProof.Rows L2 LamX DL
theorem unitsH {k : Nat} {A : Around} (r : L2H.RoomH k A) : A.units + 64 < cLine := by have := r.un; omega
/-- a call of a def that may raise, where it does not -/
theorem pass0 {X : Cx} : Passes (L2.CX X.prog X.w) X E0 := passX (E := E0) LamX.takes0
section
variable {P : Program} {w : World} {K : PySem.W.Frag} {mg : Str → Option Value} {base : Heap} {x qual : Str} {params : Arguments} {body : List Stmt} {scope : Scope} {dvs : List V} {kws : List (Str × V)} {f : Addr} {fd : FuncData}
/-- a def, its code object known -/
theorem d_ok0C {N ps : List Str} {k : Nat} {m : MS} {s : MF} {c : Addr} (F : FunD K x qual params body scope dvs kws f fd) (hc : fd.code = .ref c) (S : FnScope N ps scope)
    (hb : ∀ (A : Around) (outer : List PySem.Env) (sh : Shared) (H : Hp) (E : XK), Room k (A.deeper (envOfC qual scope sh.heap.objs.size f (.ref c))) → PSs (cxOf CX0 P w K mg base N qual scope f (.ref c) A outer sh H E).nox body (tSt K E0 m))
    (len : ∀ ds M k kx, s ds M k kx → ds.length = ps.length)
    (hs : ∀ ds M k kx, s ds M k kx → m { nx := fun _ M' => k .non M', rt := k } (startD N.length ds) M noX) : FnOk P w K mg base CX0 (k + 1) f fd ps (DL.spI K s) := by
  obtain ⟨oc, od, dV, kV, doc, pm, an, cdv, ct, osl, rfl, lk, hcd, _, _⟩ := F.ex
  have ec : cdv = .ref c := hc
  subst ec
  refine fn_of lk hcd S (fun vs H Q E ⟨M, S, ds, k, kx, r, hd, h, _⟩ => by rw [← hd.length]; exact len _ _ _ _ h) fun A outer sh H vs Q E hr ⟨M, S, ds, k, kx, r, hd, h, kv, kxx⟩ => ⟨_, PSs.nox (hb A outer sh H E hr), ?_⟩
  exact ⟨M, S, _, _, noX, r, start_ok hd, hs _ _ _ _ h, fun Γ' M' q H' σ' r' e' er' => kv _ M' q H' _ r' e' (dv_non.mpr rfl), kv, fun Γ' M' q => q.elim, fun Γ' M' q => q.elim, fun _ _ q => q.elim⟩
end
/-- the class x of exceptions: made of n values, with these fields -/
structure ErD (P : Program) (w : World) (K : PySem.W.Frag) (mg : Str → Option Value) (base : Heap) (k : Nat) (x : Str) (n : Nat) (fsD : List D → List (Str × D)) : Prop where
  gl : mg x = some (.ref (He.ga K x))
  oex : OexC K (He.ga K x)
  few : n ≤ 1000
  made : ∃ fI fd ps ok fs, PySem.W.findIn K (.ref (He.ga K x)) "__init__" = some (some (.ref fI)) ∧ PySem.W.typeIn K (.ref fI) = some (.type "function") ∧ FnOk P w K mg base CX0 k fI fd ps (DX.spI K ok n fs) ∧ ok (He.ga K x) ∧ Binds K fd ps [] ∧ FsOk K n fsD fs
section
variable {X : Cx} {E : XK} {k n : Nat} {x : Str} {fsD : List D → List (Str × D)} {e : Expr} {es : List Expr} {mA : MA} {p pos rpos : Pos}
theorem ds_raiseD (D : ErD X.prog X.w X.K X.mg X.base k x n fsD) (hr : Room (k + 1) X.A) (hc : X.calm = true) (tk : Takes X fun c d _ H => E c d H) (hg : Gl X x) (ha : PA X (e :: es) (tA X.K E mA))
    (hdb : (x == ("__debug__" : Str)) = false := by decide) (he : starEach (e :: es) X.env = (false, eval e X.env) :: starEach es X.env := by rfl) (hpl : (backTo pos (starEach es X.env)).any (·.1) = false := by rfl) :
    PS X (.Raise (some (.Call (.Name x p) (e :: es) [] pos)) none rpos) (tSt X.K E (mRaise (He.ga X.K x) n fsD mA)) := by
  obtain ⟨fI, fd, ps, ok, fs, h1, h2, h3, h4, h5, h6⟩ := D.made
  exact ds_raise hc tk (pmk_err D.oex h1 h2 h3 h4 D.few hr h5 hg D.gl h6 ha hdb he hpl)
end
/-! what _law_field tells -/
def fldNames : List Str := ["code", "given", "at", "table", "one", "other", "name", "most", "taken", "number", "line"]
/-- an exception's class that _law_got takes -/
structure okE (K : PySem.W.Frag) (C : Addr) : Prop where
  xf : XfC K C
  no : ∀ n ∈ fldNames, PySem.W.findIn K (.ref C) n = some none
  ex : PySem.W.exmAny K (.ref C) [.ref (He.ga K "LotsError"), .ref (He.ga K "Missing"), .ref (He.ga K "NothingLeft")] = some true
/-- _law_got's and _law_field's defs -/
structure GotD (P : Program) (w : World) (K : PySem.W.Frag) (mg : Str → Option Value) (base : Heap) (k : Nat) (fld : Addr → Addr → MF) : Prop where
  ex : ∃ (a nm pf : Str) (sg : Scope) (pg : Arguments) (g ff : Addr) (fd fdf : FuncData) (j n1 n2 n3 : Nat) (p : Nat → Pos), FunD K "_law_got" "_law_got" pg (gotBody a nm "LotsError" "Missing" "NothingLeft" "_law_field" j n1 n2 n3 p) sg [] [] g fd ∧ mg "_law_got" = some (.ref g) ∧ Binds K fd [a] [] ∧ FnScope [a, nm] [a] sg ∧
    ((a == ("__debug__" : Str)) = false ∧ (a == ("__classdict__" : Str)) = false ∧ (nm == ("__debug__" : Str)) = false ∧ (nm == ("__classdict__" : Str)) = false) ∧ sg.names.lookup a = some .local ∧ sg.names.lookup nm = some .local ∧
    (sg.names.lookup ("LotsError" : Str) = some .globalImplicit ∧ sg.names.lookup ("Missing" : Str) = some .globalImplicit ∧ sg.names.lookup ("NothingLeft" : Str) = some .globalImplicit ∧ sg.names.lookup ("_law_field" : Str) = some .globalImplicit) ∧
    FnE P w K mg base k ff fdf [pf] (spE K (okE K) fld) ∧ mg "_law_field" = some (.ref ff) ∧ PySem.W.keepIn K (.ref ff) = true ∧ Binds K fdf [pf] []
  g1 : mg "LotsError" = some (.ref (He.ga K "LotsError"))
  g2 : mg "Missing" = some (.ref (He.ga K "Missing"))
  g3 : mg "NothingLeft" = some (.ref (He.ga K "NothingLeft"))
section
variable {X : Cx} {E : XK} {k : Nat} {fld : Addr → Addr → MF} {c P : Addr} {params : Arguments} {body : Expr} {scope : Scope} {m : ME} {p lpos pos : Pos}
theorem de_gotD (G : GotD X.prog X.w X.K X.mg X.base k fld) (TB : TabB X.base X.mg c P) (hcode : X.env.code = .ref c) (hg : Gl X "_law_got") (room : Room (k + 2) X.A) (L : LamS X.env.scope scope) (hdef : defaultsOf params X.env = ([], []))
    (hbind : ∀ (q : Str) (cl : List (Str × Addr)) (pm cv ctv : Value), bindArgs (PySem.W.kla_fn "<lambda>" q params body scope cl pm cv ctv) ⟨[], []⟩ = pure [])
    (hbody : ∀ (A : Around) (outer : List PySem.Env) (s : Shared) (H : Hp) (E : XK) (f d : Addr), Room k (A.deeper (lamEnv X scope s.heap.objs.size f d)) → PE (lamCx X A outer s H E scope f d) body (tI X.K E m)) :
    PE X (.Call (.Name "_law_got" p) [.Lambda params body scope lpos] [] pos) (tI X.K E (mGot P (X.env.qual ++ "<lambda>") (okE X.K) fld m)) := by
  obtain ⟨a, nm, pf, sg, pg, g, ff, fd, fdf, j, n1, n2, n3, pp, F, gl, hb, Sg, ⟨d1, d2, d3, d4⟩, la, ln, ⟨l1, l2, l3, l4⟩, Ff, gf, kf, bf⟩ := G.ex
  refine de_got (k := k) F gl hb Sg rfl (.inl la) TB (fun cdv => ?_) hg hcode room L hdef hbind hbody (by decide) d1 d2
  exact got_gives Sg.nd ln l1 l2 l3 l4 G.g1 G.g2 G.g3 (by decide) (by decide) (by decide) (by decide) d3 d4 (fun C h => h.ex) (fun C h => ⟨h.xf, h.no _ (by decide)⟩) Ff gf kf bf (room.mono (by omega))
end
/-- the law at the start, its table empty -/
theorem law_startT {K : PySem.W.Frag} {H : Hp} {a P : Addr} {q : Str} {ns : List Int} {s : MF} (hP : H P = some (.tbl #[])) (hS : SqL K H a (ns.map V.int)) (h : ∀ M : Mh, M P = some (.tab q) → s [.scr ns] M (fun d _ => d = .bl true) noX) : DL.spI K s [.ref a] H (fun v _ => v = .bl true) (fun _ _ _ => False) := by
  have at_ : ∀ b o, b ≠ P → H b = some o → hid (fun b => if b = P then some (MO.tab q) else none) (fun _ => none) H b = some o := fun b o ne e => hid_some.mpr ⟨if_neg ne, rfl, e⟩
  have np : ∀ b o, H b = some o → (∀ ps, o ≠ .tbl ps) → b ≠ P := fun b o e n z => by
    rw [z, hP] at e
    exact n _ (Option.some.inj e).symm
  have hS' : SqL K (hid (fun b => if b = P then some (MO.tab q) else none) (fun _ => none) H) a (ns.map V.int) := by
    rcases hS with (z | ⟨o, z⟩) | z
    · exact .inl (.inl (at_ _ _ (np _ _ z (fun _ y => by cases y)) z))
    · exact .inl (.inr ⟨o, at_ _ _ (np _ _ z (fun _ y => by cases y)) z⟩)
    · exact .inr z
  refine ⟨fun b => if b = P then some (MO.tab q) else none, fun _ => none, [.scr ns], _, noX, ⟨fun b o z => (by cases z), fun b o z => ?_⟩, DVs.one (dv_scr.mpr ⟨a, rfl, hS'⟩), h _ (if_pos rfl), fun d M' z H' v r ex dv => ?_, fun _ _ z => z.elim⟩
  · by_cases e : b = P
    · subst e
      have z' : some (MO.tab q) = some o := (if_pos rfl).symm.trans z
      cases z'
      exact ⟨_, hP, #[], rfl, trivial, fun p v y => by
        have y' : codeAmong p [] = some v := y
        simp [codeAmong] at y'⟩
    · have z' : (none : Option MO) = some o := (if_neg e).symm.trans z
      cases z'
  · subst z
    exact dv_bl.mp dv
end DX
set_option maxHeartbeats 4000000
namespace DX
open PySem PySem.Spec PyProof.Rows L2 DL
/-- what a reading may name: where the classes stand, which exceptions are taken, the table of the code objects -/
structure Ev where
  G : Str → Addr
  ok : Addr → Prop
  P : Addr
def EvD (K : PySem.W.Frag) (V : Ev) : Prop := V.G = He.ga K ∧ V.ok = okE K
def lamQ : Str := ("law" : Str) ++ ".<locals>." ++ "<lambda>"
/-! the fields that the own __init__ leaves -/
def fs0D (z : Str) : List D → List (Str × D) := fun _ => [(("code" : Str), D.str z)]
def fs1D (p z : Str) : List D → List (Str × D) := fun ds => (ds.map fun c => (p, c)) ++ [(("code" : Str), D.str z)]
def fs2D (p q z : Str) : List D → List (Str × D) := fun ds => ([p, q].zip ds).reverse ++ [(("code" : Str), D.str z)]
section
variable {K : PySem.W.Frag}
theorem fs0_ok {z : Str} : FsOk K 0 (fs0D z) fun _ => [(("code" : Str), V.str z)] := fun F ds vs _ _ => ⟨.str z, [], rfl, dv_str.mpr rfl, rfl⟩
theorem fs1_ok {p z : Str} : FsOk K 1 (fs1D p z) fun ws => (ws.map fun c => (p, c)) ++ [(("code" : Str), V.str z)] := fun F ds vs h hl => by
  match ds, hl with
  | [d], _ =>
    obtain ⟨v, r, rfl, h1, h2⟩ := dvs_cons.mp h
    obtain rfl := dvs_nil.mp h2
    exact ⟨v, _, rfl, h1, .str z, [], rfl, dv_str.mpr rfl, rfl⟩
theorem fs2_ok {p q z : Str} : FsOk K 2 (fs2D p q z) fun ws => (([p, q].zip ws).reverse) ++ [(("code" : Str), V.str z)] := fun F ds vs h hl => by
  match ds, hl with
  | [d, e], _ =>
    obtain ⟨v, r, rfl, h1, h2⟩ := dvs_cons.mp h
    obtain ⟨u, r, rfl, h3, h4⟩ := dvs_cons.mp h2
    obtain rfl := dvs_nil.mp h4
    exact ⟨u, _, rfl, h3, v, _, rfl, h1, .str z, [], rfl, dv_str.mpr rfl, rfl⟩
end
end DX
set_option maxHeartbeats 4000000
/-! the program's own classes of exceptions -/
namespace DX
open PySem PySem.Spec PyProof.Rows L2 DL ClX NdefX
abbrev veB : List Value := [.type "ValueError", .type "Exception", .type "BaseException", .type "object"]
theorem ClsF.cls {K : PySem.W.Frag} {newId : String} {x : Str} {ns : List Str} (c : ClsF K newId x ns) : ∃ cd, PySem.W.clsIn K (He.ga K x) = some cd := by
  obtain ⟨nm, q, N, bs, bm, sn, sub, ab, col, dd, k0, k1, k2, k3, k5, h, _⟩ := c.obj
  exact ⟨_, by unfold PySem.W.clsIn; rw [h]⟩
section
variable {P : Program} {w : World} {K : PySem.W.Frag} {mg : Str → Option Value} {base : Heap}
/-- a class over ValueError whose __init__ says super().__init__(par); self.par = par -/
theorem base1 {d : IDef} {par : Str} {ns : List Str} {p0 p1 apos p3 p4 p2 q1 q2 q3 q4 : Pos} {pl : Sem Bool} (e : iSee K d = iVal d) (b : iB K P.main.file d = true) (cl : ClsF K "ValueError.__new__" d.cls ns) (hp : ∃ ar, (d.params.posonlyargs ++ d.params.args).head? = some ar ∧ ar.arg = "self")
    (top : (P.main.scope.names.lookup ("super" : Str)).isSome = false) (hm : mg "super" = none)
    (hbd : d.body = [.Expr (supEx p0 p1 apos p3 (.Name par p2)) p4, .Assign [.Attribute (.Name "self" q1) par q2] (.Name par q3) q4]) (S : NScope ["self", par, "__class__"] ["self", par] ["__class__"] d.scope) (hks : d.scope.names.lookup ("super" : Str) = some .globalImplicit)
    (hev : ∀ env, SupEv p0 p1 apos p3 (.Name par p2) env pl) (hsw : ∀ env, swapsWith (supEx p0 p1 apos p3 (.Name par p2)) none p4.line env = pure false) (hsw2 : ∀ env, swapsWith (.Name par q3) (some (.Attribute (.Name "self" q1) par q2)) q4.line env = pure false)
    (hd : (par == ("__debug__" : Str)) = false) (hdc : (par == ("__classdict__" : Str)) = false)
    (hbi : ∀ (cc : Addr) (kV doc pm : Value) (an : Option Addr) (cdv ct : Value) (us : List Value), us.length = 2 → bindArgs (PySem.W.fnX "__init__" d.qual d.params d.body d.scope [(("__class__" : Str), cc)] .none kV doc pm an cdv ct) ⟨us, []⟩ = pure ([("self" : Str), par].zip us)) :
    ∃ fd, FnOk P w K mg base CX0 1 (He.fAd K (iAt d)) fd ["self", par] (DX.spI K (fun C => ToBlt K C (He.ga K d.cls) "ValueError" "ValueError.__new__" "ValueError.__init__" veB ∧ PySem.W.findIn K (.ref C) par = some none) 1 fun ws => (ws.map fun c => (par, c))) ∧ Binds K fd ["self", par] [] := by
  obtain ⟨cc, cda, kV, doc, pm, ct, oc, an, od, osl, lk, hcd, T⟩ := iLook e b cl.cls hp top hm
  have hB : Binds K (PySem.W.fnX "__init__" d.qual d.params d.body d.scope [(("__class__" : Str), cc)] .none kV doc pm an (.ref cda) ct) ["self", par] [] := .all fun us hl => hbi cc kV doc pm an _ ct us hl
  obtain ⟨cls, qual, params, body, scope⟩ := d
  dsimp only at hbd
  subst hbd
  exact ⟨_, init_blt lk hcd T S hks hev hsw hsw2 hd hdc, hB⟩
/-- what a class over that one asks -/
structure Over (K : PySem.W.Frag) (x b : Str) (ns : List Str) : Prop where
  cl : ClsF K "ValueError.__new__" x ns
  own : ownB K x x (.ref (He.fAd K (b, some "__init__"))) = true
  blt : ownB K x b (.builtin "ValueError.__init__") = true
  isB : PySem.W.subIn K (.ref (He.ga K x)) (.type "ValueError") = some true
def overB (K : PySem.W.Frag) (x b : Str) (ns : List Str) : Bool := clsB K "ValueError.__new__" x ns && (ownB K x x (.ref (He.fAd K (b, some "__init__"))) && (ownB K x b (.builtin "ValueError.__init__") && dec (PySem.W.subIn K (.ref (He.ga K x)) (.type "ValueError")) (some true)))
theorem overB_ok {K : PySem.W.Frag} {x b : Str} {ns : List Str} (h : overB K x b ns = true) : Over K x b ns := by
  obtain ⟨h1, h⟩ := He.ba h
  obtain ⟨h2, h⟩ := He.ba h
  obtain ⟨h3, h4⟩ := He.ba h
  exact ⟨clsB_ok h1, h2, h3, of_decide_eq_true h4⟩
theorem Over.toBlt {x b : Str} {ns : List Str} (o : Over K x b ns) : ToBlt K (He.ga K x) (He.ga K b) "ValueError" "ValueError.__new__" "ValueError.__init__" veB := by
  obtain ⟨h1, h2, h3⟩ := ownB_ok o.blt
  obtain ⟨nm, q, N, bs, bm, sn, sub, ab, col, dd, k0, k1, k2, k3, k5, h, _⟩ := o.cl.obj
  exact ⟨PySem.W.kxs_ValueError, PySem.F.excBase_ValueError, ⟨nm, q, N, bs, bm, true, sn, sub, ab, col, dd, k0, k1, k2, k3, k5, h⟩, o.isB, h1, h2, h3⟩
theorem Over.toOwn {x b : Str} {ns : List Str} (o : Over K x b ns) : ToOwn K (He.ga K x) (He.ga K x) (He.fAd K (b, some "__init__")) := by
  obtain ⟨h1, h2, h3⟩ := ownB_ok o.own
  exact ⟨h1, h2, h3⟩
/-- def __init__(self, par): super().__init__('z'); self.par = par -/
theorem er1 {d d0 : IDef} {par z : Str} {ns ns0 : List Str} {fd0 : FuncData} {p0 p1 apos p3 p4 p2 q1 q2 q3 q4 : Pos} {j : Nat} {pl : Sem Bool} (F0 : FnOk P w K mg base CX0 1 (He.fAd K (iAt d0)) fd0 ["self", "code"] (DX.spI K (fun C => ToBlt K C (He.ga K d0.cls) "ValueError" "ValueError.__new__" "ValueError.__init__" veB ∧ PySem.W.findIn K (.ref C) "code" = some none) 1 fun ws => (ws.map fun c => (("code" : Str), c))))
    (B0 : Binds K fd0 ["self", "code"] []) (c0 : ClsF K "ValueError.__new__" d0.cls ns0) (gl : mg d.cls = some (.ref (He.ga K d.cls))) (o : Over K d.cls d0.cls ns) (n1 : ("code" : Str) ∈ ns) (n2 : par ∈ ns)
    (e : iSee K d = iVal d) (b : iB K P.main.file d = true) (hp : ∃ ar, (d.params.posonlyargs ++ d.params.args).head? = some ar ∧ ar.arg = "self")
    (top : (P.main.scope.names.lookup ("super" : Str)).isSome = false) (hm : mg "super" = none)
    (hbd : d.body = [.Expr (supEx p0 p1 apos p3 (.Constant (.str z) j p2)) p4, asgS par q1 q2 q3 q4]) (S : NScope ["self", par, "__class__"] ["self", par] ["__class__"] d.scope) (hks : d.scope.names.lookup ("super" : Str) = some .globalImplicit)
    (hev : ∀ env, SupEv p0 p1 apos p3 (.Constant (.str z) j p2) env pl) (hsw : ∀ env, swapsWith (supEx p0 p1 apos p3 (.Constant (.str z) j p2)) none p4.line env = pure false) (hsw2 : ∀ env, swapsWith (.Name par q3) (some (.Attribute (.Name "self" q1) par q2)) q4.line env = pure false)
    (hd : (par == ("__debug__" : Str)) = false) (hdc : (par == ("__classdict__" : Str)) = false)
    (hbi : ∀ (cc : Addr) (kV doc pm : Value) (an : Option Addr) (cdv ct : Value) (us : List Value), us.length = 2 → bindArgs (PySem.W.fnX "__init__" d.qual d.params d.body d.scope [(("__class__" : Str), cc)] .none kV doc pm an cdv ct) ⟨us, []⟩ = pure ([("self" : Str), par].zip us)) :
    ErD P w K mg base 2 d.cls 1 (fs1D par z) := by
  obtain ⟨cc, cda, kV, doc, pm, ct, oc, an, od, osl, lk, hcd, T⟩ := iLook e b o.cl.cls hp top hm
  have hB : Binds K (PySem.W.fnX "__init__" d.qual d.params d.body d.scope [(("__class__" : Str), cc)] .none kV doc pm an (.ref cda) ct) ["self", par] [] := .all fun us hl => hbi cc kV doc pm an _ ct us hl
  obtain ⟨cls, qual, params, body, scope⟩ := d
  dsimp only at hbd
  subst hbd
  exact ⟨gl, o.cl.oex, by decide, _, _, _, _, _, o.cl.ini, o.cl.fty, init_own1 lk hcd T S hks hev hsw hsw2 hd hdc c0.fin c0.fty (FnOk.r F0 B0), ⟨o.toOwn, ⟨o.toBlt, o.cl.no _ n1⟩, o.cl.no _ n2⟩, hB, fs1_ok⟩
end
end DX
set_option maxHeartbeats 4000000
namespace DX
open PySem PySem.Spec PyProof.Rows L2 DL LamX
/-- the places of _law_got's text -/
def gotPos : List Stmt → Nat → Pos
  | [.Try [.Return (some (.Tuple [.Constant _ _ p0, .Call (.Name _ p1) _ _ p2] _ p3)) p4]
      [.ExceptHandler (some (.Tuple [.Name _ p5, .Name _ p6, .Name _ p7] _ p8)) _ [.Return (some (.Tuple [.Attribute (.Name _ p9) _ p10, .Call (.Name _ p11) [.Name _ p12] _ p13] _ p14)) p15] p16] _ _ p17] =>
    fun i => [p0, p1, p2, p3, p4, p5, p6, p7, p8, p9, p10, p11, p12, p13, p14, p15, p16, p17].getD i p0
  | _ => fun _ => ⟨0, 0, 0, 0⟩
theorem code_of {K : PySem.W.Frag} {x qual : Str} {params : Arguments} {body : List Stmt} {scope : Scope} {dvs : List V} {kws : List (Str × V)} {fd : FuncData} {p : Str × Option Str} (F : FunD K x qual params body scope dvs kws (He.fAd K p) fd) : fd.code = .ref (He.codeOf K p) := by
  obtain ⟨oc, od, dV, kV, doc, pm, an, cdv, ct, osl, rfl, lk, hcd, _, _⟩ := F.ex
  obtain ⟨c, rfl⟩ := He.codeIn_ref hcd
  rw [He.codeOf_eq lk rfl]
end DX
/-! _law_field -/
namespace CM
open PySem L2 DL DX
def b__law_field (a dd : Addr) : MS := (mSeq (mIfS (mTest (mOp dIn (mFld a dd "code" (mVar 0)) (mLst (mCons (mC (.str "InvalidName")) (mCons (mC (.str "InvalidKey")) (mCons (mC (.str "InvalidTest")) (mCons (mC (.str "InvalidThing")) (mCons (mC (.str "InvalidSetting")) (mCons (mC (.str "InvalidWord")) (mCons (mC (.str "InvalidNumber")) mNil)))))))))) (mRet (mFld a dd "given" (mVar 0))) mNext) (mSeq (mIfS (mTest (mOp dIn (mFld a dd "code" (mVar 0)) (mLst (mCons (mC (.str "InvalidColumn")) (mCons (mC (.str "InvalidSide")) (mCons (mC (.str "InvalidStep")) (mCons (mC (.str "InvalidCommand")) mNil))))))) (mRet (mFld a dd "at" (mVar 0))) mNext) (mSeq (mIfS (mTest (mOp dEq (mFld a dd "code" (mVar 0)) (mC (.str "InvalidRow")))) (mRet (mTup (mCons (mFld a dd "table" (mVar 0)) (mCons (mFld a dd "at" (mVar 0)) mNil)))) mNext) (mSeq (mIfS (mTest (mOp dEq (mFld a dd "code" (mVar 0)) (mC (.str "Torn")))) (mRet (mTup (mCons (mFld a dd "one" (mVar 0)) (mCons (mFld a dd "other" (mVar 0)) mNil)))) mNext) (mSeq (mIfS (mTest (mOp dIn (mFld a dd "code" (mVar 0)) (mLst (mCons (mC (.str "DuplicateName")) (mCons (mC (.str "UnknownName")) (mCons (mC (.str "UnknownColumn")) mNil)))))) (mRet (mFld a dd "name" (mVar 0))) mNext) (mSeq (mIfS (mTest (mOp dIn (mFld a dd "code" (mVar 0)) (mLst (mCons (mC (.str "TooMany")) (mCons (mC (.str "Full")) mNil))))) (mRet (mFld a dd "most" (mVar 0))) mNext) (mSeq (mIfS (mTest (mOp dEq (mFld a dd "code" (mVar 0)) (mC (.str "SideTaken")))) (mRet (mFld a dd "taken" (mVar 0))) mNext) (mSeq (mIfS (mTest (mOp dEq (mFld a dd "code" (mVar 0)) (mC (.str "UnknownRow")))) (mRet (mFld a dd "number" (mVar 0))) mNext) (mRet (mIf (mTest (mOp dEq (mFld a dd "code" (mVar 0)) (mC (.str "InvalidText")))) (mFld a dd "line" (mVar 0)) (mC .non)))))))))))
def fl1 : List D := [.str "InvalidName", .str "InvalidKey", .str "InvalidTest", .str "InvalidThing", .str "InvalidSetting", .str "InvalidWord", .str "InvalidNumber"]
def fl2 : List D := [.str "InvalidColumn", .str "InvalidSide", .str "InvalidStep", .str "InvalidCommand"]
def fl3 : List D := [.str "DuplicateName", .str "UnknownName", .str "UnknownColumn"]
def fl4 : List D := [.str "TooMany", .str "Full"]
def pairD : Option D → Option D → Option D
  | some a, some b => some (.tup [a, b])
  | _, _ => none
def fieldD (c : Str) (f : Str → Option D) : Option D :=
  if inF (.str c) fl1 = true then f "given" else if inF (.str c) fl2 = true then f "at" else if decide (c = "InvalidRow") = true then pairD (f "table") (f "at") else if decide (c = "Torn") = true then pairD (f "one") (f "other")
  else if inF (.str c) fl3 = true then f "name" else if inF (.str c) fl4 = true then f "most" else if decide (c = "SideTaken") = true then f "taken" else if decide (c = "UnknownRow") = true then f "number" else if decide (c = "InvalidText") = true then f "line" else some .non
def sField (a dd : Addr) : MF := fun ds M k _ => ∃ ns es c v, ds = [.exc a dd ns es] ∧ (ns.zip es).lookup ("code" : Str) = some (.str c) ∧ fieldD c (fun n => (ns.zip es).lookup n) = some v ∧ k v M
theorem field_len (a dd : Addr) (ds : List D) (M : Mh) (k : DK) (kx : XKd) (h : sField a dd ds M k kx) : ds.length = 1 := by
  obtain ⟨_, _, _, _, e, _⟩ := h
  rw [e]
  rfl
section
variable {a dd : Addr} {ns : List Str} {es : List D} {c : Str} {De : DEnds} {M : Mh} {kx : XKd} {m1 m2 : MS}
theorem f_in {ml : MA} (l : List D) (hc : (ns.zip es).lookup ("code" : Str) = some (.str c)) (hl : ∀ (Γ : DL.Env) M k kx, ml Γ M k kx = k l M) (hz : l.length ≤ 1000) (hf : l.all flat = true) (h1 : inF (.str c) l = true → m1 De [some (.exc a dd ns es)] M kx) (h2 : ¬ inF (.str c) l = true → m2 De [some (.exc a dd ns es)] M kx) :
    mIfS (mTest (mOp dIn (mFld a dd "code" (mVar 0)) (mLst ml))) m1 m2 De [some (.exc a dd ns es)] M kx := by
  refine ⟨.exc a dd ns es, rfl, ns, es, .str c, rfl, hc, ?_⟩
  show ml _ M _ kx
  rw [hl]
  refine ⟨by rw [sizeLine_eq]; omega, l, rfl, rfl, hf, _, rfl, ?_⟩
  show if inF (.str c) l = true then _ else _
  split
  · rename_i h; exact h1 h
  · rename_i h; exact h2 h
theorem f_eq (z : Str) (hc : (ns.zip es).lookup ("code" : Str) = some (.str c)) (h1 : decide (c = z) = true → m1 De [some (.exc a dd ns es)] M kx) (h2 : ¬ decide (c = z) = true → m2 De [some (.exc a dd ns es)] M kx) :
    mIfS (mTest (mOp dEq (mFld a dd "code" (mVar 0)) (mC (.str z)))) m1 m2 De [some (.exc a dd ns es)] M kx := by
  refine ⟨.exc a dd ns es, rfl, ns, es, .str c, rfl, hc, ?_⟩
  show ∃ b, D.bl (decide (c = z)) = .bl b ∧ _
  refine ⟨_, rfl, ?_⟩
  show if decide (c = z) = true then _ else _
  split
  · rename_i h; exact h1 h
  · rename_i h; exact h2 h
theorem f_get {n : Str} {v : D} {k : DK} (h : (ns.zip es).lookup n = some v) (hk : k v M) : mFld a dd n (mVar 0) [some (.exc a dd ns es)] M k kx := ⟨.exc a dd ns es, rfl, ns, es, v, rfl, h, hk⟩
theorem f_two {n n' : Str} {v : D} {k : DK} (h : pairD ((ns.zip es).lookup n) ((ns.zip es).lookup n') = some v) (hk : k v M) : mTup (mCons (mFld a dd n (mVar 0)) (mCons (mFld a dd n' (mVar 0)) mNil)) [some (.exc a dd ns es)] M k kx := by
  cases e1 : (ns.zip es).lookup n with
  | none => rw [e1] at h; cases h
  | some x =>
    cases e2 : (ns.zip es).lookup n' with
    | none => rw [e1, e2] at h; cases h
    | some y =>
      rw [e1, e2] at h
      cases h
      exact ⟨.exc a dd ns es, rfl, ns, es, x, rfl, e1, .exc a dd ns es, rfl, ns, es, y, rfl, e2, by rw [sizeLine_eq]; show 2 ≤ _; omega, hk⟩
end
theorem field_ok (a dd : Addr) (ds : List D) (M : Mh) (k : DK) (h : sField a dd ds M k noX) : b__law_field a dd { nx := fun _ M' => k .non M', rt := k } (startD 1 ds) M noX := by
  obtain ⟨ns, es, c, v, rfl, hc, hv, hk⟩ := h
  show b__law_field a dd _ [some (.exc a dd ns es)] M noX
  unfold fieldD at hv
  refine f_in fl1 hc (fun _ _ _ _ => rfl) (by decide) (by decide) (fun q => ?_) fun q => ?_
  · rw [if_pos q] at hv; exact f_get hv hk
  rw [if_neg q] at hv
  refine f_in fl2 hc (fun _ _ _ _ => rfl) (by decide) (by decide) (fun q => ?_) fun q => ?_
  · rw [if_pos q] at hv; exact f_get hv hk
  rw [if_neg q] at hv
  refine f_eq _ hc (fun q => ?_) fun q => ?_
  · rw [if_pos q] at hv; exact f_two hv hk
  rw [if_neg q] at hv
  refine f_eq _ hc (fun q => ?_) fun q => ?_
  · rw [if_pos q] at hv; exact f_two hv hk
  rw [if_neg q] at hv
  refine f_in fl3 hc (fun _ _ _ _ => rfl) (by decide) (by decide) (fun q => ?_) fun q => ?_
  · rw [if_pos q] at hv; exact f_get hv hk
  rw [if_neg q] at hv
  refine f_in fl4 hc (fun _ _ _ _ => rfl) (by decide) (by decide) (fun q => ?_) fun q => ?_
  · rw [if_pos q] at hv; exact f_get hv hk
  rw [if_neg q] at hv
  refine f_eq _ hc (fun q => ?_) fun q => ?_
  · rw [if_pos q] at hv; exact f_get hv hk
  rw [if_neg q] at hv
  refine f_eq _ hc (fun q => ?_) fun q => ?_
  · rw [if_pos q] at hv; exact f_get hv hk
  rw [if_neg q] at hv
  refine ⟨.exc a dd ns es, rfl, ns, es, .str c, rfl, hc, ?_⟩
  show ∃ b, D.bl (decide (c = "InvalidText")) = .bl b ∧ _
  refine ⟨_, rfl, ?_⟩
  by_cases q : decide (c = "InvalidText") = true
  · rw [if_pos q] at hv ⊢; exact f_get hv hk
  · rw [if_neg q] at hv ⊢
    cases hv
    exact hk
end CM
set_option maxHeartbeats 1000000
/-! is_column_name, is_test -/
namespace CM
open PySem L2 DL TL
def kvP : List (Str × He.Dv) := [("is", (.int 3)), ("has", (.int 2)), ("not", (.int 2)), ("and", (.int 3)), ("or", (.int 3))]
def tabP : TabD := kvP.map fun q => (q.1, dvD q.2)
def b_is_column_name : MS := (mSeq (mIfS (mNot (mTest (mUn (dIsi "str") (mVar 0)))) (mRet (mC (.bl false))) mNext) (mRet (mAndV (mOp dLe (mCB cLen (mCons (mSplit (mVar 0) (mC (.str "."))) mNil)) (mC (.int 2))) (mCB cAll (mCons (mLc (.nm 1) (mSeqI (mSplit (mVar 0) (mC (.str ".")))) mYes (mCall sIsName (mCons (mVar 1) mNil)) [1]) mNil)))))
def b_is_test (testN : Nat) : MS := (mSeq (mIfS (mOr (mTest (mOp dEq (mVar 1) (mC (.int 0)))) (mOr (mNot (mTest (mUn (dIsi "tuple") (mVar 0)))) (mOr (mTest (mOp dEq (mCB cLen (mCons (mVar 0) mNil)) (mC (.int 0)))) (mNot (mTest (mUn (dIsi "str") (mOp dIx (mVar 0) (mC (.int 0))))))))) (mRet (mC (.bl false))) mNext) (mSeq (mIfS (mTest (mOp dNe (mTabGet tabP (mOp dIx (mVar 0) (mC (.int 0))) (mC (.int 0))) (mCB cLen (mCons (mVar 0) mNil)))) (mRet (mC (.bl false))) mNext) (mSeq (mIfS (mTest (mOp dEq (mOp dIx (mVar 0) (mC (.int 0))) (mC (.str "is")))) (mRet (mAndV (mCall sIsColName (mCons (mOp dIx (mVar 0) (mC (.int 1))) mNil)) (mCall sIsName (mCons (mOp dIx (mVar 0) (mC (.int 2))) mNil)))) mNext) (mSeq (mIfS (mTest (mOp dEq (mOp dIx (mVar 0) (mC (.int 0))) (mC (.str "has")))) (mRet (mCall sIsName (mCons (mOp dIx (mVar 0) (mC (.int 1))) mNil))) mNext) (mRet (mCB cAll (mCons (mLc (.nm 2) (mSeqI (mSl dSlice (mVar 0) (mPart (mC (.int 1))) mNoPart)) mYes (mCallN 1 1 (sIsTest testN) (fun us ws => pick3 [(0, 0), (2, 0)] us [] ws) (mCons (mVar 2) mNil) (mCons (mOp dSub (mVar 1) (mC (.int 1))) mNil)) [2]) mNil)))))))
theorem dot_len : ((("." : Str).length) == 0) = false := by decide +kernel
theorem col_ok (ds : List D) (M : Mh) (k : DK) (kx : XKd) (h : sIsColName ds M k kx) : b_is_column_name { nx := fun _ M' => k .non M', rt := k } (startD 2 ds) M noX := by
  obtain ⟨d, rfl, ht, hz, h⟩ := h
  have other : isCol d = false → isiB (tyN M d) "str" = false → b_is_column_name { nx := fun _ M' => k .non M', rt := k } (startD 2 [d]) M noX := fun e1 e2 => by
    rw [e1] at h
    refine ⟨d, rfl, ht, _, rfl, ?_⟩
    rw [e2]
    exact h
  cases d with
  | str z =>
    have hz := hz z rfl
    have h : k (.bl (isColS z)) M := h
    have hs : z.length + 2 ≤ sizeLine := sz_le (by omega)
    have hm : ((splitD z).map D.str).length ≤ 1001 := by
      unfold splitD
      rw [List.length_map, List.length_map]
      have := spl_many (tl z) []
      rw [← len_tl] at this
      omega
    refine ⟨_, rfl, ht, _, rfl, ?_⟩
    refine ⟨_, rfl, z, rfl, ".", rfl, dot_len, hs, ?_⟩
    rw [split_dot]
    refine ⟨_, rfl, _, rfl, _, _, rfl, rfl, trivial, _, rfl, ?_⟩
    unfold isColS at h
    have el : decide ((((splitD z).map D.str).length : Int) ≤ 2) = decide ((splitD z).length ≤ 2) := by
      rw [List.length_map]
      exact decide_eq_decide.mpr (by omega)
    rw [el]
    by_cases h2 : (splitD z).length ≤ 2
    · rw [decide_eq_true h2] at h ⊢
      refine ⟨_, rfl, z, rfl, ".", rfl, dot_len, hs, ?_⟩
      rw [split_dot]
      refine ⟨sz_le (by omega), ?_⟩
      refine lc_map (fun d => .bl (isName d)) trivial (fun d hd => ?_) ?_
      · obtain ⟨p, hp, rfl⟩ := List.mem_map.mp hd
        refine ⟨_, rfl, fun k' hk => ⟨_, rfl, _, rfl, by show "str" ∈ tys; decide, fun y e => ?_, hk⟩⟩
        cases e
        unfold splitD at hp
        obtain ⟨l, hl, rfl⟩ := List.mem_map.mp hp
        have := spl_len (tl z) [] l hl
        rw [← len_tl, List.length_nil] at this
        rw [len_tl, tl_mk]
        omega
      · refine ⟨_, _, _, rfl, rfl, bls_map isName _, ?_⟩
        have e : (((splitD z).map D.str).map isName).all id = (splitD z).all isNameS := by
          rw [List.map_map, List.all_map]
          rfl
        rw [e]
        exact h
    · rw [decide_eq_false h2] at h ⊢
      exact h
  | non => exact other rfl rfl
  | bl _ => exact other rfl rfl
  | int _ => exact other rfl rfl
  | tup _ => exact other rfl rfl
  | lst _ => exact other rfl rfl
  | ty _ => exact other rfl rfl
  | scr _ => exact other rfl rfl
  | exc _ _ _ _ => exact other rfl rfl
  | ref a =>
    refine other rfl ?_
    show isiB (tyM (M a)) "str" = false
    unfold tyM
    split <;> rfl
theorem isT_zero (d : D) : isT 0 d = false := by cases d <;> rfl
theorem tab_get (z : Str) : (tabP.lookup z).getD (.int 0) = .int (partsI z) := parts_get z
theorem cut_tail (e : D) (es : List D) : cutD (e :: es) (some 1) none = es := by
  unfold cutD
  rw [show (some 1 : Option Int) = some ((1 : Nat) : Int) from rfl, HT.sIx_nat, HT.sIx_none, List.length_cons, Nat.min_eq_left (by omega)]
  show (es.take (es.length + 1 - 1)) = es
  rw [Nat.add_sub_cancel, List.take_length]
theorem parts_le (z : Str) : partsI z ≤ 3 := by
  unfold partsI
  repeat' split
  all_goals decide
theorem len_two {α : Type} {l : List α} (h : l.length = 2) : ∃ a b, l = [a, b] := by
  match l, h with
  | [a, b], _ => exact ⟨a, b, rfl⟩
theorem len_one {α : Type} {l : List α} (h : l.length = 1) : ∃ a, l = [a] := by
  match l, h with
  | [a], _ => exact ⟨a, rfl⟩
theorem test_ok (n : Nat) (ds : List D) (M : Mh) (k : DK) (kx : XKd) (h : sIsTest (n + 1) ds M k kx) : b_is_test n { nx := fun _ M' => k .non M', rt := k } (startD 3 ds) M noX := by
  obtain ⟨d, m, j, rfl, hm, hj, h⟩ := h
  have ht := ok_ty M hj
  unfold b_is_test
  refine ⟨_, rfl, _, rfl, ?_⟩
  cases m with
  | zero =>
    rw [isT_zero] at h
    exact h
  | succ m =>
    have e0 : decide (((m + 1 : Nat) : Int) = 0) = false := decide_eq_false (by omega)
    rw [show (if false = true then !decide (((m + 1 : Nat) : Int) = 0) else decide (((m + 1 : Nat) : Int) = 0)) = false from e0]
    refine ⟨_, rfl, ht, _, rfl, ?_⟩
    cases d with
    | non => exact h
    | bl _ => exact h
    | int _ => exact h
    | str _ => exact h
    | lst _ => exact h
    | ref a => cases j <;> simp [okD] at hj
    | ty _ => cases j <;> simp [okD] at hj
    | scr _ => cases j <;> simp [okD] at hj
    | exc _ _ _ _ => cases j <;> simp [okD] at hj
    | tup es =>
      cases j with
      | zero => simp [okD] at hj
      | succ j =>
      rw [okD, Bool.and_eq_true, decide_eq_true_eq] at hj
      obtain ⟨hlen, hall⟩ := hj
      refine ⟨_, rfl, _, rfl, es, rfl, _, rfl, ?_⟩
      cases es with
      | nil => exact h
      | cons e es =>
        rw [List.length_cons] at hlen
        have el : decide ((((e :: es : List D).length : Nat) : Int) = 0) = false := decide_eq_false (by rw [List.length_cons]; omega)
        rw [show (if false = true then !decide ((((e :: es : List D).length : Nat) : Int) = 0) else decide ((((e :: es : List D).length : Nat) : Int) = 0)) = false from el]
        have hall2 := okAll_mem hall
        have hte := ok_ty M (hall2 e List.mem_cons_self)
        refine ⟨_, rfl, 0, _, e, rfl, rfl, at_of' (j := 0) rfl rfl, hte, _, rfl, ?_⟩
        cases e with
        | non => exact h
        | bl _ => exact h
        | int _ => exact h
        | tup _ => exact h
        | lst _ => exact h
        | ref a => exact absurd (hall2 _ List.mem_cons_self) (by cases j <;> simp [okD])
        | ty _ => exact absurd (hall2 _ List.mem_cons_self) (by cases j <;> simp [okD])
        | scr _ => exact absurd (hall2 _ List.mem_cons_self) (by cases j <;> simp [okD])
        | exc _ _ _ _ => exact absurd (hall2 _ List.mem_cons_self) (by cases j <;> simp [okD])
        | str z =>
          have h : k (.bl (decide (partsI z = ((.str z :: es : List D).length : Int)) && if z = "is" then isCol (es.getD 0 .non) && isName (es.getD 1 .non) else if z = "has" then isName (es.getD 0 .non) else es.all (isT m))) M := h
          refine ⟨_, rfl, 0, _, _, rfl, rfl, at_of' (j := 0) rfl rfl, z, rfl, _, rfl, _, rfl, _, rfl, ?_⟩
          rw [tab_get]
          show ∃ c, D.bl (!decide (partsI z = ((D.str z :: es : List D).length : Int))) = D.bl c ∧ _
          refine ⟨_, rfl, ?_⟩
          dsimp only
          by_cases hp : partsI z = ((.str z :: es : List D).length : Int)
          · rw [decide_eq_true hp, Bool.true_and] at h
            rw [show (!decide (partsI z = ((D.str z :: es : List D).length : Int))) = false by rw [decide_eq_true hp]; rfl]
            rw [List.length_cons] at hp
            refine ⟨_, rfl, 0, _, _, rfl, rfl, at_of' (j := 0) rfl rfl, _, rfl, ?_⟩
            by_cases h1 : z = "is"
            · subst h1
              rw [if_pos rfl] at h
              obtain ⟨c, w, rfl⟩ := len_two (l := es) (by have : partsI "is" = 3 := by decide +kernel
                                                          omega)
              have hc := hall2 c (by simp)
              have hw := hall2 w (by simp)
              refine ⟨_, rfl, 1, _, c, rfl, rfl, rfl, c, rfl, ok_ty M hc, ok_str hc, _, rfl, ?_⟩
              have h : k (.bl (isCol c && isName w)) M := h
              cases q : isCol c with
              | true =>
                rw [q, Bool.true_and] at h
                exact ⟨_, rfl, 2, _, w, rfl, rfl, rfl, w, rfl, ok_ty M hw, fun z e => Nat.le_trans (ok_str hw z e) (by decide), h⟩
              | false =>
                rw [q, Bool.false_and] at h
                exact h
            · rw [if_neg h1] at h
              rw [show (if false = true then !decide (z = "is") else decide (z = "is")) = false from decide_eq_false h1]
              refine ⟨_, rfl, 0, _, _, rfl, rfl, at_of' (j := 0) rfl rfl, _, rfl, ?_⟩
              by_cases h2 : z = "has"
              · subst h2
                rw [if_pos rfl] at h
                obtain ⟨w, rfl⟩ := len_one (l := es) (by have : partsI "has" = 2 := by decide +kernel
                                                         omega)
                have hw := hall2 w (by simp)
                exact ⟨_, rfl, 1, _, w, rfl, rfl, rfl, w, rfl, ok_ty M hw, fun z e => Nat.le_trans (ok_str hw z e) (by decide), h⟩
              · rw [if_neg h2] at h
                rw [show (if false = true then !decide (z = "has") else decide (z = "has")) = false from decide_eq_false h2]
                refine ⟨_, rfl, 1, rfl, ?_⟩
                show (cutD (.str z :: es) (some 1) none).length ≤ sizeLine ∧ loopLc _ _ _ _ _ _ _ _ (cutD (.str z :: es) (some 1) none) _
                rw [cut_tail]
                refine ⟨sz_le (by omega), ?_⟩
                refine lc_map (fun d => .bl (isT m d)) trivial (fun d hd => ?_) ?_
                · refine ⟨_, rfl, fun k' hk => ⟨_, rfl, _, rfl, _, _, rfl, rfl, trivial, rfl, rfl, d, m, j, ?_, by omega, hall2 d (List.mem_cons_of_mem _ hd), hk⟩⟩
                  show [d, D.int (((m + 1 : Nat) : Int) - 1)] = [d, .int (m : Int)]
                  rw [show ((m + 1 : Nat) : Int) - 1 = (m : Int) by omega]
                · refine ⟨_, _, _, rfl, rfl, bls_map (isT m) _, ?_⟩
                  rw [List.all_map]
                  exact h
          · rw [decide_eq_false hp, Bool.false_and] at h
            rw [show (!decide (partsI z = ((D.str z :: es : List D).length : Int))) = true by rw [decide_eq_false hp]; rfl]
            exact h

theorem sz (n : Nat) (h : n ≤ 1000000 := by decide) : n ≤ sizeLine := sz_le h
end CM
set_option maxHeartbeats 1000000
/-! tests as words: the plain law of k03 -/
namespace K03
open PySem L2 DL DX TL CM
/-- the words of a test of at most so many levels -/
inductive PT : Nat → List Str → D → Prop
  | is {n : Nat} {c w : Str} : isColS c = true → isNameS w = true → PT (n + 1) ["is", c, w] (.tup [.str "is", .str c, .str w])
  | has {n : Nat} {w : Str} : isNameS w = true → PT (n + 1) ["has", w] (.tup [.str "has", .str w])
  | not {n : Nat} {us : List Str} {d : D} : PT n us d → PT (n + 1) ("not" :: us) (.tup [.str "not", d])
  | two {n : Nat} {h : Str} {us vs : List Str} {d e : D} : h = "and" ∨ h = "or" → PT n us d → PT n vs e → PT (n + 1) (h :: (us ++ vs)) (.tup [.str h, d, e])
/-- the reader: the test at the words' head, and of how many words it is -/
def pL : Nat → List Str → Option (D × Nat)
  | 0, _ => none
  | _ + 1, [] => none
  | n + 1, w :: r =>
    if w = "is" then (match r with
      | c :: x :: _ => if (isColS c && isNameS x) = true then some (.tup [.str "is", .str c, .str x], 3) else none
      | _ => none)
    else if w = "has" then (match r with
      | x :: _ => if isNameS x = true then some (.tup [.str "has", .str x], 2) else none
      | _ => none)
    else if w = "not" then (match pL n r with
      | some (d, m) => some (.tup [.str "not", d], 1 + m)
      | none => none)
    else if w = "and" ∨ w = "or" then (match pL n r with
      | some (d, m) => (match pL n (r.drop m) with
        | some (e, m') => some (.tup [.str w, d, e], 1 + m + m')
        | none => none)
      | none => none)
    else none
theorem k1 : ¬ ("has" : Str) = "is" := by decide
theorem k2 : ¬ ("not" : Str) = "is" := by decide
theorem k3 : ¬ ("not" : Str) = "has" := by decide
theorem k4 {h : Str} (hh : h = "and" ∨ h = "or") : ¬ h = "is" ∧ ¬ h = "has" ∧ ¬ h = "not" := by rcases hh with rfl | rfl <;> decide
theorem PT.pL {n : Nat} {us : List Str} {d : D} (h : PT n us d) : ∀ r, K03.pL n (us ++ r) = some (d, us.length) := by
  induction h with
  | is h1 h2 =>
    intro r
    show (if ("is" : Str) = "is" then _ else _) = _
    rw [if_pos rfl]
    show (if _ then _ else _) = _
    rw [if_pos (by rw [h1, h2]; rfl)]
    rfl
  | has h1 =>
    intro r
    show (if ("has" : Str) = "is" then _ else if ("has" : Str) = "has" then _ else _) = _
    rw [if_neg k1, if_pos rfl]
    show (if _ then _ else _) = _
    rw [if_pos h1]
    rfl
  | @not n us d h ih =>
    intro r
    show (if ("not" : Str) = "is" then _ else if ("not" : Str) = "has" then _ else if ("not" : Str) = "not" then (match K03.pL n (us ++ r) with | some (d, m) => some (D.tup [.str "not", d], 1 + m) | none => none) else _) = _
    rw [if_neg k2, if_neg k3, if_pos rfl, ih r, List.length_cons, Nat.add_comm]
  | @two n h us vs d e hh h1 h2 ih1 ih2 =>
    intro r
    obtain ⟨a1, a2, a3⟩ := k4 hh
    have e1 : us ++ vs ++ r = us ++ (vs ++ r) := List.append_assoc ..
    show (if h = "is" then _ else if h = "has" then _ else if h = "not" then _ else if h = "and" ∨ h = "or" then (match K03.pL n (us ++ vs ++ r) with
      | some (d, m) => (match K03.pL n ((us ++ vs ++ r).drop m) with
        | some (e, m') => some (D.tup [.str h, d, e], 1 + m + m')
        | none => none)
      | none => none) else _) = _
    rw [if_neg a1, if_neg a2, if_neg a3, if_pos hh, e1, ih1]
    show (match K03.pL n ((us ++ (vs ++ r)).drop us.length) with | some (e, m') => some (D.tup [.str h, d, e], 1 + us.length + m') | none => none) = _
    rw [List.drop_left, ih2, List.length_cons, List.length_append]
    show some (_, _) = some (_, _)
    rw [show 1 + us.length + vs.length = us.length + vs.length + 1 by omega]
theorem pL_PT : ∀ (n : Nat) (l : List Str) (d : D) (c : Nat), K03.pL n l = some (d, c) → ∃ us r, l = us ++ r ∧ us.length = c ∧ PT n us d
  | 0, _, _, _, h => by cases h
  | _ + 1, [], _, _, h => by cases h
  | n + 1, w :: r, d, c, h => by
    unfold K03.pL at h
    split at h
    · rename_i e
      subst e
      split at h
      · rename_i x y z
        split at h
        · rename_i q
          rw [Bool.and_eq_true] at q
          cases h
          exact ⟨["is", x, y], z, rfl, rfl, .is q.1 q.2⟩
        · cases h
      · cases h
    split at h
    · rename_i e
      subst e
      split at h
      · rename_i x z
        split at h
        · rename_i q
          cases h
          exact ⟨["has", x], z, rfl, rfl, .has q⟩
        · cases h
      · cases h
    split at h
    · rename_i e
      subst e
      split at h
      · rename_i d' m q
        cases h
        obtain ⟨us, z, e1, e2, e3⟩ := pL_PT n r _ _ q
        exact ⟨"not" :: us, z, by rw [e1]; rfl, by rw [List.length_cons, e2, Nat.add_comm], .not e3⟩
      · cases h
    split at h
    · rename_i hh
      split at h
      · rename_i d1 m q
        split at h
        · rename_i d2 m' q2
          cases h
          obtain ⟨us, z, e1, e2, e3⟩ := pL_PT n r _ _ q
          obtain ⟨vs, z2, e4, e5, e6⟩ := pL_PT n _ _ _ q2
          rw [e1, ← e2, List.drop_left] at e4
          exact ⟨w :: (us ++ vs), z2, by rw [e1, e4, List.cons_append, List.append_assoc], by rw [List.length_cons, List.length_append, e2, e5]; omega, .two hh e3 e6⟩
        · cases h
      · cases h
    · cases h
theorem PT.up {n : Nat} {us : List Str} {d : D} (h : PT n us d) : PT (n + 1) us d := by
  induction h with
  | is h1 h2 => exact .is h1 h2
  | has h1 => exact .has h1
  | not _ ih => exact .not ih
  | two hh _ _ ih1 ih2 => exact .two hh ih1 ih2
theorem PT.le {n m : Nat} (hm : n ≤ m) {us : List Str} {d : D} (h : PT n us d) : PT m us d := by
  induction hm with
  | refl => exact h
  | step _ ih => exact ih.up
theorem PT.isT {n : Nat} {us : List Str} {d : D} (h : PT n us d) : CM.isT n d = true := by
  induction h with
  | is h1 h2 => rw [is_is]; show (isColS _ && isNameS _) = true; rw [h1, h2]; rfl
  | has h1 => rw [is_has]; exact h1
  | not _ ih => rw [is_not]; exact ih
  | two hh _ _ ih1 ih2 => rw [is_two hh, ih1, ih2]; rfl
theorem PT.pos {n : Nat} {us : List Str} {d : D} (h : PT n us d) : 1 ≤ n := by cases h <;> omega
theorem PT.two_le {n : Nat} {us : List Str} {d : D} (h : PT n us d) : 2 ≤ us.length := by
  induction h with
  | is _ _ => show 2 ≤ 3; decide
  | has _ => show 2 ≤ 2; decide
  | not _ ih => rw [List.length_cons]; omega
  | two _ _ _ ih1 _ => rw [List.length_cons, List.length_append]; omega
/-- one test alone -/
theorem PT.uniq {n : Nat} {us vs : List Str} {d e : D} {r r' : List Str} (h : PT n us d) (g : PT n vs e) (q : us ++ r = vs ++ r') : us = vs ∧ d = e := by
  have h1 := h.pL r
  rw [q, g.pL r'] at h1
  have h2 := Option.some.inj h1
  injection h2 with h3 h4
  exact ⟨(List.append_inj q h4.symm).1, h3.symm⟩
/-! the signs of the words -/
def good (c : Nat) : Prop := c = 46 ∨ c ∈ letters.cps.toList
def GoodW (w : Str) : Prop := tl w ≠ [] ∧ ∀ c ∈ tl w, good c
theorem name_good {w : Str} (h : isNameS w = true) : GoodW w := by
  have hl := isNameS_len h
  unfold isNameS at h
  rw [Bool.and_eq_true] at h
  refine ⟨fun e => ?_, fun c hc => .inr ?_⟩
  · rw [len_tl, e] at hl
    exact absurd hl.1 (by decide)
  · exact of_decide_eq_true (List.all_eq_true.mp h.2 c hc)
theorem spl_mem : ∀ (l acc : List Nat) (c : Nat), c ∈ l ∨ c ∈ acc → c = 46 ∨ ∃ p ∈ spl [46] 0 acc l, c ∈ p
  | [], acc, c, h => by
    rw [spl_nil]
    rcases h with h | h
    · cases h
    · exact .inr ⟨acc, List.mem_singleton.mpr rfl, h⟩
  | x :: r, acc, c, h => by
    cases q : pre [46] (x :: r) with
    | true =>
      have ex : x = 46 := by
        by_cases z : x = 46
        · exact z
        · rw [pre_of_head _ _ z] at q
          cases q
      rw [spl_hit q]
      rcases h with h | h
      · rcases List.mem_cons.mp h with h | h
        · exact .inl (h.trans ex)
        · rcases spl_mem r [] c (.inl h) with h | ⟨p, h1, h2⟩
          · exact .inl h
          · exact .inr ⟨p, List.mem_cons_of_mem _ h1, h2⟩
      · exact .inr ⟨acc, List.mem_cons_self, h⟩
    | false =>
      rw [spl_miss q]
      refine spl_mem r (acc ++ [x]) c ?_
      rcases h with h | h
      · rcases List.mem_cons.mp h with h | h
        · exact .inr (List.mem_append_right _ (List.mem_singleton.mpr h))
        · exact .inl h
      · exact .inr (List.mem_append_left _ h)
theorem col_good {w : Str} (h : isColS w = true) : GoodW w := by
  unfold isColS at h
  rw [Bool.and_eq_true] at h
  have all := List.all_eq_true.mp h.2
  refine ⟨fun e => ?_, fun c hc => ?_⟩
  · have h0 := all (⟨#[]⟩ : Str) (by unfold splitD; rw [e, spl_nil]; exact List.mem_singleton.mpr rfl)
    exact absurd h0 (by decide)
  · rcases spl_mem (tl w) [] c (.inl hc) with h | ⟨p, h1, h2⟩
    · exact .inl h
    · exact (name_good (all ⟨p.toArray⟩ (List.mem_map.mpr ⟨p, h1, rfl⟩))).2 c (by show c ∈ p.toArray.toList; simpa using h2)
theorem g_is : GoodW "is" := ⟨by decide +kernel, by unfold good; decide +kernel⟩
theorem g_has : GoodW "has" := ⟨by decide +kernel, by unfold good; decide +kernel⟩
theorem g_not : GoodW "not" := ⟨by decide +kernel, by unfold good; decide +kernel⟩
theorem g_and : GoodW "and" := ⟨by decide +kernel, by unfold good; decide +kernel⟩
theorem g_or : GoodW "or" := ⟨by decide +kernel, by unfold good; decide +kernel⟩
theorem PT.good {n : Nat} {us : List Str} {d : D} (h : PT n us d) : ∀ w ∈ us, GoodW w := by
  induction h with
  | is h1 h2 =>
    intro w hw
    rcases List.mem_cons.mp hw with rfl | hw
    · exact g_is
    rcases List.mem_cons.mp hw with rfl | hw
    · exact col_good h1
    rcases List.mem_cons.mp hw with rfl | hw
    · exact name_good h2
    · cases hw
  | has h1 =>
    intro w hw
    rcases List.mem_cons.mp hw with rfl | hw
    · exact g_has
    rcases List.mem_cons.mp hw with rfl | hw
    · exact name_good h1
    · cases hw
  | not _ ih =>
    intro w hw
    rcases List.mem_cons.mp hw with rfl | hw
    · exact g_not
    · exact ih w hw
  | two hh _ _ ih1 ih2 =>
    intro w hw
    rcases List.mem_cons.mp hw with rfl | hw
    · rcases hh with rfl | rfl
      · exact g_and
      · exact g_or
    · rcases List.mem_append.mp hw with hw | hw
      · exact ih1 w hw
      · exact ih2 w hw
theorem no32 {w : Str} (h : GoodW w) : 32 ∉ tl w := fun hm => by
  rcases h.2 _ hm with e | e
  · exact absurd e (by decide)
  · exact absurd e (by decide +kernel)
theorem bad_empty : ¬ GoodW "" := fun h => h.1 (by decide +kernel)
theorem bad_IS : ¬ GoodW "IS" := fun h => by
  rcases h.2 73 (by decide +kernel) with e | e
  · exact absurd e (by decide)
  · exact absurd e (by decide +kernel)
/-! drawn tests have words -/
def Wk (ws : List Str) : Prop := ws.length ≤ 2000 ∧ ∀ w ∈ ws, w.length ≤ 1000
theorem FT.pt {n : Nat} {d : D} (h : FT n d) : ∃ ws, PT n ws d ∧ ws.length + 1 ≤ 2 ^ (n + 1) ∧ ∀ w ∈ ws, w.length ≤ 1000 := by
  have nl : ∀ {w : Str}, isNameS w = true → w.length ≤ 1000 := fun h => by have := isNameS_len h; omega
  have kl : ("is" : Str).length ≤ 1000 ∧ ("has" : Str).length ≤ 1000 ∧ ("not" : Str).length ≤ 1000 ∧ ("and" : Str).length ≤ 1000 ∧ ("or" : Str).length ≤ 1000 := by decide +kernel
  have hl : ∀ {h : Str}, h = "and" ∨ h = "or" → h.length ≤ 1000 := fun hh => by
    rcases hh with rfl | rfl
    · exact kl.2.2.2.1
    · exact kl.2.2.2.2
  induction h with
  | @is c w h1 h2 h3 =>
    refine ⟨["is", c, w], .is h1 h3, by show 3 + 1 ≤ 2 ^ 2; decide, fun x hx => ?_⟩
    rcases List.mem_cons.mp hx with rfl | hx
    · exact kl.1
    rcases List.mem_cons.mp hx with rfl | hx
    · exact h2
    rcases List.mem_cons.mp hx with rfl | hx
    · exact nl h3
    · cases hx
  | @has w h1 =>
    refine ⟨["has", w], .has h1, by show 2 + 1 ≤ 2 ^ 2; decide, fun x hx => ?_⟩
    rcases List.mem_cons.mp hx with rfl | hx
    · exact kl.2.1
    rcases List.mem_cons.mp hx with rfl | hx
    · exact nl h1
    · cases hx
  | @not n d h ih =>
    obtain ⟨ws, a1, a2, a3⟩ := ih
    refine ⟨"not" :: ws, .not a1, by rw [List.length_cons, Nat.pow_succ]; omega, fun x hx => ?_⟩
    rcases List.mem_cons.mp hx with rfl | hx
    · exact kl.2.2.1
    · exact a3 x hx
  | @two n m h d e hh h1 h2 hle ih1 ih2 =>
    obtain ⟨ws, a1, a2, a3⟩ := ih1
    obtain ⟨us, b1, b2, b3⟩ := ih2
    have hp : 2 ^ (m + 1) ≤ 2 ^ (n + 1) := Nat.pow_le_pow_right (by decide) (by omega)
    refine ⟨h :: (ws ++ us), .two hh a1 (b1.le hle), by rw [List.length_cons, List.length_append, Nat.pow_succ]; omega, fun x hx => ?_⟩
    rcases List.mem_cons.mp hx with rfl | hx
    · exact hl hh
    · rcases List.mem_append.mp hx with hx | hx
      · exact a3 x hx
      · exact b3 x hx
  | @owt n m h d e hh h1 h2 hle ih1 ih2 =>
    obtain ⟨ws, a1, a2, a3⟩ := ih1
    obtain ⟨us, b1, b2, b3⟩ := ih2
    have hp : 2 ^ (m + 1) ≤ 2 ^ (n + 1) := Nat.pow_le_pow_right (by decide) (by omega)
    refine ⟨h :: (us ++ ws), .two hh (b1.le hle) a1, by rw [List.length_cons, List.length_append, Nat.pow_succ]; omega, fun x hx => ?_⟩
    rcases List.mem_cons.mp hx with rfl | hx
    · exact hl hh
    · rcases List.mem_append.mp hx with hx | hx
      · exact b3 x hx
      · exact a3 x hx
/-! promises -/
def ExM (M M' : Mh) : Prop := ∀ a o, M a = some o → M' a = some o
def sText (n : Nat) : MF := fun ds M k _ => ∃ t ws, ∃ m : Nat, ds = [t] ∧ PT m ws t ∧ m ≤ n ∧ Wk ws ∧ k (.str (Txt.join " " ws)) M
def sWords (n : Nat) : MF := fun ds M k _ => ∃ t ws, ∃ m : Nat, ds = [t] ∧ PT m ws t ∧ m ≤ n ∧ Wk ws ∧ k (.lst (ws.map .str)) M
def sDeep (n : Nat) : MF := fun ds M k _ => ∃ t, ∃ m : Nat, ds = [t] ∧ FT m t ∧ m ≤ n ∧ k (.int (m : Int)) M
def resAt (m : Nat) (ws : List Str) (a : Nat) : D := match pL m (ws.drop a) with
  | some (d, c) => .tup [d, .int ((a + c : Nat) : Int)]
  | none => .non
def sAt (n : Nat) : MF := fun ds M k _ => ∃ ws, ∃ a m : Nat, ds = [.lst (ws.map .str), .int (a : Int), .int (m : Int)] ∧ m < n ∧ m ≤ 6 ∧ Wk ws ∧ ∀ M', ExM M M' → k (resAt m ws a) M'
def resOf (ws : List Str) : D := match pL 6 ws with
  | some (d, c) => if c < ws.length then .non else d
  | none => .non
def sTestOf : MF := fun ds M k _ => ∃ ws, ds = [.lst (ws.map .str)] ∧ Wk ws ∧ ∀ M', ExM M M' → k (resOf ws) M'
def readD : D → D
  | .str z => resOf (Txt.split z " ")
  | _ => .non
def RdOk (d : D) : Prop := ((∀ M, tyN M d ∈ tys ∧ isiB (tyN M d) "str" = false) ∧ ∀ z, d ≠ .str z) ∨ ∃ z, d = .str z ∧ z.length ≤ 10000000 ∧ Wk (Txt.split z " ")
def sRead (G : Str → Addr) : MF := fun ds M k kx => ∃ d, ds = [d] ∧ RdOk d ∧ (∀ M', ExM M M' → readD d ≠ .non → k (readD d) M') ∧ (readD d = .non → ∀ M', ExM M M' → kx ⟨.ref (G "InvalidTest"), some (fs1D "given" "InvalidTest" [d])⟩ M')
end K03
set_option maxHeartbeats 4000000
namespace K03
open PySem L2 DL DX LamX
def top (i : Nat) : Stmt := PySem.Challenge.pw_bothlots_k03_texts_of_tests.main.body.getD i (.Pass ⟨0, 0, 0, 0⟩)
abbrev st_is_name : Stmt := top 8
abbrev st_is_column_name : Stmt := top 9
abbrev st_is_test : Stmt := top 13
abbrev st_test_text : Stmt := top 14
abbrev st_test_at : Stmt := top 15
abbrev st_test_of : Stmt := top 16
abbrev st_read_test : Stmt := top 17
abbrev st__law_box : Stmt := top 19
abbrev st__law_pull : Stmt := top 20
abbrev st__law_of : Stmt := top 21
abbrev st__law_names : Stmt := top 22
abbrev st__law_same : Stmt := top 23
abbrev st__law_field : Stmt := top 24
abbrev st__law_odd : Stmt := top 26
abbrev st__law_free_test : Stmt := top 27
abbrev st__law_test_words : Stmt := top 28
abbrev st__law_deep : Stmt := top 29
abbrev st_law : Stmt := top 30
abbrev FnP (K : PySem.W.Frag) (x : Str) (st : Stmt) (f : Addr) (fd : FuncData) (kws : List (Str × V) := []) : Prop := FunD K x x (defArgs st) (defBody st) (defScope st) [] kws f fd
def kv_PARTS : List (Str × He.Dv) := [("is", (.int 3)), ("has", (.int 2)), ("not", (.int 2)), ("and", (.int 3)), ("or", (.int 3))]
def tab_PARTS : TabD := kv_PARTS.map fun q => (q.1, dvD q.2)
structure Txt (w : World) (K : PySem.W.Frag) (mg : Str → Option Value) : Prop where
  b_abs : mg "abs" = none
  b_all : mg "all" = none
  b_bool : mg "bool" = none
  b_int : mg "int" = none
  b_isinstance : mg "isinstance" = none
  b_len : mg "len" = none
  b_list : mg "list" = none
  b_max : mg "max" = none
  b_min : mg "min" = none
  b_range : mg "range" = none
  b_str : mg "str" = none
  b_tuple : mg "tuple" = none
  b_zip : mg "zip" = none
  c_DEEPEST : ∃ t, mg "DEEPEST" = some (.int 6 t)
  c_LETTERS : ∃ t, mg "LETTERS" = some (.str "abcdefghijklmnopqrstuvwxyz" t)
  c_LONGEST_NAME : ∃ t, mg "LONGEST_NAME" = some (.int 6 t)
  c_PARTS : mg "PARTS" = some (.ref (He.ga K "PARTS")) ∧ TabOk K w (He.ga K "PARTS") tab_PARTS
/-! is_name -/
abbrev N_is_name : List Str := ["value", "letter"]
theorem sc_is_name : FnScope N_is_name ["value"] (defScope st_is_name) := ⟨rfl, rfl, rfl, by decide +kernel, rfl, by decide +kernel, by decide +kernel⟩
theorem ok_is_name {P : Program} {w : World} {K : PySem.W.Frag} {mg : Str → Option Value} {base : Heap} {f : Addr} {fd : FuncData} {k : Nat} {s : MF}  (F : FnP K "is_name" st_is_name f fd) (T : Txt w K mg) 
    (len : ∀ ds M k kx, s ds M k kx → ds.length = 1) (hs : ∀ ds M k kx, s ds M k kx → CM.b_is_name { nx := fun _ M' => k .non M', rt := k } (startD 2 ds) M noX) : FnOk P w K mg base CX0 (k + 1) f fd ["value"] (DL.spI K s) := by
  exact d_ok0 F sc_is_name (fun cdv A outer sh H E hr => (dss_cons (ds_if (PW.pt (dw_or (dt_not (dt_val (de_isi rfl T.b_isinstance (de_var 0) rfl T.b_str bt_str (by decide)))) (dw_or1 (dt_not (dt_chain do_le do_le de_int (de_callB dc_len rfl T.b_len bb_len (da_cons (de_var 0) da_nil)) (de_gint rfl T.c_LONGEST_NAME)))))) (dss_one (ds_ret de_bl)) dss_nil) (dss_one (ds_ret (de_callB (dc_all rfl) rfl T.b_all bb_all (da_cons (de_lc (E' := E0) rfl sc_is_name.nd (di_seq (de_var 0)) (blkOk_by (own := [("letter", 1)]) (N := N_is_name) (sc := defScope st_is_name) (by decide +kernel)) (by decide +kernel) (fun _ _ _ _ _ => (dg_nm (i := 1) sc_is_name.nd rfl)) (fun _ _ _ _ _ => dts_nil) (fun _ _ _ _ _ => (de_cmp do_in (de_var 1) (de_gstr rfl T.c_LETTERS) (by rfl)))) da_nil)))))) len hs
/-! is_column_name -/
abbrev N_is_column_name : List Str := ["value", "part"]
theorem sc_is_column_name : FnScope N_is_column_name ["value"] (defScope st_is_column_name) := ⟨rfl, rfl, rfl, by decide +kernel, rfl, by decide +kernel, by decide +kernel⟩
theorem ok_is_column_name {P : Program} {w : World} {K : PySem.W.Frag} {mg : Str → Option Value} {base : Heap} {f : Addr} {fd : FuncData} {k : Nat} {s : MF} {f_is_name : Addr} {fd_is_name : FuncData} {k_is_name : Nat} (F : FnP K "is_column_name" st_is_column_name f fd) (T : Txt w K mg) (D_is_name : Df P w K mg base CX0 k_is_name f_is_name fd_is_name "is_name" ["value"] CM.sIsName) (hk_is_name : k_is_name ≤ k) (S_is_name_1 : Binds K fd_is_name ["value"] [])
    (len : ∀ ds M k kx, s ds M k kx → ds.length = 1) (hs : ∀ ds M k kx, s ds M k kx → CM.b_is_column_name { nx := fun _ M' => k .non M', rt := k } (startD 2 ds) M noX) : FnOk P w K mg base CX0 (k + 1) f fd ["value"] (DL.spI K s) := by
  exact d_ok0 F sc_is_column_name (fun cdv A outer sh H E hr => (dss_cons (ds_if (dt_not (dt_val (de_isi rfl T.b_isinstance (de_var 0) rfl T.b_str bt_str (by decide)))) (dss_one (ds_ret de_bl)) dss_nil) (dss_one (ds_ret (de_and (de_cmp do_le (de_callB dc_len rfl T.b_len bb_len (da_cons (de_split (de_var 0) de_str) da_nil)) de_int (nomark _)) (de_one (de_callB (dc_all rfl) rfl T.b_all bb_all (da_cons (de_lc (E' := E0) rfl sc_is_column_name.nd (di_seq (de_split (de_var 0) de_str)) (blkOk_by (own := [("part", 1)]) (N := N_is_column_name) (sc := defScope st_is_column_name) (by decide +kernel)) (by decide +kernel) (fun _ _ _ _ _ => (dg_nm (i := 1) sc_is_column_name.nd rfl)) (fun _ _ _ _ _ => dts_nil) (fun _ _ _ _ _ => (de_callD D_is_name (hr.mono hk_is_name) rfl S_is_name_1 passN (da_cons (de_var 1) da_nil)))) da_nil)))))))) len hs
/-! is_test -/
abbrev N_is_test : List Str := ["value", "deep", "part"]
theorem sc_is_test : FnScope N_is_test ["value", "deep"] (defScope st_is_test) := ⟨rfl, rfl, rfl, by decide +kernel, rfl, by decide +kernel, by decide +kernel⟩
theorem ok_is_test {testN : Nat} {P : Program} {w : World} {K : PySem.W.Frag} {mg : Str → Option Value} {base : Heap} {f : Addr} {fd : FuncData} {k : Nat} {s : MF} {f_is_column_name : Addr} {fd_is_column_name : FuncData} {k_is_column_name : Nat} {f_is_name : Addr} {fd_is_name : FuncData} {k_is_name : Nat} {f_is_test : Addr} {fd_is_test : FuncData} {k_is_test : Nat} (F : FnP K "is_test" st_is_test f fd [("deep", (.int 6))]) (T : Txt w K mg) (D_is_column_name : Df P w K mg base CX0 k_is_column_name f_is_column_name fd_is_column_name "is_column_name" ["value"] CM.sIsColName) (hk_is_column_name : k_is_column_name ≤ k) (D_is_name : Df P w K mg base CX0 k_is_name f_is_name fd_is_name "is_name" ["value"] CM.sIsName) (hk_is_name : k_is_name ≤ k) (D_is_test : Df P w K mg base CX0 k_is_test f_is_test fd_is_test "is_test" ["value", "deep"] (CM.sIsTest testN)) (hk_is_test : k_is_test ≤ k) (S_is_column_name_1 : Binds K fd_is_column_name ["value"] []) (S_is_name_1 : Binds K fd_is_name ["value"] []) (S_is_test_1_deep : Shape K fd_is_test ["value", "deep"] 1 ["deep"] (fun us ws => pick3 [(0, 0), (2, 0)] us [] ws))
    (len : ∀ ds M k kx, s ds M k kx → ds.length = 2) (hs : ∀ ds M k kx, s ds M k kx → CM.b_is_test testN { nx := fun _ M' => k .non M', rt := k } (startD 3 ds) M noX) : FnOk P w K mg base CX0 (k + 1) f fd ["value", "deep"] (DL.spI K s) := by
  exact d_ok0 F sc_is_test (fun cdv A outer sh H E hr => (dss_cons (ds_if (PW.pt (dw_or (dt_cmp (do_eq hr.units) (de_var 1) de_int (nomark _)) (dw_or (dt_not (dt_val (de_isi rfl T.b_isinstance (de_var 0) rfl T.b_tuple bt_tuple (by decide)))) (dw_or (dt_cmp (do_eq hr.units) (de_callB dc_len rfl T.b_len bb_len (da_cons (de_var 0) da_nil)) de_int (nomark _)) (dw_or1 (dt_not (dt_val (de_isi rfl T.b_isinstance (de_ix dx_seq (de_var 0) de_int (fun _ _ => rfl)) rfl T.b_str bt_str (by decide))))))))) (dss_one (ds_ret de_bl)) dss_nil) (dss_cons (ds_if (dt_cmp (do_ne hr.units) (de_tabGet rfl T.c_PARTS.1 T.c_PARTS.2 (de_ix dx_seq (de_var 0) de_int (fun _ _ => rfl)) de_int ⟨rfl, rfl, rfl, rfl⟩) (de_callB dc_len rfl T.b_len bb_len (da_cons (de_var 0) da_nil)) (nomark _)) (dss_one (ds_ret de_bl)) dss_nil) (dss_cons (ds_if (dt_cmp (do_eq hr.units) (de_ix dx_seq (de_var 0) de_int (fun _ _ => rfl)) de_str (nomark _)) (dss_one (ds_ret (de_and (de_callD D_is_column_name (hr.mono hk_is_column_name) rfl S_is_column_name_1 passN (da_cons (de_ix dx_seq (de_var 0) de_int (fun _ _ => rfl)) da_nil)) (de_one (de_callD D_is_name (hr.mono hk_is_name) rfl S_is_name_1 passN (da_cons (de_ix dx_seq (de_var 0) de_int (fun _ _ => rfl)) da_nil)))))) dss_nil) (dss_cons (ds_if (dt_cmp (do_eq hr.units) (de_ix dx_seq (de_var 0) de_int (fun _ _ => rfl)) de_str (nomark _)) (dss_one (ds_ret (de_callD D_is_name (hr.mono hk_is_name) rfl S_is_name_1 passN (da_cons (de_ix dx_seq (de_var 0) de_int (fun _ _ => rfl)) da_nil)))) dss_nil) (dss_one (ds_ret (de_callB (dc_all rfl) rfl T.b_all bb_all (da_cons (de_lc (E' := E0) rfl sc_is_test.nd (di_seq (de_slice ds_slice (de_var 0) (dp_some de_int) dp_none)) (blkOk_by (own := [("part", 2)]) (N := N_is_test) (sc := defScope st_is_test) (by decide +kernel)) (by decide +kernel) (fun _ _ _ _ _ => (dg_nm (i := 2) sc_is_test.nd rfl)) (fun _ _ _ _ _ => dts_nil) (fun _ _ _ _ _ => (de_callN D_is_test (hr.mono hk_is_test) rfl S_is_test_1_deep passN (da_cons (de_var 2) da_nil) (dk_cons (de_op do_sub (de_var 1) de_int) dk_nil)))) da_nil))))))))) len hs
/-! test_text -/
abbrev N_test_text : List Str := ["test", "part"]
theorem sc_test_text : FnScope N_test_text ["test"] (defScope st_test_text) := ⟨rfl, rfl, rfl, by decide +kernel, rfl, by decide +kernel, by decide +kernel⟩
def b_test_text (textN : Nat) : MS := (mSeq (mIfS (mTest (mOp dIn (mOp dIx (mVar 0) (mC (.int 0))) (mTup (mCons (mC (.str "is")) (mCons (mC (.str "has")) mNil))))) (mRet (mJoin (mC (.str " ")) (mVar 0))) mNext) (mRet (mJoin (mC (.str " ")) (mLst (mCons (mOp dIx (mVar 0) (mC (.int 0))) (mStar (mLc (.nm 1) (mSeqI (mSl dSlice (mVar 0) (mPart (mC (.int 1))) mNoPart)) mYes (mCall (sText textN) (mCons (mVar 1) mNil)) [1]) mNil))))))
theorem ok_test_text {textN : Nat} {P : Program} {w : World} {K : PySem.W.Frag} {mg : Str → Option Value} {base : Heap} {f : Addr} {fd : FuncData} {k : Nat} {s : MF} {f_test_text : Addr} {fd_test_text : FuncData} {k_test_text : Nat} (F : FnP K "test_text" st_test_text f fd) (T : Txt w K mg) (D_test_text : Df P w K mg base CX0 k_test_text f_test_text fd_test_text "test_text" ["test"] (sText textN)) (hk_test_text : k_test_text ≤ k) (S_test_text_1 : Binds K fd_test_text ["test"] [])
    (len : ∀ ds M k kx, s ds M k kx → ds.length = 1) (hs : ∀ ds M k kx, s ds M k kx → b_test_text textN { nx := fun _ M' => k .non M', rt := k } (startD 2 ds) M noX) : FnOk P w K mg base CX0 (k + 1) f fd ["test"] (DL.spI K s) := by
  exact d_ok0 F sc_test_text (fun cdv A outer sh H E hr => (dss_cons (ds_if (dt_cmp do_in (de_ix dx_seq (de_var 0) de_int (fun _ _ => rfl)) (de_tup (da_cons de_str (da_cons de_str da_nil))) (by rfl)) (dss_one (ds_ret (de_join de_str (de_var 0)))) dss_nil) (dss_one (ds_ret (de_join de_str (de_lst (da_cons (de_ix dx_seq (de_var 0) de_int (fun _ _ => rfl)) (da_star (de_lc (E' := E0) rfl sc_test_text.nd (di_seq (de_slice ds_slice (de_var 0) (dp_some de_int) dp_none)) (blkOk_by (own := [("part", 1)]) (N := N_test_text) (sc := defScope st_test_text) (by decide +kernel)) (by decide +kernel) (fun _ _ _ _ _ => (dg_nm (i := 1) sc_test_text.nd rfl)) (fun _ _ _ _ _ => dts_nil) (fun _ _ _ _ _ => (de_callD D_test_text (hr.mono hk_test_text) rfl S_test_text_1 passN (da_cons (de_var 1) da_nil)))) da_nil)))))))) len hs
/-! test_at -/
abbrev N_test_at : List Str := ["words", "at", "deep", "word", "behind", "found", "parts", "turn", "part"]
theorem sc_test_at : FnScope N_test_at ["words", "at", "deep"] (defScope st_test_at) := ⟨rfl, rfl, rfl, by decide +kernel, rfl, by decide +kernel, by decide +kernel⟩
def b_test_at (atN : Nat) : MS := (mSeq (mIfS (mOr (mTest (mOp dEq (mVar 2) (mC (.int 0)))) (mOr (mTest (mOp dGe (mVar 1) (mCB cLen (mCons (mVar 0) mNil)))) (mTest (mUn (dTabIn true tab_PARTS) (mOp dIx (mVar 0) (mVar 1)))))) (mRet (mC .non)) mNext) (mSeq (mAsg (mOp dIx (mVar 0) (mVar 1)) (.nm 3)) (mSeq (mIfS (mTest (mOp dIn (mVar 3) (mTup (mCons (mC (.str "is")) (mCons (mC (.str "has")) mNil))))) (mSeq (mAsg (mOp dAdd (mVar 1) (mUn (dTabAt tab_PARTS) (mVar 3))) (.nm 4)) (mSeq (mAsg (mCB cTuple (mCons (mSl dSlice (mVar 0) (mPart (mVar 1)) (mPart (mVar 4))) mNil)) (.nm 5)) (mRet (mIf (mTest (mCallT (CM.sIsTest 7) [(.int 6)] (mCons (mVar 5) mNil))) (mTup (mCons (mVar 5) (mCons (mVar 4) mNil))) (mC .non))))) mNext) (mSeq (mPar 6 4 (mCons (mLstM (mCons (mVar 3) mNil)) (mCons (mOp dAdd (mVar 1) (mC (.int 1))) mNil))) (mSeq (mFor (.nm 7) (mRange1 (mOp dSub (mUn (dTabAt tab_PARTS) (mVar 3)) (mC (.int 1)))) (mSeq (mAsg (mCall (sAt atN) (mCons (mVar 0) (mCons (mVar 4) (mCons (mOp dSub (mVar 2) (mC (.int 1))) mNil)))) (.nm 5)) (mSeq (mIfS (mTest (mOp dIs (mVar 5) (mC .non))) (mRet (mC .non)) mNext) (mSeq (mAsg (mVar 5) (.tp [(.nm 8), (.nm 4)])) (mDrop (mAppend (mVar 6) (mVar 8))))))) (mRet (mTup (mCons (mCB cTuple (mCons (mVar 6) mNil)) (mCons (mVar 4) mNil)))))))))
theorem ok_test_at {atN : Nat} {P : Program} {w : World} {K : PySem.W.Frag} {mg : Str → Option Value} {base : Heap} {f : Addr} {fd : FuncData} {k : Nat} {s : MF} {f_is_test : Addr} {fd_is_test : FuncData} {k_is_test : Nat} {f_test_at : Addr} {fd_test_at : FuncData} {k_test_at : Nat} (F : FnP K "test_at" st_test_at f fd) (T : Txt w K mg) (D_is_test : Df P w K mg base CX0 k_is_test f_is_test fd_is_test "is_test" ["value", "deep"] (CM.sIsTest 7)) (hk_is_test : k_is_test ≤ k) (D_test_at : Df P w K mg base CX0 k_test_at f_test_at fd_test_at "test_at" ["words", "at", "deep"] (sAt atN)) (hk_test_at : k_test_at ≤ k) (S_is_test_1 : Tail K fd_is_test ["value", "deep"] [(.int 6)]) (S_test_at_3 : Binds K fd_test_at ["words", "at", "deep"] [])
    (len : ∀ ds M k kx, s ds M k kx → ds.length = 3) (hs : ∀ ds M k kx, s ds M k kx → b_test_at atN { nx := fun _ M' => k .non M', rt := k } (startD 9 ds) M noX) : FnOk P w K mg base CX0 (k + 1) f fd ["words", "at", "deep"] (DL.spI K s) := by
  exact d_ok0 F sc_test_at (fun cdv A outer sh H E hr => (dss_cons (ds_if (PW.pt (dw_or (dt_cmp (do_eq hr.units) (de_var 2) de_int (nomark _)) (dw_or (dt_cmp do_ge (de_var 1) (de_callB dc_len rfl T.b_len bb_len (da_cons (de_var 0) da_nil)) (nomark _)) (dw_or1 (dt_tabNotIn rfl T.c_PARTS.1 T.c_PARTS.2 (de_ix dx_seq (de_var 0) (de_var 1) (fun _ _ => rfl))))))) (dss_one (ds_ret de_non)) dss_nil) (dss_cons (ds_set (i := 3) sc_test_at.nd rfl (Or.inl rfl) (de_ix dx_seq (de_var 0) (de_var 1) (fun _ _ => rfl))) (dss_cons (ds_if (dt_cmp do_in (de_var 3) (de_tup (da_cons de_str (da_cons de_str da_nil))) (by rfl)) (dss_cons (ds_set (i := 4) sc_test_at.nd rfl (Or.inl rfl) (de_op do_add (de_var 1) (de_tabAt rfl T.c_PARTS.1 T.c_PARTS.2 (de_var 3) (fun _ _ => rfl)))) (dss_cons (ds_set (i := 5) sc_test_at.nd rfl (Or.inl rfl) (de_callTy dc_tuple rfl T.b_tuple bt_tuple (da_cons (de_slice ds_slice (de_var 0) (dp_some (de_var 1)) (dp_some (de_var 4))) da_nil))) (dss_one (ds_ret (de_if (dt_val (de_callT D_is_test (hr.mono hk_is_test) rfl S_is_test_1 passN (da_cons (de_var 5) da_nil))) (de_tup (da_cons (de_var 5) (da_cons (de_var 4) da_nil))) de_non))))) dss_nil) (dss_cons (ds_par (i := 6) (j := 4) rfl sc_test_at.nd rfl rfl (by decide) rfl rfl (da_cons (de_lstM (da_cons (de_var 3) da_nil)) (da_cons (de_op do_add (de_var 1) de_int) da_nil)) (ps_par rfl sc_test_at.nd rfl rfl (by decide) rfl rfl (da_cons (de_lstM (da_cons (de_var 3) da_nil)) (da_cons (de_op do_add (de_var 1) de_int) da_nil)) rfl)) (dss_cons (ds_for PassesOwn.never rfl (di_range1 rfl T.b_range (de_op do_sub (de_tabAt rfl T.c_PARTS.1 T.c_PARTS.2 (de_var 3) (fun _ _ => rfl)) de_int)) (dg_nm (i := 7) sc_test_at.nd rfl) (dss_cons (ds_set (i := 5) sc_test_at.nd rfl (Or.inl rfl) (de_callD D_test_at (hr.mono hk_test_at) rfl S_test_at_3 passN (da_cons (de_var 0) (da_cons (de_var 4) (da_cons (de_op do_sub (de_var 2) de_int) da_nil))))) (dss_cons (ds_if (dt_cmp do_is (de_var 5) de_non (nomark _)) (dss_one (ds_ret de_non)) dss_nil) (dss_cons (ds_asg (de_var 5) (dg_tp rfl rfl (dgs_cons (dg_nm (i := 8) sc_test_at.nd rfl) (dgs_cons (dg_nm (i := 4) sc_test_at.nd rfl) dgs_nil)))) (dss_one (ds_expr (de_append (de_var 6) (de_var 8)))))))) (dss_one (ds_ret (de_tup (da_cons (de_callTy dc_tuple rfl T.b_tuple bt_tuple (da_cons (de_var 6) da_nil)) (da_cons (de_var 4) da_nil))))))))))) len hs
/-! test_of -/
abbrev N_test_of : List Str := ["words", "found"]
theorem sc_test_of : FnScope N_test_of ["words"] (defScope st_test_of) := ⟨rfl, rfl, rfl, by decide +kernel, rfl, by decide +kernel, by decide +kernel⟩
def b_test_of : MS := (mSeq (mAsg (mCall (sAt 7) (mCons (mVar 0) (mCons (mC (.int 0)) (mCons (mC (.int 6)) mNil)))) (.nm 1)) (mRet (mIf (mOr (mTest (mOp dIs (mVar 1) (mC .non))) (mTest (mOp dLt (mOp dIx (mVar 1) (mC (.int 1))) (mCB cLen (mCons (mVar 0) mNil))))) (mC .non) (mOp dIx (mVar 1) (mC (.int 0))))))
theorem ok_test_of {P : Program} {w : World} {K : PySem.W.Frag} {mg : Str → Option Value} {base : Heap} {f : Addr} {fd : FuncData} {k : Nat} {s : MF} {f_test_at : Addr} {fd_test_at : FuncData} {k_test_at : Nat} (F : FnP K "test_of" st_test_of f fd) (T : Txt w K mg) (D_test_at : Df P w K mg base CX0 k_test_at f_test_at fd_test_at "test_at" ["words", "at", "deep"] (sAt 7)) (hk_test_at : k_test_at ≤ k) (S_test_at_3 : Binds K fd_test_at ["words", "at", "deep"] [])
    (len : ∀ ds M k kx, s ds M k kx → ds.length = 1) (hs : ∀ ds M k kx, s ds M k kx → b_test_of { nx := fun _ M' => k .non M', rt := k } (startD 2 ds) M noX) : FnOk P w K mg base CX0 (k + 1) f fd ["words"] (DL.spI K s) := by
  exact d_ok0 F sc_test_of (fun cdv A outer sh H E hr => (dss_cons (ds_set (i := 1) sc_test_of.nd rfl (Or.inl rfl) (de_callD D_test_at (hr.mono hk_test_at) rfl S_test_at_3 passN (da_cons (de_var 0) (da_cons de_int (da_cons (de_gint rfl T.c_DEEPEST) da_nil))))) (dss_one (ds_ret (de_if (PW.pt (dw_or (dt_cmp do_is (de_var 1) de_non (nomark _)) (dw_or1 (dt_cmp do_lt (de_ix dx_seq (de_var 1) de_int (fun _ _ => rfl)) (de_callB dc_len rfl T.b_len bb_len (da_cons (de_var 0) da_nil)) (nomark _))))) de_non (de_ix dx_seq (de_var 1) de_int (fun _ _ => rfl))))))) len hs
/-! read_test -/
abbrev N_read_test : List Str := ["text", "found"]
theorem sc_read_test : FnScope N_read_test ["text"] (defScope st_read_test) := ⟨rfl, rfl, rfl, by decide +kernel, rfl, by decide +kernel, by decide +kernel⟩
def b_read_test (V : Ev) : MS := (mSeq (mAsg (mIf (mTest (mUn (dIsi "str") (mVar 0))) (mCall sTestOf (mCons (mSplit (mVar 0) (mC (.str " "))) mNil)) (mC .non)) (.nm 1)) (mSeq (mIfS (mTest (mOp dIs (mVar 1) (mC .non))) (mRaise (V.G "InvalidTest") 1 (fs1D "given" "InvalidTest") (mCons (mVar 0) mNil)) mNext) (mRet (mVar 1))))
theorem ok_read_test {P : Program} {w : World} {K : PySem.W.Frag} {mg : Str → Option Value} {base : Heap} {f : Addr} {fd : FuncData} {k : Nat} {s : MF} {f_test_of : Addr} {fd_test_of : FuncData} {k_test_of : Nat} {k_InvalidTest : Nat} {V : Ev} (F : FnP K "read_test" st_read_test f fd) (T : Txt w K mg) (D_test_of : Df P w K mg base CX0 k_test_of f_test_of fd_test_of "test_of" ["words"] sTestOf) (hk_test_of : k_test_of ≤ k) (R_InvalidTest : ErD P w K mg base k_InvalidTest "InvalidTest" 1 (fs1D "given" "InvalidTest")) (hk_InvalidTest : k_InvalidTest + 1 ≤ k) (S_test_of_1 : Binds K fd_test_of ["words"] []) (EV : EvD K V)
    (len : ∀ ds M k kx, s ds M k kx → ds.length = 1) (hs : ∀ ds M k kx, s ds M k kx → b_read_test V { nx := fun _ M' => k .non M', rt := k } (startD 2 ds) M kx) : FnOk P w K mg base (L2.CX P w) (k + 1) f fd ["text"] (DL.spI K s) := by
  obtain ⟨⟩ := V
  obtain ⟨rfl, rfl⟩ := EV
  exact d_okX F sc_read_test (fun cdv A outer sh H E hr => (dss_cons (ds_set (i := 1) sc_read_test.nd rfl (Or.inl rfl) (de_if (dt_val (de_isi rfl T.b_isinstance (de_var 0) rfl T.b_str bt_str (by decide))) (de_callD D_test_of (hr.mono hk_test_of) rfl S_test_of_1 passN (da_cons (de_split (de_var 0) de_str) da_nil)) de_non)) (dss_cons (ds_if (dt_cmp do_is (de_var 1) de_non (nomark _)) (dss_one (by exact ds_raiseD R_InvalidTest (hr.mono hk_InvalidTest) rfl takesX rfl (da_cons (de_var 0) da_nil))) dss_nil) (dss_one (ds_ret (de_var 1)))))) len hs
/-! _law_box -/
abbrev N__law_box : List Str := ["_law_script", "_law_mixed", "_law_cell"]
theorem sc__law_box : FnScope N__law_box ["_law_script"] (defScope st__law_box) := ⟨rfl, rfl, rfl, by decide +kernel, rfl, by decide +kernel, by decide +kernel⟩
theorem ok__law_box {P : Program} {w : World} {K : PySem.W.Frag} {mg : Str → Option Value} {base : Heap} {f : Addr} {fd : FuncData} {k : Nat} {s : MF}  (F : FnP K "_law_box" st__law_box f fd) (T : Txt w K mg) 
    (len : ∀ ds M k kx, s ds M k kx → ds.length = 1) (hs : ∀ ds M k kx, s ds M k kx → CM.b__law_box { nx := fun _ M' => k .non M', rt := k } (startD 3 ds) M noX) : FnOk P w K mg base CX0 (k + 1) f fd ["_law_script"] (DL.spI K s) := by
  exact d_ok0 F sc__law_box (fun cdv A outer sh H E hr => (dss_cons (ds_set (i := 1) sc__law_box.nd rfl (Or.inl rfl) de_int) (dss_cons (ds_for PassesOwn.never rfl (di_seq (de_slice ds_slice (de_var 0) dp_none (dp_some de_int))) (dg_nm (i := 2) sc__law_box.nd rfl) (dss_one (ds_set (i := 1) sc__law_box.nd rfl (Or.inl rfl) (de_op do_mod (de_callTy dc_int rfl T.b_int bt_int (da_cons (de_op do_add (de_op do_add (de_op do_mul (de_var 1) de_int) (de_op do_mul (de_op do_mod (de_callTy dc_int rfl T.b_int bt_int (da_cons (de_var 2) da_nil)) de_int) de_int)) de_int) da_nil)) de_int)))) (dss_one (ds_ret (de_lstM (da_cons (de_callTy dc_list rfl T.b_list bt_list (da_cons (de_slice ds_slice (de_var 0) dp_none (dp_some de_int)) da_nil)) (da_cons de_int (da_cons de_int (da_cons (de_var 1) (da_cons de_int da_nil))))))))))) len hs
/-! _law_pull -/
abbrev N__law_pull : List Str := ["_law_box_here", "_law_many", "_law_cell", "_law_digit", "_law_twice"]
theorem sc__law_pull : FnScope N__law_pull ["_law_box_here", "_law_many"] (defScope st__law_pull) := ⟨rfl, rfl, rfl, by decide +kernel, rfl, by decide +kernel, by decide +kernel⟩
theorem ok__law_pull {P : Program} {w : World} {K : PySem.W.Frag} {mg : Str → Option Value} {base : Heap} {f : Addr} {fd : FuncData} {k : Nat} {s : MF}  (F : FnP K "_law_pull" st__law_pull f fd) (T : Txt w K mg) 
    (len : ∀ ds M k kx, s ds M k kx → ds.length = 2) (hs : ∀ ds M k kx, s ds M k kx → CM.b__law_pull { nx := fun _ M' => k .non M', rt := k } (startD 5 ds) M noX) : FnOk P w K mg base CX0 (k + 1) f fd ["_law_box_here", "_law_many"] (DL.spI K s) := by
  exact d_ok0 F sc__law_pull (fun cdv A outer sh H E hr => (dss_cons (ds_setIx (de_op do_add (de_ix dx_seq (de_var 0) de_int (fun _ _ => rfl)) de_int) (de_var 0) de_int) (dss_cons (ds_if (PW.pt (dw_and (dt_cmp (do_eq hr.units) (de_ix dx_seq (de_var 0) de_int (fun _ _ => rfl)) de_int (nomark _)) (dw_and1 (dt_cmp do_lt (de_ix dx_seq (de_var 0) de_int (fun _ _ => rfl)) (de_callB dc_len rfl T.b_len bb_len (da_cons (de_ix dx_seq (de_var 0) de_int (fun _ _ => rfl)) da_nil)) (nomark _))))) (dss_cons (ds_set (i := 2) sc__law_pull.nd rfl (Or.inl rfl) (de_ix dx_seq (de_ix dx_seq (de_var 0) de_int (fun _ _ => rfl)) (de_ix dx_seq (de_var 0) de_int (fun _ _ => rfl)) (fun _ _ => rfl))) (dss_cons (ds_setIx (de_op do_add (de_ix dx_seq (de_var 0) de_int (fun _ _ => rfl)) de_int) (de_var 0) de_int) (dss_one (ds_if (dt_cmp do_ge (de_callB dc_abs rfl T.b_abs bb_abs (da_cons (de_var 2) da_nil)) (de_op do_pow de_int de_int) (nomark _)) (dss_one (ds_setIx (de_callB dc_abs rfl T.b_abs bb_abs (da_cons (de_var 2) da_nil)) (de_var 0) de_int)) (dss_one (ds_setIx (de_op do_mod (de_callTy dc_int rfl T.b_int bt_int (da_cons (de_op do_add (de_op do_add (de_op do_mul (de_ix dx_seq (de_var 0) de_int (fun _ _ => rfl)) de_int) (de_op do_mul (de_op do_mod (de_callTy dc_int rfl T.b_int bt_int (da_cons (de_var 2) da_nil)) de_int) de_int)) de_int) da_nil)) de_int) (de_var 0) de_int)))))) dss_nil) (dss_cons (ds_if (dt_cmp do_gt (de_ix dx_seq (de_var 0) de_int (fun _ _ => rfl)) de_int (nomark _)) (dss_cons (ds_set (i := 3) sc__law_pull.nd rfl (Or.inl rfl) (de_op do_mod (de_callTy dc_int rfl T.b_int bt_int (da_cons (de_ix dx_seq (de_var 0) de_int (fun _ _ => rfl)) da_nil)) (de_var 1))) (dss_cons (ds_setIx (de_op do_div (de_ix dx_seq (de_var 0) de_int (fun _ _ => rfl)) (de_var 1)) (de_var 0) de_int) (dss_one (ds_ret (de_var 3))))) dss_nil) (dss_cons (ds_set (i := 4) sc__law_pull.nd rfl (Or.inl rfl) (de_op do_mod (de_callTy dc_int rfl T.b_int bt_int (da_cons (de_op do_add (de_op do_mul (de_ix dx_seq (de_var 0) de_int (fun _ _ => rfl)) (de_ix dx_seq (de_var 0) de_int (fun _ _ => rfl))) (de_op do_mul (de_ix dx_seq (de_var 0) de_int (fun _ _ => rfl)) de_int)) da_nil)) de_int)) (dss_cons (ds_setIx (de_op do_mod (de_callTy dc_int rfl T.b_int bt_int (da_cons (de_op do_add (de_op do_add (de_op do_mul (de_var 4) de_int) (de_op do_mul (de_ix dx_seq (de_var 0) de_int (fun _ _ => rfl)) de_int)) de_int) da_nil)) de_int) (de_var 0) de_int) (dss_one (ds_ret (de_op do_mod (de_callTy dc_int rfl T.b_int bt_int (da_cons (de_op do_div (de_ix dx_seq (de_var 0) de_int (fun _ _ => rfl)) de_int) da_nil)) (de_var 1)))))))))) len hs
/-! _law_of -/
abbrev N__law_of : List Str := ["_law_box_here", "_law_some"]
theorem sc__law_of : FnScope N__law_of ["_law_box_here", "_law_some"] (defScope st__law_of) := ⟨rfl, rfl, rfl, by decide +kernel, rfl, by decide +kernel, by decide +kernel⟩
theorem ok__law_of {P : Program} {w : World} {K : PySem.W.Frag} {mg : Str → Option Value} {base : Heap} {f : Addr} {fd : FuncData} {k : Nat} {s : MF} {f__law_pull : Addr} {fd__law_pull : FuncData} {k__law_pull : Nat} (F : FnP K "_law_of" st__law_of f fd) (T : Txt w K mg) (D__law_pull : Df P w K mg base CX0 k__law_pull f__law_pull fd__law_pull "_law_pull" ["_law_box_here", "_law_many"] sPull) (hk__law_pull : k__law_pull ≤ k) (S__law_pull_2 : Binds K fd__law_pull ["_law_box_here", "_law_many"] [])
    (len : ∀ ds M k kx, s ds M k kx → ds.length = 2) (hs : ∀ ds M k kx, s ds M k kx → CM.b__law_of sPull { nx := fun _ M' => k .non M', rt := k } (startD 2 ds) M noX) : FnOk P w K mg base CX0 (k + 1) f fd ["_law_box_here", "_law_some"] (DL.spI K s) := by
  exact d_ok0 F sc__law_of (fun cdv A outer sh H E hr => (dss_one (ds_ret (de_ix dx_seq (de_var 1) (de_callD D__law_pull (hr.mono hk__law_pull) rfl S__law_pull_2 passN (da_cons (de_var 0) (da_cons (de_callB dc_len rfl T.b_len bb_len (da_cons (de_var 1) da_nil)) da_nil))) (fun _ _ => rfl))))) len hs
/-! _law_names -/
abbrev N__law_names : List Str := ["_law_box_here", "_law_many", "_law_letters", "_law_stem", "_law_k", "_law_spot", "_law_first", "_law_found", "_law_word"]
theorem sc__law_names : FnScope N__law_names ["_law_box_here", "_law_many"] (defScope st__law_names) := ⟨rfl, rfl, rfl, by decide +kernel, rfl, by decide +kernel, by decide +kernel⟩
theorem ok__law_names {P : Program} {w : World} {K : PySem.W.Frag} {mg : Str → Option Value} {base : Heap} {f : Addr} {fd : FuncData} {k : Nat} {s : MF} {f__law_of : Addr} {fd__law_of : FuncData} {k__law_of : Nat} {f__law_pull : Addr} {fd__law_pull : FuncData} {k__law_pull : Nat} (F : FnP K "_law_names" st__law_names f fd) (T : Txt w K mg) (D__law_of : Df P w K mg base CX0 k__law_of f__law_of fd__law_of "_law_of" ["_law_box_here", "_law_some"] CM.sOf) (hk__law_of : k__law_of ≤ k) (D__law_pull : Df P w K mg base CX0 k__law_pull f__law_pull fd__law_pull "_law_pull" ["_law_box_here", "_law_many"] sPull) (hk__law_pull : k__law_pull ≤ k) (S__law_of_2 : Binds K fd__law_of ["_law_box_here", "_law_some"] []) (S__law_pull_2 : Binds K fd__law_pull ["_law_box_here", "_law_many"] [])
    (len : ∀ ds M k kx, s ds M k kx → ds.length = 2) (hs : ∀ ds M k kx, s ds M k kx → CM.b__law_names CM.sOf sPull { nx := fun _ M' => k .non M', rt := k } (startD 9 ds) M noX) : FnOk P w K mg base CX0 (k + 1) f fd ["_law_box_here", "_law_many"] (DL.spI K s) := by
  exact d_ok0 F sc__law_names (fun cdv A outer sh H E hr => (dss_cons (ds_set (i := 2) sc__law_names.nd rfl (Or.inr rfl) de_str) (dss_cons (ds_set (i := 3) sc__law_names.nd rfl (Or.inr rfl) (de_join de_str (de_lc (E' := E0) rfl sc__law_names.nd (di_range1 rfl T.b_range (de_callD D__law_of (hr.mono hk__law_of) rfl S__law_of_2 passN (da_cons (de_var 0) (da_cons (de_lst (da_cons de_int (da_cons de_int (da_cons de_int (da_cons de_int da_nil))))) da_nil)))) (blkOk_by (own := [("_law_k", 4)]) (N := N__law_names) (sc := defScope st__law_names) (by decide +kernel)) (by decide +kernel) (fun _ _ _ _ _ => (dg_nm (i := 4) sc__law_names.nd rfl)) (fun _ _ _ _ _ => dts_nil) (fun _ _ _ _ _ => (de_callD D__law_of (hr.mono hk__law_of) rfl S__law_of_2 passN (da_cons (de_var 0) (da_cons (de_var 2) da_nil))))))) (dss_cons (ds_asg (de_tup (da_cons (de_callD D__law_pull (hr.mono hk__law_pull) rfl S__law_pull_2 passN (da_cons (de_var 0) (da_cons (de_op do_add (de_callB dc_len rfl T.b_len bb_len (da_cons (de_var 3) da_nil)) de_int) da_nil))) (da_cons (de_callD D__law_pull (hr.mono hk__law_pull) rfl S__law_pull_2 passN (da_cons (de_var 0) (da_cons de_int da_nil))) da_nil))) (dg_tp rfl rfl (dgs_cons (dg_nm (i := 5) sc__law_names.nd rfl) (dgs_cons (dg_nm (i := 6) sc__law_names.nd rfl) dgs_nil)))) (dss_cons (ds_setLc (E' := E0) (i := 7) rfl sc__law_names.nd rfl rfl (sw_true rfl rfl rfl (by decide +kernel)) (di_range1 rfl T.b_range (de_op do_add (de_var 1) de_int)) (blkOk_by (own := [("_law_k", 4)]) (N := N__law_names) (sc := defScope st__law_names) (by decide +kernel)) (by decide +kernel) (fun _ _ _ _ _ => (dg_nm (i := 4) sc__law_names.nd rfl)) (fun _ _ _ _ _ => dts_nil) (fun _ _ _ _ _ => (de_op do_add (de_op do_add (de_slice ds_slice (de_var 3) dp_none (dp_some (de_var 5))) (de_ix dx_seq (de_var 2) (de_op do_mod (de_callTy dc_int rfl T.b_int bt_int (da_cons (de_op do_add (de_var 6) (de_op do_mul de_int (de_var 4))) da_nil)) de_int) (fun _ _ => rfl))) (de_slice ds_slice (de_var 3) (dp_some (de_var 5)) dp_none)))) (dss_one (ds_ret (de_slice ds_slice (de_lc (E' := E0) rfl sc__law_names.nd (di_seq (de_var 7)) (blkOk_by (own := [("_law_word", 8)]) (N := N__law_names) (sc := defScope st__law_names) (by decide +kernel)) (by decide +kernel) (fun _ _ _ _ _ => (dg_nm (i := 8) sc__law_names.nd rfl)) (fun _ _ _ _ _ => (dts_one (dt_cmp do_notIn (de_var 8) (de_lst (da_cons de_str (da_cons de_str (da_cons de_str (da_cons de_str da_nil))))) (by rfl)))) (fun _ _ _ _ _ => (de_var 8))) dp_none (dp_some (de_var 1)))))))))) len hs
/-! _law_same -/
abbrev N__law_same : List Str := ["_law_found", "_law_due", "_law_a", "_law_b"]
theorem sc__law_same : FnScope N__law_same ["_law_found", "_law_due"] (defScope st__law_same) := ⟨rfl, rfl, rfl, by decide +kernel, rfl, by decide +kernel, by decide +kernel⟩
theorem ok__law_same {sameN : Nat} {P : Program} {w : World} {K : PySem.W.Frag} {mg : Str → Option Value} {base : Heap} {f : Addr} {fd : FuncData} {k : Nat} {s : MF} {f__law_same : Addr} {fd__law_same : FuncData} {k__law_same : Nat} (F : FnP K "_law_same" st__law_same f fd) (T : Txt w K mg) (D__law_same : Df P w K mg base CX0 k__law_same f__law_same fd__law_same "_law_same" ["_law_found", "_law_due"] (CM.sSame sameN)) (hk__law_same : k__law_same ≤ k) (S__law_same_2 : Binds K fd__law_same ["_law_found", "_law_due"] [])
    (len : ∀ ds M k kx, s ds M k kx → ds.length = 2) (hs : ∀ ds M k kx, s ds M k kx → CM.b__law_same (CM.sSame sameN) { nx := fun _ M' => k .non M', rt := k } (startD 4 ds) M noX) : FnOk P w K mg base CX0 (k + 1) f fd ["_law_found", "_law_due"] (DL.spI K s) := by
  exact d_ok0 F sc__law_same (fun cdv A outer sh H E hr => (dss_cons (ds_if (PW.pt (dw_or (dt_cmp do_is (de_var 1) de_non (nomark _)) (dw_or1 (dt_cmp do_is (de_var 0) de_non (nomark _))))) (dss_one (ds_ret (de_and (de_cmp do_is (de_var 1) de_non (nomark _)) (de_one (de_cmp do_is (de_var 0) de_non (nomark _)))))) dss_nil) (dss_cons (ds_if (dt_val (de_isi2 rfl T.b_isinstance (de_var 1) rfl T.b_list bt_list (by decide) rfl T.b_tuple bt_tuple (by decide))) (dss_cons (ds_if (PW.pt (dw_or (dt_cmp (do_ne hr.units) (de_isi rfl T.b_isinstance (de_var 0) rfl T.b_list bt_list (by decide)) (de_isi rfl T.b_isinstance (de_var 1) rfl T.b_list bt_list (by decide)) (nomark _)) (dw_or1 (dt_cmp (do_ne hr.units) (de_isi rfl T.b_isinstance (de_var 0) rfl T.b_tuple bt_tuple (by decide)) (de_isi rfl T.b_isinstance (de_var 1) rfl T.b_tuple bt_tuple (by decide)) (nomark _))))) (dss_one (ds_ret de_bl)) dss_nil) (dss_one (ds_ret (de_and (de_cmp (do_eq hr.units) (de_callB dc_len rfl T.b_len bb_len (da_cons (de_var 0) da_nil)) (de_callB dc_len rfl T.b_len bb_len (da_cons (de_var 1) da_nil)) (nomark _)) (de_one (de_callB (dc_all rfl) rfl T.b_all bb_all (da_cons (de_lc (E' := E0) rfl sc__law_same.nd (di_zip rfl T.b_zip (de_var 0) (de_var 1)) (blkOk_by (own := [("_law_a", 2), ("_law_b", 3)]) (N := N__law_same) (sc := defScope st__law_same) (by decide +kernel)) (by decide +kernel) (fun _ _ _ _ _ => (dg_tp rfl rfl (dgs_cons (dg_nm (i := 2) sc__law_same.nd rfl) (dgs_cons (dg_nm (i := 3) sc__law_same.nd rfl) dgs_nil)))) (fun _ _ _ _ _ => dts_nil) (fun _ _ _ _ _ => (de_callD D__law_same (hr.mono hk__law_same) rfl S__law_same_2 passN (da_cons (de_var 2) (da_cons (de_var 3) da_nil))))) da_nil))))))) dss_nil) (dss_cons (ds_if (PW.pt (dw_or (dt_val (de_isi rfl T.b_isinstance (de_var 1) rfl T.b_bool bt_bool (by decide))) (dw_or1 (dt_val (de_isi rfl T.b_isinstance (de_var 0) rfl T.b_bool bt_bool (by decide)))))) (dss_one (ds_ret (de_and (de_isi rfl T.b_isinstance (de_var 1) rfl T.b_bool bt_bool (by decide)) (de_and (de_isi rfl T.b_isinstance (de_var 0) rfl T.b_bool bt_bool (by decide)) (de_one (de_cmp (do_eq hr.units) (de_var 0) (de_var 1) (nomark _))))))) dss_nil) (dss_cons (ds_if (dt_val (de_isi rfl T.b_isinstance (de_var 1) rfl T.b_int bt_int (by decide))) (dss_one (ds_ret (de_and (de_isi rfl T.b_isinstance (de_var 0) rfl T.b_int bt_int (by decide)) (de_one (de_cmp (do_eq hr.units) (de_var 0) (de_var 1) (nomark _)))))) dss_nil) (dss_one (ds_ret (de_and (de_isi rfl T.b_isinstance (de_var 0) rfl T.b_str bt_str (by decide)) (de_and (de_isi rfl T.b_isinstance (de_var 1) rfl T.b_str bt_str (by decide)) (de_one (de_cmp (do_eq hr.units) (de_var 0) (de_var 1) (nomark _)))))))))))) len hs
/-! _law_field -/
abbrev N__law_field : List Str := ["_law_e"]
theorem sc__law_field : FnScope N__law_field ["_law_e"] (defScope st__law_field) := ⟨rfl, rfl, rfl, by decide +kernel, rfl, by decide +kernel, by decide +kernel⟩
theorem ok__law_field {P : Program} {w : World} {K : PySem.W.Frag} {mg : Str → Option Value} {base : Heap} {f : Addr} {fd : FuncData} {k : Nat} (F : FnP K "_law_field" st__law_field f fd) : FnE P w K mg base (k + 1) f fd ["_law_e"] (spE K (okE K) CM.sField) :=
  d_okE (m := CM.b__law_field) F sc__law_field (fun cdv A outer sh H E p C dd hr hok hp => (dss_cons (ds_if (dt_cmp do_in (de_fld hok.xf (hok.no "code" (by decide)) hp (de_var 0)) (de_lst (da_cons de_str (da_cons de_str (da_cons de_str (da_cons de_str (da_cons de_str (da_cons de_str (da_cons de_str da_nil)))))))) (by rfl)) (dss_one (ds_ret (de_fld hok.xf (hok.no "given" (by decide)) hp (de_var 0)))) dss_nil) (dss_cons (ds_if (dt_cmp do_in (de_fld hok.xf (hok.no "code" (by decide)) hp (de_var 0)) (de_lst (da_cons de_str (da_cons de_str (da_cons de_str (da_cons de_str da_nil))))) (by rfl)) (dss_one (ds_ret (de_fld hok.xf (hok.no "at" (by decide)) hp (de_var 0)))) dss_nil) (dss_cons (ds_if (dt_cmp (do_eq (unitsH hr)) (de_fld hok.xf (hok.no "code" (by decide)) hp (de_var 0)) de_str (nomark _)) (dss_one (ds_ret (de_tup (da_cons (de_fld hok.xf (hok.no "table" (by decide)) hp (de_var 0)) (da_cons (de_fld hok.xf (hok.no "at" (by decide)) hp (de_var 0)) da_nil))))) dss_nil) (dss_cons (ds_if (dt_cmp (do_eq (unitsH hr)) (de_fld hok.xf (hok.no "code" (by decide)) hp (de_var 0)) de_str (nomark _)) (dss_one (ds_ret (de_tup (da_cons (de_fld hok.xf (hok.no "one" (by decide)) hp (de_var 0)) (da_cons (de_fld hok.xf (hok.no "other" (by decide)) hp (de_var 0)) da_nil))))) dss_nil) (dss_cons (ds_if (dt_cmp do_in (de_fld hok.xf (hok.no "code" (by decide)) hp (de_var 0)) (de_lst (da_cons de_str (da_cons de_str (da_cons de_str da_nil)))) (by rfl)) (dss_one (ds_ret (de_fld hok.xf (hok.no "name" (by decide)) hp (de_var 0)))) dss_nil) (dss_cons (ds_if (dt_cmp do_in (de_fld hok.xf (hok.no "code" (by decide)) hp (de_var 0)) (de_lst (da_cons de_str (da_cons de_str da_nil))) (by rfl)) (dss_one (ds_ret (de_fld hok.xf (hok.no "most" (by decide)) hp (de_var 0)))) dss_nil) (dss_cons (ds_if (dt_cmp (do_eq (unitsH hr)) (de_fld hok.xf (hok.no "code" (by decide)) hp (de_var 0)) de_str (nomark _)) (dss_one (ds_ret (de_fld hok.xf (hok.no "taken" (by decide)) hp (de_var 0)))) dss_nil) (dss_cons (ds_if (dt_cmp (do_eq (unitsH hr)) (de_fld hok.xf (hok.no "code" (by decide)) hp (de_var 0)) de_str (nomark _)) (dss_one (ds_ret (de_fld hok.xf (hok.no "number" (by decide)) hp (de_var 0)))) dss_nil) (dss_one (ds_ret (de_if (dt_cmp (do_eq (unitsH hr)) (de_fld hok.xf (hok.no "code" (by decide)) hp (de_var 0)) de_str (nomark _)) (de_fld hok.xf (hok.no "line" (by decide)) hp (de_var 0)) de_non)))))))))))) CM.field_len CM.field_ok
/-! _law_odd -/
abbrev N__law_odd : List Str := ["_law_box_here", "_law_more"]
theorem sc__law_odd : FnScope N__law_odd ["_law_box_here", "_law_more"] (defScope st__law_odd) := ⟨rfl, rfl, rfl, by decide +kernel, rfl, by decide +kernel, by decide +kernel⟩
theorem ok__law_odd {P : Program} {w : World} {K : PySem.W.Frag} {mg : Str → Option Value} {base : Heap} {f : Addr} {fd : FuncData} {k : Nat} {s : MF} {f__law_of : Addr} {fd__law_of : FuncData} {k__law_of : Nat} (F : FnP K "_law_odd" st__law_odd f fd) (T : Txt w K mg) (D__law_of : Df P w K mg base CX0 k__law_of f__law_of fd__law_of "_law_of" ["_law_box_here", "_law_some"] CM.sOf) (hk__law_of : k__law_of ≤ k) (S__law_of_2 : Binds K fd__law_of ["_law_box_here", "_law_some"] [])
    (len : ∀ ds M k kx, s ds M k kx → ds.length = 2) (hs : ∀ ds M k kx, s ds M k kx → CM.b__law_odd CM.sOf { nx := fun _ M' => k .non M', rt := k } (startD 2 ds) M noX) : FnOk P w K mg base CX0 (k + 1) f fd ["_law_box_here", "_law_more"] (DL.spI K s) := by
  exact d_ok0 F sc__law_odd (fun cdv A outer sh H E hr => (dss_one (ds_ret (de_callD D__law_of (hr.mono hk__law_of) rfl S__law_of_2 passN (da_cons (de_var 0) (da_cons (de_op do_add (de_lst (da_cons de_non (da_cons de_bl (da_cons de_bl (da_cons de_str (da_cons de_str (da_cons de_str (da_cons de_str (da_cons (de_un du_neg de_int) (da_cons de_int (da_cons (de_tup (da_cons de_int (da_cons de_str da_nil))) (da_cons (de_lst (da_cons de_int da_nil)) (da_cons (de_tup da_nil) (da_cons (de_op do_pow de_int de_int) da_nil)))))))))))))) (de_var 1)) da_nil)))))) len hs
/-! _law_free_test -/
abbrev N__law_free_test : List Str := ["_law_box_here", "_law_words", "_law_deep_here", "_law_column", "_law_way", "_law_part", "_law_other"]
theorem sc__law_free_test : FnScope N__law_free_test ["_law_box_here", "_law_words", "_law_deep_here"] (defScope st__law_free_test) := ⟨rfl, rfl, rfl, by decide +kernel, rfl, by decide +kernel, by decide +kernel⟩
theorem ok__law_free_test {growN : Nat} {P : Program} {w : World} {K : PySem.W.Frag} {mg : Str → Option Value} {base : Heap} {f : Addr} {fd : FuncData} {k : Nat} {s : MF} {f__law_of : Addr} {fd__law_of : FuncData} {k__law_of : Nat} {f__law_pull : Addr} {fd__law_pull : FuncData} {k__law_pull : Nat} {f__law_free_test : Addr} {fd__law_free_test : FuncData} {k__law_free_test : Nat} (F : FnP K "_law_free_test" st__law_free_test f fd) (T : Txt w K mg) (D__law_of : Df P w K mg base CX0 k__law_of f__law_of fd__law_of "_law_of" ["_law_box_here", "_law_some"] CM.sOf) (hk__law_of : k__law_of ≤ k) (D__law_pull : Df P w K mg base CX0 k__law_pull f__law_pull fd__law_pull "_law_pull" ["_law_box_here", "_law_many"] sPull) (hk__law_pull : k__law_pull ≤ k) (D__law_free_test : Df P w K mg base CX0 k__law_free_test f__law_free_test fd__law_free_test "_law_free_test" ["_law_box_here", "_law_words", "_law_deep_here"] (CM.sGrow growN)) (hk__law_free_test : k__law_free_test ≤ k) (S__law_of_2 : Binds K fd__law_of ["_law_box_here", "_law_some"] []) (S__law_pull_2 : Binds K fd__law_pull ["_law_box_here", "_law_many"] []) (S__law_free_test_3 : Binds K fd__law_free_test ["_law_box_here", "_law_words", "_law_deep_here"] [])
    (len : ∀ ds M k kx, s ds M k kx → ds.length = 3) (hs : ∀ ds M k kx, s ds M k kx → CM.b__law_free_test (CM.sGrow growN) { nx := fun _ M' => k .non M', rt := k } (startD 7 ds) M noX) : FnOk P w K mg base CX0 (k + 1) f fd ["_law_box_here", "_law_words", "_law_deep_here"] (DL.spI K s) := by
  exact d_ok0 F sc__law_free_test (fun cdv A outer sh H E hr => (dss_cons (ds_if (dt_cmp (do_eq hr.units) (de_var 2) de_int (nomark _)) (dss_cons (ds_set (i := 3) sc__law_free_test.nd rfl (Or.inl rfl) (de_callD D__law_of (hr.mono hk__law_of) rfl S__law_of_2 passN (da_cons (de_var 0) (da_cons (de_lst (da_cons (de_ix dx_seq (de_var 1) de_int (fun _ _ => rfl)) (da_cons (de_ix dx_seq (de_var 1) de_int (fun _ _ => rfl)) (da_cons (de_op do_add (de_op do_add (de_ix dx_seq (de_var 1) de_int (fun _ _ => rfl)) de_str) (de_ix dx_seq (de_var 1) de_int (fun _ _ => rfl))) da_nil)))) da_nil)))) (dss_one (ds_ret (de_if (dt_cmp do_gt (de_callD D__law_pull (hr.mono hk__law_pull) rfl S__law_pull_2 passN (da_cons (de_var 0) (da_cons de_int da_nil))) de_int (nomark _)) (de_tup (da_cons de_str (da_cons (de_var 3) (da_cons (de_ix dx_seq (de_var 1) de_int (fun _ _ => rfl)) da_nil)))) (de_tup (da_cons de_str (da_cons (de_ix dx_seq (de_var 1) de_int (fun _ _ => rfl)) da_nil))))))) dss_nil) (dss_cons (ds_par (i := 4) (j := 5) rfl sc__law_free_test.nd rfl rfl (by decide) rfl rfl (da_cons (de_callD D__law_pull (hr.mono hk__law_pull) rfl S__law_pull_2 passN (da_cons (de_var 0) (da_cons de_int da_nil))) (da_cons (de_callD D__law_free_test (hr.mono hk__law_free_test) rfl S__law_free_test_3 passN (da_cons (de_var 0) (da_cons (de_var 1) (da_cons (de_op do_sub (de_var 2) de_int) da_nil)))) da_nil)) (ps_par rfl sc__law_free_test.nd rfl rfl (by decide) rfl rfl (da_cons (de_callD D__law_pull (hr.mono hk__law_pull) rfl S__law_pull_2 passN (da_cons (de_var 0) (da_cons de_int da_nil))) (da_cons (de_callD D__law_free_test (hr.mono hk__law_free_test) rfl S__law_free_test_3 passN (da_cons (de_var 0) (da_cons (de_var 1) (da_cons (de_op do_sub (de_var 2) de_int) da_nil)))) da_nil)) rfl)) (dss_cons (ds_if (dt_cmp (do_eq hr.units) (de_var 4) de_int (nomark _)) (dss_one (ds_ret (de_tup (da_cons de_str (da_cons (de_var 5) da_nil))))) dss_nil) (dss_cons (ds_set (i := 6) sc__law_free_test.nd rfl (Or.inl rfl) (de_callD D__law_free_test (hr.mono hk__law_free_test) rfl S__law_free_test_3 passN (da_cons (de_var 0) (da_cons (de_var 1) (da_cons (de_op do_add de_int (de_callD D__law_pull (hr.mono hk__law_pull) rfl S__law_pull_2 passN (da_cons (de_var 0) (da_cons (de_callB (dc_min rfl) rfl T.b_min bb_min (da_cons (de_op do_sub (de_var 2) de_int) (da_cons de_int da_nil))) da_nil)))) da_nil))))) (dss_one (ds_ret (de_if (dt_cmp (do_eq hr.units) (de_callD D__law_pull (hr.mono hk__law_pull) rfl S__law_pull_2 passN (da_cons (de_var 0) (da_cons de_int da_nil))) de_int (nomark _)) (de_tup (da_cons (de_ix dx_seq (de_lst (da_cons de_str (da_cons de_str da_nil))) (de_op do_sub (de_var 4) de_int) (fun _ _ => rfl)) (da_cons (de_var 5) (da_cons (de_var 6) da_nil)))) (de_tup (da_cons (de_ix dx_seq (de_lst (da_cons de_str (da_cons de_str da_nil))) (de_op do_sub (de_var 4) de_int) (fun _ _ => rfl)) (da_cons (de_var 6) (da_cons (de_var 5) da_nil)))))))))))) len hs
/-! _law_test_words -/
abbrev N__law_test_words : List Str := ["_law_test", "_law_found", "_law_part"]
theorem sc__law_test_words : FnScope N__law_test_words ["_law_test"] (defScope st__law_test_words) := ⟨rfl, rfl, rfl, by decide +kernel, rfl, by decide +kernel, by decide +kernel⟩
def b__law_test_words (wordsN : Nat) : MS := (mSeq (mIfS (mTest (mOp dIn (mOp dIx (mVar 0) (mC (.int 0))) (mTup (mCons (mC (.str "is")) (mCons (mC (.str "has")) mNil))))) (mRet (mCB cList (mCons (mVar 0) mNil))) mNext) (mSeq (mAsg (mLst (mCons (mOp dIx (mVar 0) (mC (.int 0))) mNil)) (.nm 1)) (mSeq (mFor (.nm 2) (mSeqI (mSl dSlice (mVar 0) (mPart (mC (.int 1))) mNoPart)) (mAsg (mOp dAdd (mVar 1) (mCall (sWords wordsN) (mCons (mVar 2) mNil))) (.nm 1))) (mRet (mVar 1)))))
theorem ok__law_test_words {wordsN : Nat} {P : Program} {w : World} {K : PySem.W.Frag} {mg : Str → Option Value} {base : Heap} {f : Addr} {fd : FuncData} {k : Nat} {s : MF} {f__law_test_words : Addr} {fd__law_test_words : FuncData} {k__law_test_words : Nat} (F : FnP K "_law_test_words" st__law_test_words f fd) (T : Txt w K mg) (D__law_test_words : Df P w K mg base CX0 k__law_test_words f__law_test_words fd__law_test_words "_law_test_words" ["_law_test"] (sWords wordsN)) (hk__law_test_words : k__law_test_words ≤ k) (S__law_test_words_1 : Binds K fd__law_test_words ["_law_test"] [])
    (len : ∀ ds M k kx, s ds M k kx → ds.length = 1) (hs : ∀ ds M k kx, s ds M k kx → b__law_test_words wordsN { nx := fun _ M' => k .non M', rt := k } (startD 3 ds) M noX) : FnOk P w K mg base CX0 (k + 1) f fd ["_law_test"] (DL.spI K s) := by
  exact d_ok0 F sc__law_test_words (fun cdv A outer sh H E hr => (dss_cons (ds_if (dt_cmp do_in (de_ix dx_seq (de_var 0) de_int (fun _ _ => rfl)) (de_tup (da_cons de_str (da_cons de_str da_nil))) (by rfl)) (dss_one (ds_ret (de_callTy dc_list rfl T.b_list bt_list (da_cons (de_var 0) da_nil)))) dss_nil) (dss_cons (ds_set (i := 1) sc__law_test_words.nd rfl (Or.inl rfl) (de_lst (da_cons (de_ix dx_seq (de_var 0) de_int (fun _ _ => rfl)) da_nil))) (dss_cons (ds_for PassesOwn.never rfl (di_seq (de_slice ds_slice (de_var 0) (dp_some de_int) dp_none)) (dg_nm (i := 2) sc__law_test_words.nd rfl) (dss_one (ds_set (i := 1) sc__law_test_words.nd rfl (Or.inl rfl) (de_op do_add (de_var 1) (de_callD D__law_test_words (hr.mono hk__law_test_words) rfl S__law_test_words_1 passN (da_cons (de_var 2) da_nil)))))) (dss_one (ds_ret (de_var 1))))))) len hs
/-! _law_deep -/
abbrev N__law_deep : List Str := ["_law_test", "_law_part"]
theorem sc__law_deep : FnScope N__law_deep ["_law_test"] (defScope st__law_deep) := ⟨rfl, rfl, rfl, by decide +kernel, rfl, by decide +kernel, by decide +kernel⟩
def b__law_deep (deepN : Nat) : MS := (mRet (mIf (mTest (mOp dIn (mOp dIx (mVar 0) (mC (.int 0))) (mTup (mCons (mC (.str "is")) (mCons (mC (.str "has")) mNil))))) (mC (.int 1)) (mOp dAdd (mC (.int 1)) (mCB cMaxL (mCons (mLc (.nm 1) (mSeqI (mSl dSlice (mVar 0) (mPart (mC (.int 1))) mNoPart)) mYes (mCall (sDeep deepN) (mCons (mVar 1) mNil)) [1]) mNil)))))
theorem ok__law_deep {deepN : Nat} {P : Program} {w : World} {K : PySem.W.Frag} {mg : Str → Option Value} {base : Heap} {f : Addr} {fd : FuncData} {k : Nat} {s : MF} {f__law_deep : Addr} {fd__law_deep : FuncData} {k__law_deep : Nat} (F : FnP K "_law_deep" st__law_deep f fd) (T : Txt w K mg) (D__law_deep : Df P w K mg base CX0 k__law_deep f__law_deep fd__law_deep "_law_deep" ["_law_test"] (sDeep deepN)) (hk__law_deep : k__law_deep ≤ k) (S__law_deep_1 : Binds K fd__law_deep ["_law_test"] [])
    (len : ∀ ds M k kx, s ds M k kx → ds.length = 1) (hs : ∀ ds M k kx, s ds M k kx → b__law_deep deepN { nx := fun _ M' => k .non M', rt := k } (startD 2 ds) M noX) : FnOk P w K mg base CX0 (k + 1) f fd ["_law_test"] (DL.spI K s) := by
  exact d_ok0 F sc__law_deep (fun cdv A outer sh H E hr => (dss_one (ds_ret (de_if (dt_cmp do_in (de_ix dx_seq (de_var 0) de_int (fun _ _ => rfl)) (de_tup (da_cons de_str (da_cons de_str da_nil))) (by rfl)) de_int (de_op do_add de_int (de_callB (dc_maxL rfl) rfl T.b_max bb_max (da_cons (de_lc (E' := E0) rfl sc__law_deep.nd (di_seq (de_slice ds_slice (de_var 0) (dp_some de_int) dp_none)) (blkOk_by (own := [("_law_part", 1)]) (N := N__law_deep) (sc := defScope st__law_deep) (by decide +kernel)) (by decide +kernel) (fun _ _ _ _ _ => (dg_nm (i := 1) sc__law_deep.nd rfl)) (fun _ _ _ _ _ => dts_nil) (fun _ _ _ _ _ => (de_callD D__law_deep (hr.mono hk__law_deep) rfl S__law_deep_1 passN (da_cons (de_var 1) da_nil)))) da_nil))))))) len hs
/-! law -/
abbrev N_law : List Str := ["_law_script", "_law_box_here", "_law_turn", "_law_words", "_law_word", "_law_test", "_law_due", "_law_row", "_law_at", "_law_way", "_law_bent", "_law_spoilt", "_law_again", "_law_odd_here"]
theorem sc_law : FnScope N_law ["_law_script"] (defScope st_law) := ⟨rfl, rfl, rfl, by decide +kernel, rfl, by decide +kernel, by decide +kernel⟩
def b_law_1 (V : Ev) : MS := (mAsg (mLc (.nm 4) (mSeqI (mCall CM.sNames (mCons (mVar 1) (mCons (mC (.int 5)) mNil)))) mYes (mOp dAdd (mC (.str "b")) (mSl dSlice (mVar 4) mNoPart (mPart (mC (.int 5))))) [4]) (.nm 3))  -- line 162
def b_law_2 (V : Ev) : MS := (mAsg (mCall (CM.sGrow 6) (mCons (mVar 1) (mCons (mVar 3) (mCons (mOp dAdd (mC (.int 1)) (mCall sPull (mCons (mVar 1) (mCons (mC (.int 6)) mNil)))) mNil)))) (.nm 5))  -- line 163
def b_law_3 (V : Ev) : MS := (mAsg (mJoin (mC (.str " ")) (mCall (sWords 7) (mCons (mVar 5) mNil))) (.nm 6))  -- line 164
def b_law_4 (V : Ev) : MS := (mIfS (mNot (mTest (mCall (CM.sSame 10) (mCons (mLst (mCons (mCall (sText 7) (mCons (mVar 5) mNil)) (mCons (mCall (sRead V.G) (mCons (mVar 6) mNil)) (mCons (mCallN 0 1 (sRead V.G) (pick [(false, 0)]) mNil (mCons (mCall (sText 7) (mCons (mVar 5) mNil)) mNil)) mNil)))) (mCons (mLst (mCons (mVar 6) (mCons (mVar 5) (mCons (mVar 5) mNil)))) mNil))))) (mRet (mC (.bl false))) mNext)  -- line 165
def b_law_5 (V : Ev) : MS := (mAsg (mSplit (mVar 6) (mC (.str " "))) (.nm 7))  -- line 167
def b_law_6 (V : Ev) : MS := (mPar 8 9 (mCons (mCall sPull (mCons (mVar 1) (mCons (mCB cLen (mCons (mVar 7) mNil)) mNil))) (mCons (mCall sPull (mCons (mVar 1) (mCons (mC (.int 5)) mNil))) mNil)))  -- line 168
def b_law_7 (V : Ev) : MS := (mAsg (mOp dIx (mLst (mCons (mOp dAdd (mSl dSlice (mVar 7) mNoPart (mPart (mVar 8))) (mSl dSlice (mVar 7) (mPart (mOp dAdd (mVar 8) (mC (.int 1)))) mNoPart)) (mCons (mOp dAdd (mOp dAdd (mSl dSlice (mVar 7) mNoPart (mPart (mVar 8))) (mLst (mCons (mC (.str "has")) mNil))) (mSl dSlice (mVar 7) (mPart (mVar 8)) mNoPart)) (mCons (mOp dAdd (mOp dAdd (mSl dSlice (mVar 7) mNoPart (mPart (mVar 8))) (mLst (mCons (mC (.str "IS")) mNil))) (mSl dSlice (mVar 7) (mPart (mOp dAdd (mVar 8) (mC (.int 1)))) mNoPart)) (mCons (mOp dAdd (mOp dAdd (mSl dSlice (mVar 7) mNoPart (mPart (mVar 8))) (mLst (mCons (mC (.str "")) mNil))) (mSl dSlice (mVar 7) (mPart (mVar 8)) mNoPart)) (mCons (mOp dAdd (mVar 7) (mLst (mCons (mC (.str "not")) mNil))) mNil)))))) (mVar 9)) (.nm 10))  -- line 169
def b_law_8 (V : Ev) : MS := (mAsg (mJoin (mC (.str " ")) (mVar 10)) (.nm 11))  -- line 170
def b_law_9 (V : Ev) : MS := (mIfS (mAnd (mTest (mOp dNe (mGot V.P lamQ V.ok CM.sField (mCall (sRead V.G) (mCons (mVar 11) mNil))) (mTup (mCons (mC (.str "InvalidTest")) (mCons (mVar 11) mNil))))) (mTest (mOp dGt (mVar 9) (mC (.int 1))))) (mRet (mC (.bl false))) mNext)  -- line 171
def b_law_10 (V : Ev) : MS := (mAsg (mGot V.P lamQ V.ok CM.sField (mCall (sRead V.G) (mCons (mVar 11) mNil))) (.nm 12))  -- line 173
def b_law_11 (V : Ev) : MS := (mIfS (mAnd (mTest (mOp dEq (mOp dIx (mVar 12) (mC (.int 0))) (mC (.str "")))) (mTest (mOp dNe (mCall (sText 7) (mCons (mOp dIx (mVar 12) (mC (.int 1))) mNil)) (mVar 11)))) (mRet (mC (.bl false))) mNext)  -- line 174
def b_law_12 (V : Ev) : MS := (mAsg (mCall CM.sOdd (mCons (mVar 1) (mCons (mLst (mCons (mOp dAdd (mC (.str " ")) (mVar 6)) (mCons (mOp dAdd (mVar 6) (mC (.str " "))) (mCons (mOp dAdd (mOp dAdd (mVar 6) (mC (.str " "))) (mVar 6)) (mCons (mOp dAdd (mVar 6) (mC (.str "\n"))) (mCons (mRepl " " "  " (mVar 6)) (mCons (mLst (mCons (mVar 6) mNil)) mNil))))))) mNil))) (.nm 13))  -- line 176
def b_law_13 (V : Ev) : MS := (mIfS (mNot (mTest (mCall (CM.sSame 10) (mCons (mGot V.P lamQ V.ok CM.sField (mCall (sRead V.G) (mCons (mVar 13) mNil))) (mCons (mTup (mCons (mC (.str "InvalidTest")) (mCons (mVar 13) mNil))) mNil))))) (mRet (mC (.bl false))) mNext)  -- line 177
def b_law_14 (V : Ev) : MS := (mIfS (mNot (mTest (mCall (CM.sSame 10) (mCons (mGot V.P lamQ V.ok CM.sField (mCall (sRead V.G) (mCons (mOp dAdd (mC (.str "not ")) (mVar 6)) mNil))) (mCons (mIf (mTest (mOp dLt (mCall (sDeep 7) (mCons (mVar 5) mNil)) (mC (.int 6)))) (mTup (mCons (mC (.str "")) (mCons (mTup (mCons (mC (.str "not")) (mCons (mVar 5) mNil))) mNil))) (mTup (mCons (mC (.str "InvalidTest")) (mCons (mOp dAdd (mC (.str "not ")) (mVar 6)) mNil)))) mNil))))) (mRet (mC (.bl false))) mNext)  -- line 179
def b_law_15 (V : Ev) : MS := (mAsg (mCall sBox (mCons (mVar 0) mNil)) (.nm 1))  -- line 160
def b_law_16 (V : Ev) : MS := (mFor (.nm 2) (mRange1 (mC (.int 6))) (mSeq (b_law_1 V) (mSeq (b_law_2 V) (mSeq (b_law_3 V) (mSeq (b_law_4 V) (mSeq (b_law_5 V) (mSeq (b_law_6 V) (mSeq (b_law_7 V) (mSeq (b_law_8 V) (mSeq (b_law_9 V) (mSeq (b_law_10 V) (mSeq (b_law_11 V) (mSeq (b_law_12 V) (mSeq (b_law_13 V) (b_law_14 V)))))))))))))))  -- line 161
def b_law_17 (V : Ev) : MS := (mRet (mC (.bl true)))  -- line 181
def b_law (V : Ev) : MS := (mSeq (b_law_15 V) (mSeq (b_law_16 V) (b_law_17 V)))
theorem ok_law {P : Program} {w : World} {K : PySem.W.Frag} {mg : Str → Option Value} {base : Heap} {f : Addr} {fd : FuncData} {k : Nat} {s : MF} {f__law_box : Addr} {fd__law_box : FuncData} {k__law_box : Nat} {f__law_names : Addr} {fd__law_names : FuncData} {k__law_names : Nat} {f__law_free_test : Addr} {fd__law_free_test : FuncData} {k__law_free_test : Nat} {f__law_pull : Addr} {fd__law_pull : FuncData} {k__law_pull : Nat} {f__law_test_words : Addr} {fd__law_test_words : FuncData} {k__law_test_words : Nat} {f__law_same : Addr} {fd__law_same : FuncData} {k__law_same : Nat} {f_read_test : Addr} {fd_read_test : FuncData} {k_read_test : Nat} {f_test_text : Addr} {fd_test_text : FuncData} {k_test_text : Nat} {f__law_odd : Addr} {fd__law_odd : FuncData} {k__law_odd : Nat} {f__law_deep : Addr} {fd__law_deep : FuncData} {k__law_deep : Nat} {V : Ev} {k_got : Nat} {c : Addr} (F : FnP K "law" st_law f fd) (T : Txt w K mg) (D__law_box : Df P w K mg base CX0 k__law_box f__law_box fd__law_box "_law_box" ["_law_script"] sBox) (hk__law_box : k__law_box ≤ k) (D__law_names : Df P w K mg base CX0 k__law_names f__law_names fd__law_names "_law_names" ["_law_box_here", "_law_many"] CM.sNames) (hk__law_names : k__law_names ≤ k) (D__law_free_test : Df P w K mg base CX0 k__law_free_test f__law_free_test fd__law_free_test "_law_free_test" ["_law_box_here", "_law_words", "_law_deep_here"] (CM.sGrow 6)) (hk__law_free_test : k__law_free_test ≤ k) (D__law_pull : Df P w K mg base CX0 k__law_pull f__law_pull fd__law_pull "_law_pull" ["_law_box_here", "_law_many"] sPull) (hk__law_pull : k__law_pull ≤ k) (D__law_test_words : Df P w K mg base CX0 k__law_test_words f__law_test_words fd__law_test_words "_law_test_words" ["_law_test"] (sWords 7)) (hk__law_test_words : k__law_test_words ≤ k) (D__law_same : Df P w K mg base CX0 k__law_same f__law_same fd__law_same "_law_same" ["_law_found", "_law_due"] (CM.sSame 10)) (hk__law_same : k__law_same ≤ k) (D_read_test : Df P w K mg base (L2.CX P w) k_read_test f_read_test fd_read_test "read_test" ["text"] (sRead V.G)) (hk_read_test : k_read_test ≤ k) (D_test_text : Df P w K mg base CX0 k_test_text f_test_text fd_test_text "test_text" ["test"] (sText 7)) (hk_test_text : k_test_text ≤ k) (D__law_odd : Df P w K mg base CX0 k__law_odd f__law_odd fd__law_odd "_law_odd" ["_law_box_here", "_law_more"] CM.sOdd) (hk__law_odd : k__law_odd ≤ k) (D__law_deep : Df P w K mg base CX0 k__law_deep f__law_deep fd__law_deep "_law_deep" ["_law_test"] (sDeep 7)) (hk__law_deep : k__law_deep ≤ k) (S__law_box_1 : Binds K fd__law_box ["_law_script"] []) (S__law_names_2 : Binds K fd__law_names ["_law_box_here", "_law_many"] []) (S__law_pull_2 : Binds K fd__law_pull ["_law_box_here", "_law_many"] []) (S__law_free_test_3 : Binds K fd__law_free_test ["_law_box_here", "_law_words", "_law_deep_here"] []) (S__law_test_words_1 : Binds K fd__law_test_words ["_law_test"] []) (S_test_text_1 : Binds K fd_test_text ["test"] []) (S_read_test_0_text : Shape K fd_read_test ["text"] 0 ["text"] (pick [(false, 0)])) (S_read_test_1 : Binds K fd_read_test ["text"] []) (S__law_same_2 : Binds K fd__law_same ["_law_found", "_law_due"] []) (S__law_odd_2 : Binds K fd__law_odd ["_law_box_here", "_law_more"] []) (S__law_deep_1 : Binds K fd__law_deep ["_law_test"] []) (EV : EvD K V) (GD : GotD P w K mg base k_got CM.sField) (hk_got : k_got + 2 ≤ k) (TB : LamX.TabB base mg c V.P) (hcd : fd.code = .ref c) (hkl_read_test : k_read_test ≤ k_got)
    (len : ∀ ds M k kx, s ds M k kx → ds.length = 1) (hs : ∀ ds M k kx, s ds M k kx → b_law V { nx := fun _ M' => k .non M', rt := k } (startD 14 ds) M noX) : FnOk P w K mg base CX0 (k + 1) f fd ["_law_script"] (DL.spI K s) := by
  obtain ⟨⟩ := V
  obtain ⟨rfl, rfl⟩ := EV
  exact d_ok0C F hcd sc_law (fun A outer sh H E hr => (dss_cons (ds_set (i := 1) sc_law.nd rfl (Or.inl rfl) (de_callD D__law_box (hr.mono hk__law_box) rfl S__law_box_1 passN (da_cons (de_var 0) da_nil))) (dss_cons (ds_for PassesOwn.never rfl (di_range1 rfl T.b_range de_int) (dg_nm (i := 2) sc_law.nd rfl) (dss_cons (ds_setLc (E' := E0) (i := 3) rfl sc_law.nd rfl rfl (sw_true rfl rfl rfl (by decide +kernel)) (di_seq (de_callD D__law_names (hr.mono hk__law_names) rfl S__law_names_2 passN (da_cons (de_var 1) (da_cons de_int da_nil)))) (blkOk_by (own := [("_law_word", 4)]) (N := N_law) (sc := defScope st_law) (by decide +kernel)) (by decide +kernel) (fun _ _ _ _ _ => (dg_nm (i := 4) sc_law.nd rfl)) (fun _ _ _ _ _ => dts_nil) (fun _ _ _ _ _ => (de_op do_add de_str (de_slice ds_slice (de_var 4) dp_none (dp_some de_int))))) (dss_cons (ds_set (i := 5) sc_law.nd rfl (Or.inl rfl) (de_callD D__law_free_test (hr.mono hk__law_free_test) rfl S__law_free_test_3 passN (da_cons (de_var 1) (da_cons (de_var 3) (da_cons (de_op do_add de_int (de_callD D__law_pull (hr.mono hk__law_pull) rfl S__law_pull_2 passN (da_cons (de_var 1) (da_cons de_int da_nil)))) da_nil))))) (dss_cons (ds_set (i := 6) sc_law.nd rfl (Or.inr rfl) (de_join de_str (de_callD D__law_test_words (hr.mono hk__law_test_words) rfl S__law_test_words_1 passN (da_cons (de_var 5) da_nil)))) (dss_cons (ds_if (dt_not (dt_val (de_callD D__law_same (hr.mono hk__law_same) rfl S__law_same_2 passN (da_cons (de_lst (da_cons (de_callD D_test_text (hr.mono hk_test_text) rfl S_test_text_1 passN (da_cons (de_var 5) da_nil)) (da_cons (de_callD D_read_test (hr.mono hk_read_test) rfl S_read_test_1 pass0 (da_cons (de_var 6) da_nil)) (da_cons (de_callN0 D_read_test (hr.mono hk_read_test) rfl S_read_test_0_text pass0 (dk_cons (de_callD D_test_text (hr.mono hk_test_text) rfl S_test_text_1 passN (da_cons (de_var 5) da_nil)) dk_nil)) da_nil)))) (da_cons (de_lst (da_cons (de_var 6) (da_cons (de_var 5) (da_cons (de_var 5) da_nil)))) da_nil))))) (dss_one (ds_ret de_bl)) dss_nil) (dss_cons (ds_set (i := 7) sc_law.nd rfl (Or.inl rfl) (de_split (de_var 6) de_str)) (dss_cons (ds_par (i := 8) (j := 9) rfl sc_law.nd rfl rfl (by decide) rfl rfl (da_cons (de_callD D__law_pull (hr.mono hk__law_pull) rfl S__law_pull_2 passN (da_cons (de_var 1) (da_cons (de_callB dc_len rfl T.b_len bb_len (da_cons (de_var 7) da_nil)) da_nil))) (da_cons (de_callD D__law_pull (hr.mono hk__law_pull) rfl S__law_pull_2 passN (da_cons (de_var 1) (da_cons de_int da_nil))) da_nil)) (ps_par rfl sc_law.nd rfl rfl (by decide) rfl rfl (da_cons (de_callD D__law_pull (hr.mono hk__law_pull) rfl S__law_pull_2 passN (da_cons (de_var 1) (da_cons (de_callB dc_len rfl T.b_len bb_len (da_cons (de_var 7) da_nil)) da_nil))) (da_cons (de_callD D__law_pull (hr.mono hk__law_pull) rfl S__law_pull_2 passN (da_cons (de_var 1) (da_cons de_int da_nil))) da_nil)) rfl)) (dss_cons (ds_set (i := 10) sc_law.nd rfl (Or.inl rfl) (de_ix dx_seq (de_lst (da_cons (de_op do_add (de_slice ds_slice (de_var 7) dp_none (dp_some (de_var 8))) (de_slice ds_slice (de_var 7) (dp_some (de_op do_add (de_var 8) de_int)) dp_none)) (da_cons (de_op do_add (de_op do_add (de_slice ds_slice (de_var 7) dp_none (dp_some (de_var 8))) (de_lst (da_cons de_str da_nil))) (de_slice ds_slice (de_var 7) (dp_some (de_var 8)) dp_none)) (da_cons (de_op do_add (de_op do_add (de_slice ds_slice (de_var 7) dp_none (dp_some (de_var 8))) (de_lst (da_cons de_str da_nil))) (de_slice ds_slice (de_var 7) (dp_some (de_op do_add (de_var 8) de_int)) dp_none)) (da_cons (de_op do_add (de_op do_add (de_slice ds_slice (de_var 7) dp_none (dp_some (de_var 8))) (de_lst (da_cons de_str da_nil))) (de_slice ds_slice (de_var 7) (dp_some (de_var 8)) dp_none)) (da_cons (de_op do_add (de_var 7) (de_lst (da_cons de_str da_nil))) da_nil)))))) (de_var 9) (fun _ _ => rfl))) (dss_cons (ds_set (i := 11) sc_law.nd rfl (Or.inr rfl) (de_join de_str (de_var 10))) (dss_cons (ds_if (PW.pt (dw_and (dt_cmp (do_ne hr.units) (by exact de_gotD GD TB rfl rfl (hr.mono hk_got) (lamS_by (by show lamSB (defScope st_law) _ = true; decide +kernel)) rfl (fun _ _ _ _ _ => rfl) (fun A outer s H E f d hr => (de_callD D_read_test (hr.mono hkl_read_test) rfl S_read_test_1 (passX (by exact takesL)) (da_cons (de_var 11) da_nil)))) (de_tup (da_cons de_str (da_cons (de_var 11) da_nil))) (nomark _)) (dw_and1 (dt_cmp do_gt (de_var 9) de_int (nomark _))))) (dss_one (ds_ret de_bl)) dss_nil) (dss_cons (ds_set (i := 12) sc_law.nd rfl (Or.inl rfl) (by exact de_gotD GD TB rfl rfl (hr.mono hk_got) (lamS_by (by show lamSB (defScope st_law) _ = true; decide +kernel)) rfl (fun _ _ _ _ _ => rfl) (fun A outer s H E f d hr => (de_callD D_read_test (hr.mono hkl_read_test) rfl S_read_test_1 (passX (by exact takesL)) (da_cons (de_var 11) da_nil))))) (dss_cons (ds_if (PW.pt (dw_and (dt_cmp (do_eq hr.units) (de_ix dx_seq (de_var 12) de_int (fun _ _ => rfl)) de_str (nomark _)) (dw_and1 (dt_cmp (do_ne hr.units) (de_callD D_test_text (hr.mono hk_test_text) rfl S_test_text_1 passN (da_cons (de_ix dx_seq (de_var 12) de_int (fun _ _ => rfl)) da_nil)) (de_var 11) (nomark _))))) (dss_one (ds_ret de_bl)) dss_nil) (dss_cons (ds_set (i := 13) sc_law.nd rfl (Or.inr rfl) (de_callD D__law_odd (hr.mono hk__law_odd) rfl S__law_odd_2 passN (da_cons (de_var 1) (da_cons (de_lst (da_consT do_add (de_var 6) (dta_cons (CwR.PET.of (de_op do_add (de_var 6) de_str)) (dta_cons (CwR.PET.of (de_op do_add (de_op do_add (de_var 6) de_str) (de_var 6))) (dta_cons (CwR.PET.of (de_op do_add (de_var 6) de_str)) (dta_cons (dt_repl (de_var 6)) (dta_cons (CwR.PET.of (de_lst (da_cons (de_var 6) da_nil))) dta_nil))))))) da_nil)))) (dss_cons (ds_if (dt_not (dt_val (de_callD D__law_same (hr.mono hk__law_same) rfl S__law_same_2 passN (da_cons (by exact de_gotD GD TB rfl rfl (hr.mono hk_got) (lamS_by (by show lamSB (defScope st_law) _ = true; decide +kernel)) rfl (fun _ _ _ _ _ => rfl) (fun A outer s H E f d hr => (de_callD D_read_test (hr.mono hkl_read_test) rfl S_read_test_1 (passX (by exact takesL)) (da_cons (de_var 13) da_nil)))) (da_cons (de_tup (da_cons de_str (da_cons (de_var 13) da_nil))) da_nil))))) (dss_one (ds_ret de_bl)) dss_nil) (dss_one (ds_if (dt_not (dt_val (de_callD D__law_same (hr.mono hk__law_same) rfl S__law_same_2 passN (da_cons (by exact de_gotD GD TB rfl rfl (hr.mono hk_got) (lamS_by (by show lamSB (defScope st_law) _ = true; decide +kernel)) rfl (fun _ _ _ _ _ => rfl) (fun A outer s H E f d hr => (de_callD D_read_test (hr.mono hkl_read_test) rfl S_read_test_1 (passX (by exact takesL)) (da_cons (de_op do_add de_str (de_var 6)) da_nil)))) (da_cons (de_if (dt_cmp do_lt (de_callD D__law_deep (hr.mono hk__law_deep) rfl S__law_deep_1 passN (da_cons (de_var 5) da_nil)) de_int (nomark _)) (de_tup (da_cons de_str (da_cons (de_tup (da_cons de_str (da_cons (de_var 5) da_nil))) da_nil))) (de_tup (da_cons de_str (da_cons (de_op do_add de_str (de_var 6)) da_nil)))) da_nil))))) (dss_one (ds_ret de_bl)) dss_nil)))))))))))))))) (dss_one (ds_ret de_bl))))) len hs
abbrev hP : Program := PySem.Challenge.pw_bothlots_k03_texts_of_tests
abbrev hF : Str := hP.main.file
def i_LotsError : DX.IDef := ⟨"LotsError", "LotsError.__init__", defArgs (DX.cInit (top 1)), defBody (DX.cInit (top 1)), defScope (DX.cInit (top 1))⟩
def i_InvalidTest : DX.IDef := ⟨"InvalidTest", "InvalidTest.__init__", defArgs (DX.cInit (top 3)), defBody (DX.cInit (top 3)), defScope (DX.cInit (top 3))⟩
def hins : List DX.IDef := [i_LotsError, i_InvalidTest]
abbrev st__law_got : Stmt := top 25
def dd_is_name : He.DefD := ⟨("is_name", none), "is_name", "is_name", defArgs st_is_name, defBody st_is_name, defScope st_is_name, [], []⟩
def dd_is_column_name : He.DefD := ⟨("is_column_name", none), "is_column_name", "is_column_name", defArgs st_is_column_name, defBody st_is_column_name, defScope st_is_column_name, [], []⟩
def dd_is_test : He.DefD := ⟨("is_test", none), "is_test", "is_test", defArgs st_is_test, defBody st_is_test, defScope st_is_test, [], [("deep", (.int 6))]⟩
def dd_test_text : He.DefD := ⟨("test_text", none), "test_text", "test_text", defArgs st_test_text, defBody st_test_text, defScope st_test_text, [], []⟩
def dd_test_at : He.DefD := ⟨("test_at", none), "test_at", "test_at", defArgs st_test_at, defBody st_test_at, defScope st_test_at, [], []⟩
def dd_test_of : He.DefD := ⟨("test_of", none), "test_of", "test_of", defArgs st_test_of, defBody st_test_of, defScope st_test_of, [], []⟩
def dd_read_test : He.DefD := ⟨("read_test", none), "read_test", "read_test", defArgs st_read_test, defBody st_read_test, defScope st_read_test, [], []⟩
def dd__law_box : He.DefD := ⟨("_law_box", none), "_law_box", "_law_box", defArgs st__law_box, defBody st__law_box, defScope st__law_box, [], []⟩
def dd__law_pull : He.DefD := ⟨("_law_pull", none), "_law_pull", "_law_pull", defArgs st__law_pull, defBody st__law_pull, defScope st__law_pull, [], []⟩
def dd__law_of : He.DefD := ⟨("_law_of", none), "_law_of", "_law_of", defArgs st__law_of, defBody st__law_of, defScope st__law_of, [], []⟩
def dd__law_names : He.DefD := ⟨("_law_names", none), "_law_names", "_law_names", defArgs st__law_names, defBody st__law_names, defScope st__law_names, [], []⟩
def dd__law_same : He.DefD := ⟨("_law_same", none), "_law_same", "_law_same", defArgs st__law_same, defBody st__law_same, defScope st__law_same, [], []⟩
def dd__law_field : He.DefD := ⟨("_law_field", none), "_law_field", "_law_field", defArgs st__law_field, defBody st__law_field, defScope st__law_field, [], []⟩
def dd__law_odd : He.DefD := ⟨("_law_odd", none), "_law_odd", "_law_odd", defArgs st__law_odd, defBody st__law_odd, defScope st__law_odd, [], []⟩
def dd__law_free_test : He.DefD := ⟨("_law_free_test", none), "_law_free_test", "_law_free_test", defArgs st__law_free_test, defBody st__law_free_test, defScope st__law_free_test, [], []⟩
def dd__law_test_words : He.DefD := ⟨("_law_test_words", none), "_law_test_words", "_law_test_words", defArgs st__law_test_words, defBody st__law_test_words, defScope st__law_test_words, [], []⟩
def dd__law_deep : He.DefD := ⟨("_law_deep", none), "_law_deep", "_law_deep", defArgs st__law_deep, defBody st__law_deep, defScope st__law_deep, [], []⟩
def dd_law : He.DefD := ⟨("law", none), "law", "law", defArgs st_law, defBody st_law, defScope st_law, [], []⟩
def dd__law_got : He.DefD := ⟨("_law_got", none), "_law_got", "_law_got", defArgs st__law_got, defBody st__law_got, defScope st__law_got, [], []⟩
def hfn : List He.DefD := [dd_is_name, dd_is_column_name, dd_is_test, dd_test_text, dd_test_at, dd_test_of, dd_read_test, dd__law_box, dd__law_pull, dd__law_of, dd__law_names, dd__law_same, dd__law_field, dd__law_odd, dd__law_free_test, dd__law_test_words, dd__law_deep, dd_law, dd__law_got]
def hfa : List He.Fa := [.glo "is_name", .glo "is_column_name", .glo "is_test", .glo "test_text", .glo "test_at", .glo "test_of", .glo "read_test", .glo "_law_box", .glo "_law_pull", .glo "_law_of", .glo "_law_names", .glo "_law_same", .glo "_law_field", .glo "_law_odd", .glo "_law_free_test", .glo "_law_test_words", .glo "_law_deep", .glo "law", .free "abs", .free "all", .free "bool", .free "int", .free "isinstance", .free "len", .free "list", .free "max", .free "min", .free "range", .free "str", .free "tuple", .free "zip", .int "DEEPEST" 6, .str "LETTERS" "abcdefghijklmnopqrstuvwxyz", .int "LONGEST_NAME" 6, .glo "PARTS", .glo "LotsError", .glo "Missing", .glo "NothingLeft", .glo "InvalidTest", .glo "_law_got", .free "super"]
def hex (K : PySem.W.Frag) : Bool := He.valsB K (He.ga K "PARTS") kv_PARTS && (DX.clsB K "ValueError.__new__" "LotsError" DX.fldNames && (DX.iB K hF i_LotsError && (DX.iB K hF i_InvalidTest && (DX.overB K "InvalidTest" "LotsError" DX.fldNames && (DX.dec (PySem.W.exmAny K (.ref (He.ga K "InvalidTest")) [.ref (He.ga K "LotsError"), .ref (He.ga K "Missing"), .ref (He.ga K "NothingLeft")]) (some true))))))
def hts : List He.Tab := [(fun K => He.ga K "PARTS", kv_PARTS.map (·.1))]
abbrev hk : PySem.W.Hook := DX.hookI 4 hfa hfn hts [("law", none)] hex hins
section
variable {w : World} {K : PySem.W.Frag} {h : Heap} {mg : Str → Option Value} (X : K.In h) (G : h.Ns mainGlobals mg) (c : DX.SaysI hfa hfn hts [("law", none)] hex hins w h K)
include X G c
theorem txt : Txt w K mg := ⟨He.free_ok X G (c.x.t.d.fact 18 (f := .free "abs") rfl), He.free_ok X G (c.x.t.d.fact 19 (f := .free "all") rfl), He.free_ok X G (c.x.t.d.fact 20 (f := .free "bool") rfl), He.free_ok X G (c.x.t.d.fact 21 (f := .free "int") rfl), He.free_ok X G (c.x.t.d.fact 22 (f := .free "isinstance") rfl), He.free_ok X G (c.x.t.d.fact 23 (f := .free "len") rfl), He.free_ok X G (c.x.t.d.fact 24 (f := .free "list") rfl), He.free_ok X G (c.x.t.d.fact 25 (f := .free "max") rfl), He.free_ok X G (c.x.t.d.fact 26 (f := .free "min") rfl), He.free_ok X G (c.x.t.d.fact 27 (f := .free "range") rfl), He.free_ok X G (c.x.t.d.fact 28 (f := .free "str") rfl), He.free_ok X G (c.x.t.d.fact 29 (f := .free "tuple") rfl), He.free_ok X G (c.x.t.d.fact 30 (f := .free "zip") rfl), He.int_ok X G (c.x.t.d.fact 31 (f := .int "DEEPEST" 6) rfl), He.str_ok X G (c.x.t.d.fact 32 (f := .str "LETTERS" "abcdefghijklmnopqrstuvwxyz") rfl), He.int_ok X G (c.x.t.d.fact 33 (f := .int "LONGEST_NAME" 6) rfl), ⟨He.glo_ok X G (c.x.t.d.fact 34 (f := .glo "PARTS") rfl), tab_ok (tab_eq c.x.t 0 (t := (fun K => He.ga K "PARTS", kv_PARTS.map (·.1))) rfl) (He.ba (c.x.more)).1 (by decide)⟩⟩
theorem g_is_name : mg "is_name" = some (.ref (He.fAd K ("is_name", none))) := He.glo_ok X G (c.x.t.d.fact 0 (f := .glo "is_name") rfl)
theorem g_is_column_name : mg "is_column_name" = some (.ref (He.fAd K ("is_column_name", none))) := He.glo_ok X G (c.x.t.d.fact 1 (f := .glo "is_column_name") rfl)
theorem g_is_test : mg "is_test" = some (.ref (He.fAd K ("is_test", none))) := He.glo_ok X G (c.x.t.d.fact 2 (f := .glo "is_test") rfl)
theorem g_test_text : mg "test_text" = some (.ref (He.fAd K ("test_text", none))) := He.glo_ok X G (c.x.t.d.fact 3 (f := .glo "test_text") rfl)
theorem g_test_at : mg "test_at" = some (.ref (He.fAd K ("test_at", none))) := He.glo_ok X G (c.x.t.d.fact 4 (f := .glo "test_at") rfl)
theorem g_test_of : mg "test_of" = some (.ref (He.fAd K ("test_of", none))) := He.glo_ok X G (c.x.t.d.fact 5 (f := .glo "test_of") rfl)
theorem g_read_test : mg "read_test" = some (.ref (He.fAd K ("read_test", none))) := He.glo_ok X G (c.x.t.d.fact 6 (f := .glo "read_test") rfl)
theorem g__law_box : mg "_law_box" = some (.ref (He.fAd K ("_law_box", none))) := He.glo_ok X G (c.x.t.d.fact 7 (f := .glo "_law_box") rfl)
theorem g__law_pull : mg "_law_pull" = some (.ref (He.fAd K ("_law_pull", none))) := He.glo_ok X G (c.x.t.d.fact 8 (f := .glo "_law_pull") rfl)
theorem g__law_of : mg "_law_of" = some (.ref (He.fAd K ("_law_of", none))) := He.glo_ok X G (c.x.t.d.fact 9 (f := .glo "_law_of") rfl)
theorem g__law_names : mg "_law_names" = some (.ref (He.fAd K ("_law_names", none))) := He.glo_ok X G (c.x.t.d.fact 10 (f := .glo "_law_names") rfl)
theorem g__law_same : mg "_law_same" = some (.ref (He.fAd K ("_law_same", none))) := He.glo_ok X G (c.x.t.d.fact 11 (f := .glo "_law_same") rfl)
theorem g__law_field : mg "_law_field" = some (.ref (He.fAd K ("_law_field", none))) := He.glo_ok X G (c.x.t.d.fact 12 (f := .glo "_law_field") rfl)
theorem g__law_odd : mg "_law_odd" = some (.ref (He.fAd K ("_law_odd", none))) := He.glo_ok X G (c.x.t.d.fact 13 (f := .glo "_law_odd") rfl)
theorem g__law_free_test : mg "_law_free_test" = some (.ref (He.fAd K ("_law_free_test", none))) := He.glo_ok X G (c.x.t.d.fact 14 (f := .glo "_law_free_test") rfl)
theorem g__law_test_words : mg "_law_test_words" = some (.ref (He.fAd K ("_law_test_words", none))) := He.glo_ok X G (c.x.t.d.fact 15 (f := .glo "_law_test_words") rfl)
theorem g__law_deep : mg "_law_deep" = some (.ref (He.fAd K ("_law_deep", none))) := He.glo_ok X G (c.x.t.d.fact 16 (f := .glo "_law_deep") rfl)
theorem g_law : mg "law" = some (.ref (He.fAd K ("law", none))) := He.glo_ok X G (c.x.t.d.fact 17 (f := .glo "law") rfl)
theorem g__law_got : mg "_law_got" = some (.ref (He.fAd K ("_law_got", none))) := He.glo_ok X G (c.x.t.d.fact 39 (f := .glo "_law_got") rfl)
theorem gc_LotsError : mg "LotsError" = some (.ref (He.ga K "LotsError")) := He.glo_ok X G (c.x.t.d.fact 35 (f := .glo "LotsError") rfl)
theorem gc_Missing : mg "Missing" = some (.ref (He.ga K "Missing")) := He.glo_ok X G (c.x.t.d.fact 36 (f := .glo "Missing") rfl)
theorem gc_NothingLeft : mg "NothingLeft" = some (.ref (He.ga K "NothingLeft")) := He.glo_ok X G (c.x.t.d.fact 37 (f := .glo "NothingLeft") rfl)
theorem gc_InvalidTest : mg "InvalidTest" = some (.ref (He.ga K "InvalidTest")) := He.glo_ok X G (c.x.t.d.fact 38 (f := .glo "InvalidTest") rfl)
theorem noSuper : mg "super" = none := He.free_ok X G (c.x.t.d.fact 40 (f := .free "super") rfl)
theorem E_LotsError (base : Heap) : ∃ fd, FnOk hP w K mg base CX0 1 (He.fAd K (DX.iAt i_LotsError)) fd ["self", "code"] (DX.spI K (fun C => DX.ToBlt K C (He.ga K i_LotsError.cls) "ValueError" "ValueError.__new__" "ValueError.__init__" DX.veB ∧ PySem.W.findIn K (.ref C) "code" = some none) 1 fun ws => (ws.map fun c => (("code" : Str), c))) ∧ Binds K fd ["self", "code"] [] :=
  DX.base1 (c.at 0 rfl) (He.ba (He.ba (He.ba (c.x.more)).2).2).1 (DX.clsB_ok (He.ba (He.ba (c.x.more)).2).1) ⟨_, rfl, rfl⟩ (by decide +kernel) (noSuper X G c) rfl ⟨rfl, rfl, rfl, by decide, rfl, by decide +kernel, by decide +kernel, by decide +kernel, by decide +kernel⟩ rfl (fun _ => rfl) (fun _ => rfl) (fun _ => rfl) rfl rfl (fun cc kV doc pm an cdv ct us hl => match us, hl with | [_, _], _ => rfl)
theorem E_InvalidTest (base : Heap) : DX.ErD hP w K mg base 2 "InvalidTest" 1 (DX.fs1D "given" "InvalidTest") := by
  obtain ⟨fd, F, B⟩ := E_LotsError X G c base
  exact DX.er1 (d := i_InvalidTest) (d0 := i_LotsError) F B (DX.clsB_ok (He.ba (He.ba (c.x.more)).2).1) (gc_InvalidTest X G c) (DX.overB_ok (He.ba (He.ba (He.ba (He.ba (He.ba (c.x.more)).2).2).2).2).1) (by decide) (by decide) (c.at 1 rfl) (He.ba (He.ba (He.ba (He.ba (c.x.more)).2).2).2).1 ⟨_, rfl, rfl⟩ (by decide +kernel) (noSuper X G c) rfl ⟨rfl, rfl, rfl, by decide, rfl, by decide +kernel, by decide +kernel, by decide +kernel, by decide +kernel⟩ rfl (fun _ => rfl) (fun _ => rfl) (fun _ => rfl) rfl rfl (fun cc kV doc pm an cdv ct us hl => match us, hl with | [_, _], _ => rfl)
omit X G in
theorem X_InvalidTest : DX.okE K (He.ga K "InvalidTest") := ⟨(DX.overB_ok (He.ba (He.ba (He.ba (He.ba (He.ba (c.x.more)).2).2).2).2).1).cl.xf, (DX.overB_ok (He.ba (He.ba (He.ba (He.ba (He.ba (c.x.more)).2).2).2).2).1).cl.no, of_decide_eq_true (He.ba (He.ba (He.ba (He.ba (He.ba (c.x.more)).2).2).2).2).2⟩
end
section
variable {w : World} {K : PySem.W.Frag} {h : Heap} (c : DX.SaysI hfa hfn hts [("law", none)] hex hins w h K)
include c
theorem F_is_name : ∃ fd, FnP K "is_name" st_is_name (He.fAd K ("is_name", none)) fd := c.x.t.d.def_ 0 (d := dd_is_name) rfl
theorem F_is_column_name : ∃ fd, FnP K "is_column_name" st_is_column_name (He.fAd K ("is_column_name", none)) fd := c.x.t.d.def_ 1 (d := dd_is_column_name) rfl
theorem F_is_test : ∃ fd, FnP K "is_test" st_is_test (He.fAd K ("is_test", none)) fd [("deep", (.int 6))] := c.x.t.d.def_ 2 (d := dd_is_test) rfl
theorem F_test_text : ∃ fd, FnP K "test_text" st_test_text (He.fAd K ("test_text", none)) fd := c.x.t.d.def_ 3 (d := dd_test_text) rfl
theorem F_test_at : ∃ fd, FnP K "test_at" st_test_at (He.fAd K ("test_at", none)) fd := c.x.t.d.def_ 4 (d := dd_test_at) rfl
theorem F_test_of : ∃ fd, FnP K "test_of" st_test_of (He.fAd K ("test_of", none)) fd := c.x.t.d.def_ 5 (d := dd_test_of) rfl
theorem F_read_test : ∃ fd, FnP K "read_test" st_read_test (He.fAd K ("read_test", none)) fd := c.x.t.d.def_ 6 (d := dd_read_test) rfl
theorem F__law_box : ∃ fd, FnP K "_law_box" st__law_box (He.fAd K ("_law_box", none)) fd := c.x.t.d.def_ 7 (d := dd__law_box) rfl
theorem F__law_pull : ∃ fd, FnP K "_law_pull" st__law_pull (He.fAd K ("_law_pull", none)) fd := c.x.t.d.def_ 8 (d := dd__law_pull) rfl
theorem F__law_of : ∃ fd, FnP K "_law_of" st__law_of (He.fAd K ("_law_of", none)) fd := c.x.t.d.def_ 9 (d := dd__law_of) rfl
theorem F__law_names : ∃ fd, FnP K "_law_names" st__law_names (He.fAd K ("_law_names", none)) fd := c.x.t.d.def_ 10 (d := dd__law_names) rfl
theorem F__law_same : ∃ fd, FnP K "_law_same" st__law_same (He.fAd K ("_law_same", none)) fd := c.x.t.d.def_ 11 (d := dd__law_same) rfl
theorem F__law_field : ∃ fd, FnP K "_law_field" st__law_field (He.fAd K ("_law_field", none)) fd := c.x.t.d.def_ 12 (d := dd__law_field) rfl
theorem F__law_odd : ∃ fd, FnP K "_law_odd" st__law_odd (He.fAd K ("_law_odd", none)) fd := c.x.t.d.def_ 13 (d := dd__law_odd) rfl
theorem F__law_free_test : ∃ fd, FnP K "_law_free_test" st__law_free_test (He.fAd K ("_law_free_test", none)) fd := c.x.t.d.def_ 14 (d := dd__law_free_test) rfl
theorem F__law_test_words : ∃ fd, FnP K "_law_test_words" st__law_test_words (He.fAd K ("_law_test_words", none)) fd := c.x.t.d.def_ 15 (d := dd__law_test_words) rfl
theorem F__law_deep : ∃ fd, FnP K "_law_deep" st__law_deep (He.fAd K ("_law_deep", none)) fd := c.x.t.d.def_ 16 (d := dd__law_deep) rfl
theorem F_law : ∃ fd, FnP K "law" st_law (He.fAd K ("law", none)) fd := c.x.t.d.def_ 17 (d := dd_law) rfl
theorem F__law_got : ∃ fd, FnP K "_law_got" st__law_got (He.fAd K ("_law_got", none)) fd := c.x.t.d.def_ 18 (d := dd__law_got) rfl
end
theorem B_is_name_1 {K : PySem.W.Frag} {f : Addr} {fd : FuncData} (F : FnP K "is_name" st_is_name f fd) : Binds K fd ["value"] [] := F.bindsN fun _ _ _ _ _ _ us hl => match us, hl with | [_], _ => rfl
theorem B_is_column_name_1 {K : PySem.W.Frag} {f : Addr} {fd : FuncData} (F : FnP K "is_column_name" st_is_column_name f fd) : Binds K fd ["value"] [] := F.bindsN fun _ _ _ _ _ _ us hl => match us, hl with | [_], _ => rfl
theorem B_is_test_1_deep {K : PySem.W.Frag} {f : Addr} {fd : FuncData} (F : FnP K "is_test" st_is_test f fd [("deep", (.int 6))]) : Shape K fd ["value", "deep"] 1 ["deep"] (fun us ws => pick3 [(0, 0), (2, 0)] us [] ws) := shape_pick3 [(0, 0), (2, 0)] [] [] F (List.cons_ne_nil _ _) (by simp) (fun F => dvs_nil.mpr rfl) fun _ _ _ _ _ _ us mv ws l1 l2 l3 => match us, mv, ws, l1, l2, l3 with | [_], [], [_], _, _, _ => rfl
theorem B_test_text_1 {K : PySem.W.Frag} {f : Addr} {fd : FuncData} (F : FnP K "test_text" st_test_text f fd) : Binds K fd ["test"] [] := F.bindsN fun _ _ _ _ _ _ us hl => match us, hl with | [_], _ => rfl
theorem B_is_test_1 {K : PySem.W.Frag} {f : Addr} {fd : FuncData} (F : FnP K "is_test" st_is_test f fd [("deep", (.int 6))]) : Tail K fd ["value", "deep"] [(.int 6)] := tail_of F 1 (List.cons_ne_nil _ _) rfl _ (fun F => dvs_cons.mpr ⟨_, _, rfl, dv_int.mpr rfl, dvs_nil.mpr rfl⟩) fun _ _ _ _ _ _ us ks l1 l2 => match us, ks, l1, l2 with | [_], [_], _, _ => ⟨_, _, _, _, _, _, rfl, rfl, rfl⟩
theorem B_test_at_3 {K : PySem.W.Frag} {f : Addr} {fd : FuncData} (F : FnP K "test_at" st_test_at f fd) : Binds K fd ["words", "at", "deep"] [] := F.bindsN fun _ _ _ _ _ _ us hl => match us, hl with | [_, _, _], _ => rfl
theorem B_test_of_1 {K : PySem.W.Frag} {f : Addr} {fd : FuncData} (F : FnP K "test_of" st_test_of f fd) : Binds K fd ["words"] [] := F.bindsN fun _ _ _ _ _ _ us hl => match us, hl with | [_], _ => rfl
theorem B__law_pull_2 {K : PySem.W.Frag} {f : Addr} {fd : FuncData} (F : FnP K "_law_pull" st__law_pull f fd) : Binds K fd ["_law_box_here", "_law_many"] [] := F.bindsN fun _ _ _ _ _ _ us hl => match us, hl with | [_, _], _ => rfl
theorem B__law_of_2 {K : PySem.W.Frag} {f : Addr} {fd : FuncData} (F : FnP K "_law_of" st__law_of f fd) : Binds K fd ["_law_box_here", "_law_some"] [] := F.bindsN fun _ _ _ _ _ _ us hl => match us, hl with | [_, _], _ => rfl
theorem B__law_same_2 {K : PySem.W.Frag} {f : Addr} {fd : FuncData} (F : FnP K "_law_same" st__law_same f fd) : Binds K fd ["_law_found", "_law_due"] [] := F.bindsN fun _ _ _ _ _ _ us hl => match us, hl with | [_, _], _ => rfl
theorem B__law_free_test_3 {K : PySem.W.Frag} {f : Addr} {fd : FuncData} (F : FnP K "_law_free_test" st__law_free_test f fd) : Binds K fd ["_law_box_here", "_law_words", "_law_deep_here"] [] := F.bindsN fun _ _ _ _ _ _ us hl => match us, hl with | [_, _, _], _ => rfl
theorem B__law_test_words_1 {K : PySem.W.Frag} {f : Addr} {fd : FuncData} (F : FnP K "_law_test_words" st__law_test_words f fd) : Binds K fd ["_law_test"] [] := F.bindsN fun _ _ _ _ _ _ us hl => match us, hl with | [_], _ => rfl
theorem B__law_deep_1 {K : PySem.W.Frag} {f : Addr} {fd : FuncData} (F : FnP K "_law_deep" st__law_deep f fd) : Binds K fd ["_law_test"] [] := F.bindsN fun _ _ _ _ _ _ us hl => match us, hl with | [_], _ => rfl
theorem B__law_box_1 {K : PySem.W.Frag} {f : Addr} {fd : FuncData} (F : FnP K "_law_box" st__law_box f fd) : Binds K fd ["_law_script"] [] := F.bindsN fun _ _ _ _ _ _ us hl => match us, hl with | [_], _ => rfl
theorem B__law_names_2 {K : PySem.W.Frag} {f : Addr} {fd : FuncData} (F : FnP K "_law_names" st__law_names f fd) : Binds K fd ["_law_box_here", "_law_many"] [] := F.bindsN fun _ _ _ _ _ _ us hl => match us, hl with | [_, _], _ => rfl
theorem B_read_test_0_text {K : PySem.W.Frag} {f : Addr} {fd : FuncData} (F : FnP K "read_test" st_read_test f fd) : Shape K fd ["text"] 0 ["text"] (pick [(false, 0)]) := shape_pick _ F fun _ _ _ _ _ _ us ws l1 l2 => match us, ws, l1, l2 with | [], [_], _, _ => rfl
theorem B_read_test_1 {K : PySem.W.Frag} {f : Addr} {fd : FuncData} (F : FnP K "read_test" st_read_test f fd) : Binds K fd ["text"] [] := F.bindsN fun _ _ _ _ _ _ us hl => match us, hl with | [_], _ => rfl
theorem B__law_odd_2 {K : PySem.W.Frag} {f : Addr} {fd : FuncData} (F : FnP K "_law_odd" st__law_odd f fd) : Binds K fd ["_law_box_here", "_law_more"] [] := F.bindsN fun _ _ _ _ _ _ us hl => match us, hl with | [_, _], _ => rfl
theorem B__law_field_1 {K : PySem.W.Frag} {f : Addr} {fd : FuncData} (F : FnP K "_law_field" st__law_field f fd) : Binds K fd ["_law_e"] [] := F.bindsN fun _ _ _ _ _ _ us hl => match us, hl with | [_], _ => rfl
theorem B__law_got_1 {K : PySem.W.Frag} {f : Addr} {fd : FuncData} (F : FnP K "_law_got" st__law_got f fd) : Binds K fd ["_law_ask"] [] := F.bindsN fun _ _ _ _ _ _ us hl => match us, hl with | [_], _ => rfl
end K03
set_option maxHeartbeats 1000000
namespace K03
open PySem L2 DL DX TL CM
/-! joined texts -/
theorem js_app (y : Str) : ∀ (us vs : List Str), us ≠ [] → vs ≠ [] → tl (Str.join y (us ++ vs)) = tl (Str.join y us) ++ (tl y ++ tl (Str.join y vs))
  | [], _, h, _ => absurd rfl h
  | [x], [], _, h => absurd rfl h
  | [x], v :: vs, _, _ => by
    show tl (x ++ y ++ Str.join y (v :: vs)) = tl x ++ _
    rw [tl_append, tl_append, List.append_assoc]
  | x :: u :: us, vs, _, hv => by
    show tl (x ++ y ++ Str.join y ((u :: us) ++ vs)) = tl (x ++ y ++ Str.join y (u :: us)) ++ _
    rw [tl_append, tl_append, js_app y (u :: us) vs (by simp) hv, tl_append, tl_append]
    simp only [List.append_assoc]
theorem join_1 (y x : Str) (us : List Str) (h : us ≠ []) : Txt.join y [x, Txt.join y us] = Txt.join y (x :: us) := by
  rw [join_eq, join_eq, join_eq]
  match us, h with
  | u :: us, _ => rfl
theorem join_2 (y x : Str) (us vs : List Str) (h : us ≠ []) (g : vs ≠ []) : Txt.join y [x, Txt.join y us, Txt.join y vs] = Txt.join y (x :: (us ++ vs)) := by
  rw [join_eq, join_eq, join_eq, join_eq]
  refine ext_tl ?_
  have e : us ++ vs ≠ [] := by simp [h]
  rw [show x :: (us ++ vs) = [x] ++ (us ++ vs) from rfl, js_app y [x] _ (by simp) e, js_app y us vs h g]
  show tl (x ++ y ++ (Str.join y us ++ y ++ Str.join y vs)) = tl x ++ _
  simp only [tl_append, List.append_assoc]
theorem join_len (y : Str) : ∀ ws : List Str, (Txt.join y ws).length ≤ (ws.map (·.length)).sum + ws.length * y.length
  | [] => by rw [join_eq]; exact Nat.zero_le _
  | [x] => by
    rw [join_eq]
    show x.length ≤ (x.length + 0) + _
    omega
  | x :: z :: r => by
    have ih := join_len y (z :: r)
    rw [join_eq] at ih ⊢
    show (x ++ y ++ Str.join y (z :: r)).length ≤ _
    rw [len_tl, tl_append, tl_append, List.length_append, List.length_append, ← len_tl, ← len_tl, ← len_tl]
    simp only [List.map_cons, List.sum_cons, List.length_cons, Nat.add_mul] at ih ⊢
    omega
theorem sum_le {ws : List Str} (h : ∀ w ∈ ws, w.length ≤ 1000) : (ws.map (·.length)).sum ≤ 1000 * ws.length := by
  induction ws with
  | nil => exact Nat.le_refl _
  | cons w ws ih =>
    have h1 := h w List.mem_cons_self
    have h2 := ih fun x hx => h x (List.mem_cons_of_mem _ hx)
    simp only [List.map_cons, List.sum_cons, List.length_cons]
    omega
theorem sp1 : (" " : Str).length = 1 := by decide +kernel
theorem wk_sum {ws : List Str} (h : Wk ws) : (ws.map (·.length)).sum + ws.length * (" " : Str).length ≤ 2002000 := by
  have := sum_le h.2
  have := h.1
  rw [sp1]
  omega
theorem wk_b {ws : List Str} (h : Wk ws) : (ws.map (·.length)).sum + ws.length * (" " : Str).length ≤ 16777216 := Nat.le_trans (wk_sum h) (by decide)
theorem wk_join {ws : List Str} (h : Wk ws) : (Txt.join " " ws).length ≤ 2002000 := Nat.le_trans (join_len _ _) (wk_sum h)
theorem Wk.tail {w : Str} {ws : List Str} (h : Wk (w :: ws)) : Wk ws := ⟨by have := h.1; rw [List.length_cons] at this; omega, fun x hx => h.2 x (List.mem_cons_of_mem _ hx)⟩
theorem Wk.left {us vs : List Str} (h : Wk (us ++ vs)) : Wk us := ⟨by have := h.1; rw [List.length_append] at this; omega, fun x hx => h.2 x (List.mem_append_left _ hx)⟩
theorem Wk.right {us vs : List Str} (h : Wk (us ++ vs)) : Wk vs := ⟨by have := h.1; rw [List.length_append] at this; omega, fun x hx => h.2 x (List.mem_append_right _ hx)⟩
theorem tx_map : ∀ ws : List Str, txOf (ws.map D.str) = some ws
  | [] => rfl
  | w :: ws => by
    show (txOf (ws.map D.str)).map (w :: ·) = _
    rw [tx_map ws]
    rfl
theorem PT.ne {n : Nat} {us : List Str} {d : D} (h : PT n us d) : us ≠ [] := fun e => by
  have := h.two_le
  rw [e] at this
  exact absurd this (by decide)
theorem in_is : (if false = true then !inF (.str "is") [.str "is", .str "has"] else inF (.str "is") [.str "is", .str "has"]) = true := by decide +kernel
theorem in_has : (if false = true then !inF (.str "has") [.str "is", .str "has"] else inF (.str "has") [.str "is", .str "has"]) = true := by decide +kernel
theorem in_not : (if false = true then !inF (.str "not") [.str "is", .str "has"] else inF (.str "not") [.str "is", .str "has"]) = false := by decide +kernel
theorem in_op {h : Str} (hh : h = "and" ∨ h = "or") : (if false = true then !inF (.str h) [.str "is", .str "has"] else inF (.str h) [.str "is", .str "has"]) = false := by
  rcases hh with rfl | rfl <;> decide +kernel
theorem sz2 : 2 ≤ sizeLine := sz_le (by decide)
theorem sz3 : 3 ≤ sizeLine := sz_le (by decide)
theorem sz1 : 1 ≤ sizeLine := sz_le (by decide)
theorem text_ok (n : Nat) (ds : List D) (M : Mh) (k : DK) (kx : XKd) (h : sText (n + 1) ds M k kx) : b_test_text n { nx := fun _ M' => k .non M', rt := k } (startD 2 ds) M noX := by
  obtain ⟨t, ws, m, rfl, pt, hm, hw, hk⟩ := h
  cases pt with
  | @is _ c w h1 h2 =>
    refine ⟨_, rfl, 0, _, _, rfl, rfl, at_of' (j := 0) rfl rfl, sz2, _, rfl, rfl, rfl, _, rfl, ?_⟩
    rw [in_is]
    exact ⟨" ", rfl, _, rfl, _, ["is", c, w], rfl, rfl, wk_b hw, hk⟩
  | @has _ w h1 =>
    refine ⟨_, rfl, 0, _, _, rfl, rfl, at_of' (j := 0) rfl rfl, sz2, _, rfl, rfl, rfl, _, rfl, ?_⟩
    rw [in_has]
    exact ⟨" ", rfl, _, rfl, _, ["has", w], rfl, rfl, wk_b hw, hk⟩
  | @not m us d p1 =>
    refine ⟨_, rfl, 0, _, _, rfl, rfl, at_of' (j := 0) rfl rfl, sz2, _, rfl, rfl, rfl, _, rfl, ?_⟩
    rw [in_not]
    refine ⟨" ", rfl, _, rfl, 0, _, _, rfl, rfl, at_of' (j := 0) rfl rfl, _, rfl, 1, rfl, sz1, ?_⟩
    refine ⟨trivial, _, rfl, _, rfl, d, us, m, rfl, p1, by omega, hw.tail, trivial, ?_⟩
    refine ⟨_, rfl, sz2, _, ["not", Txt.join " " us], rfl, rfl, ?_, ?_⟩
    · have := wk_join hw.tail
      have l3 : ("not" : Str).length = 3 := by decide +kernel
      show ("not" : Str).length + ((Txt.join " " us).length + 0) + 2 * (" " : Str).length ≤ _
      rw [l3, sp1]
      omega
    · rw [join_1 _ _ _ p1.ne]
      exact hk
  | @two m h us vs d e hh p1 p2 =>
    refine ⟨_, rfl, 0, _, _, rfl, rfl, at_of' (j := 0) rfl rfl, sz2, _, rfl, rfl, rfl, _, rfl, ?_⟩
    rw [in_op hh]
    refine ⟨" ", rfl, _, rfl, 0, _, _, rfl, rfl, at_of' (j := 0) rfl rfl, _, rfl, 1, rfl, sz2, ?_⟩
    refine ⟨trivial, _, rfl, _, rfl, d, us, m, rfl, p1, by omega, hw.tail.left, trivial, _, rfl, _, rfl, e, vs, m, rfl, p2, by omega, hw.tail.right, trivial, ?_⟩
    refine ⟨_, rfl, sz3, _, [h, Txt.join " " us, Txt.join " " vs], rfl, rfl, ?_, ?_⟩
    · have := wk_join hw.tail.left
      have := wk_join hw.tail.right
      have := hw.2 h List.mem_cons_self
      show h.length + ((Txt.join " " us).length + ((Txt.join " " vs).length + 0)) + 3 * (" " : Str).length ≤ _
      rw [sp1]
      omega
    · rw [join_2 _ _ _ _ p1.ne p2.ne]
      exact hk
theorem words_ok (n : Nat) (ds : List D) (M : Mh) (k : DK) (kx : XKd) (h : sWords (n + 1) ds M k kx) : b__law_test_words n { nx := fun _ M' => k .non M', rt := k } (startD 3 ds) M noX := by
  obtain ⟨t, ws, m, rfl, pt, hm, hw, hk⟩ := h
  have wl : ws.length ≤ 2000 := hw.1
  cases pt with
  | @is _ c w h1 h2 =>
    refine ⟨_, rfl, 0, _, _, rfl, rfl, at_of' (j := 0) rfl rfl, sz2, _, rfl, rfl, rfl, _, rfl, ?_⟩
    rw [in_is]
    exact ⟨_, rfl, _, _, rfl, rfl, hk⟩
  | @has _ w h1 =>
    refine ⟨_, rfl, 0, _, _, rfl, rfl, at_of' (j := 0) rfl rfl, sz2, _, rfl, rfl, rfl, _, rfl, ?_⟩
    rw [in_has]
    exact ⟨_, rfl, _, _, rfl, rfl, hk⟩
  | @not m us d p1 =>
    refine ⟨_, rfl, 0, _, _, rfl, rfl, at_of' (j := 0) rfl rfl, sz2, _, rfl, rfl, rfl, _, rfl, ?_⟩
    rw [in_not]
    refine ⟨_, rfl, 0, _, _, rfl, rfl, at_of' (j := 0) rfl rfl, sz1, _, rfl, _, rfl, 1, rfl, ?_⟩
    refine ⟨trivial, _, rfl, _, rfl, _, rfl, d, us, m, rfl, p1, by omega, hw.tail, ?_⟩
    rw [List.length_cons] at wl
    refine ⟨[.str "not"], us.map .str, rfl, rfl, sz_le (by rw [List.length_map]; show 1 + us.length ≤ _; omega), _, rfl, trivial, _, rfl, ?_⟩
    exact hk
  | @two m h us vs d e hh p1 p2 =>
    refine ⟨_, rfl, 0, _, _, rfl, rfl, at_of' (j := 0) rfl rfl, sz2, _, rfl, rfl, rfl, _, rfl, ?_⟩
    rw [in_op hh]
    refine ⟨_, rfl, 0, _, _, rfl, rfl, at_of' (j := 0) rfl rfl, sz1, _, rfl, _, rfl, 1, rfl, ?_⟩
    rw [List.length_cons, List.length_append] at wl
    refine ⟨trivial, _, rfl, _, rfl, _, rfl, d, us, m, rfl, p1, by omega, hw.tail.left, ?_⟩
    refine ⟨[.str h], us.map .str, rfl, rfl, sz_le (by rw [List.length_map]; show 1 + us.length ≤ _; omega), _, rfl, trivial, _, rfl, ?_⟩
    refine ⟨_, rfl, _, rfl, e, vs, m, rfl, p2, by omega, hw.tail.right, ?_⟩
    refine ⟨_, vs.map .str, rfl, rfl, sz_le (by rw [List.length_append, List.length_map, List.length_map]; show 1 + us.length + vs.length ≤ _; omega), _, rfl, trivial, _, rfl, ?_⟩
    rw [List.map_cons, List.map_append] at hk
    exact hk
theorem max1 {a m : Int} (h : m ∈ [a]) : m = a := by simpa using h
theorem deep_ok (n : Nat) (ds : List D) (M : Mh) (k : DK) (kx : XKd) (h : sDeep (n + 1) ds M k kx) : b__law_deep n { nx := fun _ M' => k .non M', rt := k } (startD 2 ds) M noX := by
  obtain ⟨t, m, rfl, ft, hm, hk⟩ := h
  have add : ∀ m : Nat, ((m + 1 : Nat) : Int) = 1 + (m : Int) := fun m => by omega
  cases ft with
  | is h1 h2 h3 =>
    refine ⟨_, rfl, 0, _, _, rfl, rfl, at_of' (j := 0) rfl rfl, sz2, _, rfl, rfl, rfl, _, rfl, ?_⟩
    rw [in_is]
    exact hk
  | has h1 =>
    refine ⟨_, rfl, 0, _, _, rfl, rfl, at_of' (j := 0) rfl rfl, sz2, _, rfl, rfl, rfl, _, rfl, ?_⟩
    rw [in_has]
    exact hk
  | @not m d h1 =>
    refine ⟨_, rfl, 0, _, _, rfl, rfl, at_of' (j := 0) rfl rfl, sz2, _, rfl, rfl, rfl, _, rfl, ?_⟩
    rw [in_not]
    refine ⟨_, rfl, 1, rfl, sz1, trivial, _, rfl, _, rfl, d, m, rfl, h1, by omega, trivial, _, [(m : Int)], rfl, rfl, by show 0 < 1; decide, fun x hx _ => ?_⟩
    rw [max1 hx]
    rw [add] at hk
    exact hk
  | @two m m' h d e hh h1 h2 hl =>
    refine ⟨_, rfl, 0, _, _, rfl, rfl, at_of' (j := 0) rfl rfl, sz2, _, rfl, rfl, rfl, _, rfl, ?_⟩
    rw [in_op hh]
    refine ⟨_, rfl, 1, rfl, sz2, trivial, _, rfl, _, rfl, d, m, rfl, h1, by omega, trivial, _, rfl, _, rfl, e, m', rfl, h2, by omega, trivial, _, [(m : Int), (m' : Int)], rfl, rfl, by show 0 < 2; decide, fun x hx hx2 => ?_⟩
    have a1 := hx2 (m : Int) (by simp)
    have a2 : x = m ∨ x = m' := by simpa using hx
    have ex : x = (m : Int) := by omega
    rw [ex]
    rw [add] at hk
    exact hk
  | @owt m m' h d e hh h1 h2 hl =>
    refine ⟨_, rfl, 0, _, _, rfl, rfl, at_of' (j := 0) rfl rfl, sz2, _, rfl, rfl, rfl, _, rfl, ?_⟩
    rw [in_op hh]
    refine ⟨_, rfl, 1, rfl, sz2, trivial, _, rfl, _, rfl, e, m', rfl, h2, by omega, trivial, _, rfl, _, rfl, d, m, rfl, h1, by omega, trivial, _, [(m' : Int), (m : Int)], rfl, rfl, by show 0 < 2; decide, fun x hx hx2 => ?_⟩
    have a1 := hx2 (m : Int) (by simp)
    have a2 : x = m' ∨ x = m := by simpa using hx
    have ex : x = (m : Int) := by omega
    rw [ex]
    rw [add] at hk
    exact hk
end K03
set_option maxHeartbeats 1000000
namespace K03
open PySem L2 DL DX TL CM
theorem ExM.refl (M : Mh) : ExM M M := fun _ _ h => h
theorem ExM.trans {M M1 M2 : Mh} (a : ExM M M1) (b : ExM M1 M2) : ExM M M2 := fun p o h => b p o (a p o h)
theorem ExM.new {M : Mh} {p : Addr} (h : M p = none) (o : MO) : ExM M (setM M p o) := fun a u q => by
  unfold setM
  rw [if_neg (fun e => by rw [e, h] at q; cases q)]
  exact q
theorem setM_at (M : Mh) (p : Addr) (o : MO) : setM M p o p = some o := if_pos rfl
theorem setM_ne {M : Mh} {p a : Addr} {o : MO} (h : a ≠ p) : setM M p o a = M a := if_neg h
theorem cut_ab (xs : List D) (a j : Nat) (h : a ≤ xs.length) : cutD xs (some (a : Int)) (some ((a + j : Nat) : Int)) = (xs.drop a).take j := by
  unfold cutD
  rw [HT.sIx_nat, HT.sIx_nat, Nat.min_eq_left h]
  by_cases g : a + j ≤ xs.length
  · rw [Nat.min_eq_left g, Nat.add_sub_cancel_left]
  · rw [Nat.min_eq_right (by omega), List.take_of_length_le (by rw [List.length_drop]; omega), List.take_of_length_le (by rw [List.length_drop]; omega)]
theorem tab_in (w : Str) : (tab_PARTS.lookup w).isSome = decide (w = "is" ∨ w = "has" ∨ w = "not" ∨ w = "and" ∨ w = "or") := by
  by_cases h1 : w = "is"
  · subst h1; decide +kernel
  by_cases h2 : w = "has"
  · subst h2; decide +kernel
  by_cases h3 : w = "not"
  · subst h3; decide +kernel
  by_cases h4 : w = "and"
  · subst h4; decide +kernel
  by_cases h5 : w = "or"
  · subst h5; decide +kernel
  rw [decide_eq_false (by simp [h1, h2, h3, h4, h5])]
  show (List.lookup w [(("is" : Str), D.int 3), ("has", .int 2), ("not", .int 2), ("and", .int 3), ("or", .int 3)]).isSome = false
  rw [List.lookup_cons, beq_eq_false_iff_ne.mpr h1]
  show (List.lookup w [(("has" : Str), D.int 2), ("not", .int 2), ("and", .int 3), ("or", .int 3)]).isSome = false
  rw [List.lookup_cons, beq_eq_false_iff_ne.mpr h2]
  show (List.lookup w [(("not" : Str), D.int 2), ("and", .int 3), ("or", .int 3)]).isSome = false
  rw [List.lookup_cons, beq_eq_false_iff_ne.mpr h3]
  show (List.lookup w [(("and" : Str), D.int 3), ("or", .int 3)]).isSome = false
  rw [List.lookup_cons, beq_eq_false_iff_ne.mpr h4]
  show (List.lookup w [(("or" : Str), D.int 3)]).isSome = false
  rw [List.lookup_cons, beq_eq_false_iff_ne.mpr h5]
  rfl
theorem tb_is : tab_PARTS.lookup ("is" : Str) = some (.int 3) := by rfl
theorem tb_has : tab_PARTS.lookup ("has" : Str) = some (.int 2) := by rfl
theorem tb_not : tab_PARTS.lookup ("not" : Str) = some (.int 2) := by rfl
theorem tb_op {h : Str} (hh : h = "and" ∨ h = "or") : tab_PARTS.lookup h = some (.int 3) := by rcases hh with rfl | rfl <;> rfl
theorem res_none {m a : Nat} {ws : List Str} (h : pL m (ws.drop a) = none) : resAt m ws a = .non := by
  unfold resAt
  rw [h]
theorem res_some {m a c : Nat} {ws : List Str} {d : D} (h : pL m (ws.drop a) = some (d, c)) : resAt m ws a = .tup [d, .int ((a + c : Nat) : Int)] := by
  unfold resAt
  rw [h]
theorem pL0 (l : List Str) : pL 0 l = none := by cases l <;> rfl
theorem pLn (n : Nat) : pL (n + 1) [] = none := rfl
theorem pL_cons (n : Nat) (w : Str) (r : List Str) : pL (n + 1) (w :: r) =
    (if w = "is" then (match r with
      | c :: x :: _ => if (isColS c && isNameS x) = true then some (.tup [.str "is", .str c, .str x], 3) else none
      | _ => none)
    else if w = "has" then (match r with
      | x :: _ => if isNameS x = true then some (.tup [.str "has", .str x], 2) else none
      | _ => none)
    else if w = "not" then (match pL n r with
      | some (d, m) => some (.tup [.str "not", d], 1 + m)
      | none => none)
    else if w = "and" ∨ w = "or" then (match pL n r with
      | some (d, m) => (match pL n (r.drop m) with
        | some (e, m') => some (.tup [.str w, d, e], 1 + m + m')
        | none => none)
      | none => none)
    else none) := rfl
theorem pL_is0 {n : Nat} : pL (n + 1) ["is"] = none := by rw [pL_cons, if_pos rfl]
theorem pL_is1 {n : Nat} {c : Str} : pL (n + 1) ["is", c] = none := by rw [pL_cons, if_pos rfl]
theorem pL_is {n : Nat} {c x : Str} {r : List Str} : pL (n + 1) ("is" :: c :: x :: r) = if (isColS c && isNameS x) = true then some (.tup [.str "is", .str c, .str x], 3) else none := by rw [pL_cons, if_pos rfl]
theorem pL_has0 {n : Nat} : pL (n + 1) ["has"] = none := by rw [pL_cons, if_neg k1, if_pos rfl]
theorem pL_has {n : Nat} {x : Str} {r : List Str} : pL (n + 1) ("has" :: x :: r) = if isNameS x = true then some (.tup [.str "has", .str x], 2) else none := by rw [pL_cons, if_neg k1, if_pos rfl]
theorem pL_not {n : Nat} {r : List Str} : pL (n + 1) ("not" :: r) = (match pL n r with
      | some (d, m) => some (.tup [.str "not", d], 1 + m)
      | none => none) := by rw [pL_cons, if_neg k2, if_neg k3, if_pos rfl]
theorem pL_op {n : Nat} {w : Str} (hh : w = "and" ∨ w = "or") {r : List Str} : pL (n + 1) (w :: r) = (match pL n r with
      | some (d, m) => (match pL n (r.drop m) with
        | some (e, m') => some (.tup [.str w, d, e], 1 + m + m')
        | none => none)
      | none => none) := by
  obtain ⟨a1, a2, a3⟩ := k4 hh
  rw [pL_cons, if_neg a1, if_neg a2, if_neg a3, if_pos hh]
theorem pL_no {n : Nat} {w : Str} (h : ¬ (w = "is" ∨ w = "has" ∨ w = "not" ∨ w = "and" ∨ w = "or")) {r : List Str} : pL (n + 1) (w :: r) = none := by
  rw [pL_cons, if_neg (fun e => h (.inl e)), if_neg (fun e => h (.inr (.inl e))), if_neg (fun e => h (.inr (.inr (.inl e)))), if_neg (fun e => h (.inr (.inr (.inr e))))]
theorem ok_strs : ∀ {l : List Str}, (∀ w ∈ l, w.length ≤ 1000) → okAll 1 (l.map D.str) = true
  | [], _ => rfl
  | w :: l, h => by
    show (okD 1 (.str w) && okAll 1 (l.map D.str)) = true
    rw [ok_strs fun x hx => h x (List.mem_cons_of_mem _ hx), Bool.and_true]
    show decide (w.length ≤ 1000) = true
    exact decide_eq_true (h w List.mem_cons_self)
/-- one turn of the loop -/
theorem turn_ok {n m b : Nat} {ws : List Str} (hm : m < n) (h6 : m ≤ 6) (hw : Wk ws) {w : Str} {x1 x5 x7 x8 : Option D} {p : Addr} {ds : List D} {M : Mh} (hp : M p = some (.lst ds)) (hl : ds.length ≤ 10) {nx : DL.Env → Mh → Prop} {kx : XKd} {bk : DL.Env → Mh → Prop} {ct : DL.Env → Mh → Prop} {rt : DK}
    (h0 : pL m (ws.drop b) = none → ∀ M', ExM M M' → rt .non M')
    (h1 : ∀ d c, pL m (ws.drop b) = some (d, c) → ∀ M', (∀ a o, a ≠ p → M a = some o → M' a = some o) → M' p = some (.lst (ds ++ [d])) → nx [some (.lst (ws.map .str)), x1, some (.int ((m + 1 : Nat) : Int)), some (.str w), some (.int ((b + c : Nat) : Int)), some (.tup [d, .int ((b + c : Nat) : Int)]), some (.ref p), x7, some d] M') :
    (mSeq (mAsg (mCall (sAt n) (mCons (mVar 0) (mCons (mVar 4) (mCons (mOp dSub (mVar 2) (mC (.int 1))) mNil)))) (.nm 5)) (mSeq (mIfS (mTest (mOp dIs (mVar 5) (mC .non))) (mRet (mC .non)) mNext) (mSeq (mAsg (mVar 5) (.tp [(.nm 8), (.nm 4)])) (mDrop (mAppend (mVar 6) (mVar 8))))))
      ⟨nx, rt, bk, ct⟩ [some (.lst (ws.map .str)), x1, some (.int ((m + 1 : Nat) : Int)), some (.str w), some (.int (b : Int)), x5, some (.ref p), x7, x8] M kx := by
  refine ⟨_, rfl, _, rfl, _, rfl, _, _, rfl, rfl, trivial, ws, b, m, ?_, hm, h6, hw, fun M' ex => ?_⟩
  · have e : ((m + 1 : Nat) : Int) - 1 = (m : Int) := by omega
    show [_, _, D.int (((m + 1 : Nat) : Int) - 1)] = _
    rw [e]
  · refine ⟨_, rfl, _, rfl, ?_⟩
    cases q : pL m (ws.drop b) with
    | none =>
      rw [res_none q]
      exact ⟨_, rfl, h0 q M' ex⟩
    | some z =>
      obtain ⟨d, c⟩ := z
      rw [res_some q]
      refine ⟨_, rfl, _, rfl, _, rfl, _, rfl, p, ds, rfl, ex p _ hp, _, rfl, ds, ex p _ hp, sz_le' hl, ?_⟩
      exact h1 d c q _ (fun a o ne e => by rw [setM_ne ne]; exact ex a o e) (setM_at _ _ _)
where
  sz_le' {k : Nat} (h : k ≤ 10) : k < sizeLine := by rw [sizeLine_eq]; omega
theorem at_ok (n : Nat) (ds : List D) (M : Mh) (k : DK) (kx : XKd) (h : sAt (n + 1) ds M k kx) : b_test_at n { nx := fun _ M' => k .non M', rt := k } (startD 9 ds) M noX := by
  obtain ⟨ws, a, m, rfl, hm, h6, hw, hk⟩ := h
  refine ⟨_, rfl, _, rfl, ?_⟩
  cases m with
  | zero =>
    rw [res_none (pL0 _)] at hk
    exact hk M (ExM.refl M)
  | succ m =>
    have e0 : decide (((m + 1 : Nat) : Int) = 0) = false := decide_eq_false (by omega)
    rw [show (if false = true then !decide (((m + 1 : Nat) : Int) = 0) else decide (((m + 1 : Nat) : Int) = 0)) = false from e0]
    refine ⟨_, rfl, _, rfl, _, rfl, _, rfl, _, _, rfl, rfl, trivial, _, rfl, ?_⟩
    by_cases ha : a < ws.length
    · have e1 : decide ((((ws.map D.str).length : Nat) : Int) ≤ (a : Int)) = false := decide_eq_false (by rw [List.length_map]; omega)
      rw [e1]
      obtain ⟨w, r, hdr⟩ : ∃ w r, ws.drop a = w :: r := by
        cases q : ws.drop a with
        | nil =>
          have := congrArg List.length q
          rw [List.length_drop] at this
          simp at this
          omega
        | cons w r => exact ⟨w, r, rfl⟩
      have hwa : ws[a]? = some w := by
        have : (ws.drop a)[0]? = some w := by rw [hdr]; rfl
        rw [List.getElem?_drop] at this
        exact this
      have hda : (ws.map D.str)[a]? = some (.str w) := by rw [List.getElem?_map, hwa]; rfl
      refine ⟨_, rfl, _, rfl, a, _, _, rfl, rfl, at_of' (j := a) rfl hda, w, rfl, _, rfl, ?_⟩
      rw [tab_in]
      by_cases hin : w = "is" ∨ w = "has" ∨ w = "not" ∨ w = "and" ∨ w = "or"
      · rw [decide_eq_true hin]
        refine ⟨_, rfl, _, rfl, a, _, _, rfl, rfl, at_of' (j := a) rfl hda, _, rfl, ?_⟩
        have hlen : (ws.map D.str).length ≤ 2000 := by rw [List.length_map]; exact hw.1
        have hle : a ≤ (ws.map D.str).length := by rw [List.length_map]; omega
        have cut : ∀ j : Nat, cutD (ws.map D.str) (some (a : Int)) (some ((a + j : Nat) : Int)) = (((w :: r).take j).map D.str) := fun j => by
          rw [cut_ab _ _ _ hle, ← List.map_drop, hdr, ← List.map_take]
        have wok : ∀ j, ∀ x ∈ (w :: r).take j, x.length ≤ 1000 := fun j x hx => hw.2 x (List.mem_of_mem_drop (i := a) (by rw [hdr]; exact List.mem_of_mem_take hx))
        have okt : ∀ j : Nat, j ≤ 3 → okD 2 (.tup (((w :: r).take j).map D.str)) = true := fun j hj => by
          show (decide ((((w :: r).take j).map D.str).length ≤ 1000) && okAll 1 (((w :: r).take j).map D.str)) = true
          rw [ok_strs (wok j), Bool.and_true]
          exact decide_eq_true (by rw [List.length_map, List.length_take]; omega)
        rcases hin with rfl | rfl | hrest
        · -- is
          refine ⟨_, rfl, sz2, _, rfl, rfl, rfl, _, rfl, ?_⟩
          rw [in_is]
          refine ⟨_, rfl, _, rfl, "is", _, rfl, tb_is, _, rfl, ?_⟩
          refine ⟨_, rfl, _, rfl, _, rfl, _, rfl, _, rfl, _, rfl, _, _, rfl, rfl, _, rfl, ?_⟩
          have e3 : (a : Int) + 3 = ((a + 3 : Nat) : Int) := by omega
          rw [e3, cut 3]
          refine ⟨_, rfl, _, 6, 2, rfl, by decide, okt 3 (by decide), _, rfl, ?_⟩
          have none_ : pL (m + 1) ("is" :: r) = none → k .non M := fun q => by
            have := hk M (ExM.refl M)
            rw [res_none (by rw [hdr]; exact q)] at this
            exact this
          match r, hdr, none_ with
          | [], hdr, none_ => exact none_ (by rw [pL_is0])
          | [c], hdr, none_ => exact none_ (by rw [pL_is1])
          | c :: x :: r3, hdr, none_ =>
            show if isT 6 (.tup [.str "is", .str c, .str x]) = true then _ else _
            rw [is_is]
            show if (isColS c && isNameS x) = true then _ else _
            by_cases q : (isColS c && isNameS x) = true
            · rw [if_pos q]
              have := hk M (ExM.refl M)
              rw [res_some (d := .tup [.str "is", .str c, .str x]) (c := 3) (by rw [hdr, pL_is, if_pos q])] at this
              exact ⟨_, rfl, _, rfl, sz2, this⟩
            · rw [if_neg q]
              exact none_ (by rw [pL_is, if_neg q])
        · -- has
          refine ⟨_, rfl, sz2, _, rfl, rfl, rfl, _, rfl, ?_⟩
          rw [in_has]
          refine ⟨_, rfl, _, rfl, "has", _, rfl, tb_has, _, rfl, ?_⟩
          refine ⟨_, rfl, _, rfl, _, rfl, _, rfl, _, rfl, _, rfl, _, _, rfl, rfl, _, rfl, ?_⟩
          have e3 : (a : Int) + 2 = ((a + 2 : Nat) : Int) := by omega
          rw [e3, cut 2]
          refine ⟨_, rfl, _, 6, 2, rfl, by decide, okt 2 (by decide), _, rfl, ?_⟩
          have none_ : pL (m + 1) ("has" :: r) = none → k .non M := fun q => by
            have := hk M (ExM.refl M)
            rw [res_none (by rw [hdr]; exact q)] at this
            exact this
          match r, hdr, none_ with
          | [], hdr, none_ => exact none_ (by rw [pL_has0])
          | x :: r3, hdr, none_ =>
            show if isT 6 (.tup [.str "has", .str x]) = true then _ else _
            rw [is_has]
            show if isNameS x = true then _ else _
            by_cases q : isNameS x = true
            · rw [if_pos q]
              have := hk M (ExM.refl M)
              rw [res_some (d := .tup [.str "has", .str x]) (c := 2) (by rw [hdr, pL_has, if_pos q])] at this
              exact ⟨_, rfl, _, rfl, sz2, this⟩
            · rw [if_neg q]
              exact none_ (by rw [pL_has, if_neg q])
        · have hr1 : ws.drop (a + 1) = r := by
            rw [← List.drop_drop, hdr]
            rfl
          have e4 : (a : Int) + 1 = ((a + 1 : Nat) : Int) := by omega
          have fin : ∀ (p : Addr) (M' : Mh) (hp : M p = none), (∀ b o, b ≠ p → M b = some o → M' b = some o) → ExM M M' := fun p M' hp h b o e => h b o (fun z => by rw [z, hp] at e; cases e) e
          have tup_of : ∀ (p : Addr) (M' : Mh) (es : List D), M' p = some (.lst es) → sqOf M' (.ref p) = some es := fun p M' es e => by
            show mls (M' p) = some es
            rw [e]
            rfl
          rcases hrest with rfl | hh
          · -- not
            refine ⟨_, rfl, sz2, _, rfl, rfl, rfl, _, rfl, ?_⟩
            rw [in_not]
            refine ⟨_, rfl, sz1, fun p hp => ⟨_, rfl, _, _, rfl, ?_⟩⟩
            rw [e4]
            refine ⟨_, rfl, "not", _, rfl, tb_not, _, _, rfl, rfl, trivial, 1, rfl, by decide, by decide, ?_⟩
            refine ⟨trivial, _, rfl, ?_⟩
            refine turn_ok (by omega) (by omega) hw (setM_at _ _ _) (by show 1 ≤ 10; decide) (fun q M' ex => ?_) fun d c q M' ex hp' => ?_
            · rw [hr1] at q
              have := hk M' ((ExM.new hp _).trans ex)
              rw [res_none (by rw [hdr, pL_not, q])] at this
              exact this
            · rw [hr1] at q
              have := hk M' (fin p M' hp fun b o ne e => ex b o ne (by rw [setM_ne ne]; exact e))
              rw [res_some (by rw [hdr, pL_not, q])] at this
              refine ⟨trivial, _, rfl, _, _, rfl, tup_of p M' _ hp', _, rfl, sz2, ?_⟩
              rw [show a + (1 + c) = a + 1 + c by omega] at this
              exact this
          · refine ⟨_, rfl, sz2, _, rfl, rfl, rfl, _, rfl, ?_⟩
            rw [in_op hh]
            refine ⟨_, rfl, sz1, fun p hp => ⟨_, rfl, _, _, rfl, ?_⟩⟩
            rw [e4]
            refine ⟨_, rfl, w, _, rfl, tb_op hh, _, _, rfl, rfl, trivial, 2, rfl, by decide, by decide, ?_⟩
            refine ⟨trivial, _, rfl, ?_⟩
            refine turn_ok (by omega) (by omega) hw (setM_at _ _ _) (by show 1 ≤ 10; decide) (fun q M' ex => ?_) fun d c q M' ex hp' => ?_
            · rw [hr1] at q
              have := hk M' ((ExM.new hp _).trans ex)
              rw [res_none (by rw [hdr, pL_op hh, q])] at this
              exact this
            · rw [hr1] at q
              refine ⟨trivial, _, rfl, ?_⟩
              have hr2 : ws.drop (a + 1 + c) = r.drop c := by rw [← hr1, List.drop_drop]
              have ex1 : ∀ b o, b ≠ p → M b = some o → M' b = some o := fun b o ne e => ex b o ne (by rw [setM_ne ne]; exact e)
              refine turn_ok (by omega) (by omega) hw hp' (by show 2 ≤ 10; decide) (fun q2 M2 ex2 => ?_) fun d2 c2 q2 M2 ex2 hp2 => ?_
              · rw [hr2] at q2
                have := hk M2 ((fin p M' hp ex1).trans ex2)
                rw [res_none (by rw [hdr, pL_op hh, q]; show (match pL m (r.drop c) with | some (e, m') => some (D.tup [.str w, d, e], 1 + c + m') | none => none) = none; rw [q2])] at this
                exact this
              · rw [hr2] at q2
                have := hk M2 (fin p M2 hp fun b o ne e => ex2 b o ne (ex1 b o ne e))
                rw [res_some (d := .tup [.str w, d, d2]) (c := 1 + c + c2) (by rw [hdr, pL_op hh, q]; show (match pL m (r.drop c) with | some (e, m') => some (D.tup [.str w, d, e], 1 + c + m') | none => none) = _; rw [q2])] at this
                refine ⟨trivial, _, rfl, _, _, rfl, tup_of p M2 _ hp2, _, rfl, sz2, ?_⟩
                rw [show a + (1 + c + c2) = a + 1 + c + c2 by omega] at this
                exact this
      · rw [decide_eq_false hin]
        have := hk M (ExM.refl M)
        rw [res_none (by rw [hdr, pL_no hin])] at this
        exact this
    · have e1 : decide ((((ws.map D.str).length : Nat) : Int) ≤ (a : Int)) = true := decide_eq_true (by rw [List.length_map]; omega)
      rw [e1]
      rw [res_none (by rw [List.drop_eq_nil_of_le (by omega)]; rfl)] at hk
      exact hk M (ExM.refl M)
end K03
set_option maxHeartbeats 1000000
namespace K03
open PySem L2 DL DX TL CM
theorem ne_non_of {ws : List Str} {d : D} {n : Nat} (h : PT n ws d) : d ≠ .non := by cases h <;> exact fun e => by cases e
theorem res_pt {ws : List Str} {d : D} (h : PT 6 ws d) : resOf ws = d := by
  unfold resOf
  have := h.pL []
  rw [List.append_nil] at this
  rw [this]
  exact if_neg (Nat.lt_irrefl _)
theorem res_non {ws : List Str} (h : resOf ws ≠ .non) : PT 6 ws (resOf ws) := by
  unfold resOf at h ⊢
  cases q : pL 6 ws with
  | none => rw [q] at h; exact absurd rfl h
  | some z =>
    obtain ⟨d, c⟩ := z
    rw [q] at h
    dsimp only at h ⊢
    by_cases hc : c < ws.length
    · rw [if_pos hc] at h; exact absurd rfl h
    · rw [if_neg hc]
      obtain ⟨us, r, e1, e2, e3⟩ := pL_PT 6 ws d c q
      have : r = [] := by
        have := congrArg List.length e1
        rw [List.length_append, e2] at this
        exact List.length_eq_zero_iff.mp (by omega)
      rw [this, List.append_nil] at e1
      rw [e1]
      exact e3
theorem of_ok (ds : List D) (M : Mh) (k : DK) (kx : XKd) (h : sTestOf ds M k kx) : b_test_of { nx := fun _ M' => k .non M', rt := k } (startD 2 ds) M noX := by
  obtain ⟨ws, rfl, hw, hk⟩ := h
  refine ⟨_, rfl, ws, 0, 6, rfl, by decide, by decide, hw, fun M' ex => ⟨_, rfl, ?_⟩⟩
  have h0 := hk M' ex
  unfold resOf at h0
  have e0 : ws.drop 0 = ws := rfl
  refine ⟨_, rfl, _, rfl, ?_⟩
  cases q : pL 6 ws with
  | none =>
    rw [res_none (by rw [e0]; exact q)]
    rw [q] at h0
    exact h0
  | some z =>
    obtain ⟨d, c⟩ := z
    rw [res_some (by rw [e0]; exact q)]
    rw [q] at h0
    dsimp only at h0
    refine ⟨_, rfl, 1, _, _, rfl, rfl, at_of' (j := 1) rfl rfl, _, rfl, _, rfl, _, rfl, _, _, rfl, rfl, trivial, _, rfl, ?_⟩
    have el : decide (((0 + c : Nat) : Int) < (((ws.map D.str).length : Nat) : Int)) = decide (c < ws.length) := by
      rw [List.length_map, Nat.zero_add]
      exact decide_eq_decide.mpr (by omega)
    rw [el]
    by_cases hc : c < ws.length
    · rw [if_pos hc] at h0
      rw [decide_eq_true hc]
      exact h0
    · rw [if_neg hc] at h0
      rw [decide_eq_false hc]
      exact ⟨_, rfl, 0, _, _, rfl, rfl, at_of' (j := 0) rfl rfl, h0⟩
theorem sp_ne : (((" " : Str).length) == 0) = false := by decide +kernel
theorem read_none {d : D} (g : ∀ z, d ≠ .str z) : readD d = .non := by
  cases d with
  | str z => exact absurd rfl (g z)
  | _ => rfl
theorem read_ok {V : Ev} (ds : List D) (M : Mh) (k : DK) (kx : XKd) (h : sRead V.G ds M k kx) : b_read_test V { nx := fun _ M' => k .non M', rt := k } (startD 2 ds) M kx := by
  obtain ⟨d, rfl, hd, hk, hx⟩ := h
  rcases hd with ⟨hj, hs⟩ | ⟨z, rfl, hz, hw⟩
  · refine ⟨_, rfl, (hj M).1, _, rfl, ?_⟩
    rw [(hj M).2]
    refine ⟨_, rfl, _, rfl, _, rfl, ?_⟩
    exact ⟨_, rfl, rfl, hx (read_none hs) M (ExM.refl M)⟩
  · refine ⟨_, rfl, by show "str" ∈ tys; decide, _, rfl, ?_⟩
    refine ⟨_, rfl, z, rfl, " ", rfl, sp_ne, by rw [sizeLine_eq]; omega, _, rfl, hw, fun M' ex => ?_⟩
    refine ⟨_, rfl, _, rfl, _, rfl, ?_⟩
    have e : readD (.str z) = resOf (Txt.split z " ") := rfl
    rw [e] at hk hx
    by_cases hn : resOf (Txt.split z " ") = .non
    · rw [hn]
      exact ⟨_, rfl, rfl, hx hn M' ex⟩
    · have h1 := hk M' ex hn
      have nn : isNon (resOf (Txt.split z " ")) = false := by
        cases q : resOf (Txt.split z " ") with
        | non => exact absurd q hn
        | _ => rfl
      show if isNon (resOf (Txt.split z " ")) = true then _ else _
      rw [nn]
      exact ⟨_, rfl, h1⟩
/-! texts of words -/
theorem sp_tl : tl (" " : Str) = [32] := by decide +kernel
theorem split_sp {ws : List Str} (h : ws ≠ []) (g : ∀ w ∈ ws, 32 ∉ tl w) : Txt.split (Txt.join " " ws) " " = ws := split_join sp_tl (by decide +kernel) h g
/-- a word of plain signs without a blank -/
def PW (w : Str) : Prop := (∀ c ∈ tl w, c < 128 ∧ c ≠ 32) ∧ w.length ≤ 1000
theorem PW.no {w : Str} (h : PW w) : 32 ∉ tl w := fun hm => (h.1 32 hm).2 rfl
theorem let_lt : ∀ c ∈ letters.cps.toList, c < 128 ∧ c ≠ 32 := by decide +kernel
theorem good_pw {w : Str} (h : GoodW w) (hl : w.length ≤ 1000) : PW w := ⟨fun c hc => by
  rcases h.2 c hc with e | e
  · subst e; exact ⟨by decide, by decide⟩
  · exact let_lt c e, hl⟩
theorem pw_has : PW "has" := good_pw g_has (by decide +kernel)
theorem pw_not : PW "not" := good_pw g_not (by decide +kernel)
theorem pw_IS : PW "IS" := ⟨by decide +kernel, by decide +kernel⟩
theorem pw_nil : PW "" := ⟨by decide +kernel, by decide +kernel⟩
def PWs (ws : List Str) : Prop := ws ≠ [] ∧ ws.length ≤ 2000 ∧ ∀ w ∈ ws, PW w
theorem PWs.wk {ws : List Str} (h : PWs ws) : Wk ws := ⟨h.2.1, fun w hw => (h.2.2 w hw).2⟩
theorem PWs.split {ws : List Str} (h : PWs ws) : Txt.split (Txt.join " " ws) " " = ws := split_sp h.1 fun w hw => (h.2.2 w hw).no
theorem PWs.rd {ws : List Str} (h : PWs ws) : RdOk (.str (Txt.join " " ws)) := .inr ⟨_, rfl, Nat.le_trans (wk_join h.wk) (by decide), by rw [h.split]; exact h.wk⟩
theorem PWs.read {ws : List Str} (h : PWs ws) : readD (.str (Txt.join " " ws)) = resOf ws := by
  show resOf (Txt.split _ _) = _
  rw [h.split]
/-- the five ways to bend -/
def bents (ws : List Str) (a : Nat) : List (List Str) := [ws.take a ++ ws.drop (a + 1), ws.take a ++ [("has" : Str)] ++ ws.drop a, ws.take a ++ [("IS" : Str)] ++ ws.drop (a + 1), ws.take a ++ [("" : Str)] ++ ws.drop a, ws ++ [("not" : Str)]]
theorem bents_ok {ws : List Str} {a j : Nat} (h : PWs ws) (h2 : 2 ≤ ws.length) (hs : ws.length ≤ 200) (ha : a < ws.length) {b : List Str} (hb : (bents ws a)[j]? = some b) : PWs b := by
  have t1 : ∀ w ∈ ws.take a, PW w := fun w hw => h.2.2 w (List.mem_of_mem_take hw)
  have t2 : ∀ n, ∀ w ∈ ws.drop n, PW w := fun n w hw => h.2.2 w (List.mem_of_mem_drop hw)
  have app : ∀ {us vs : List Str}, (∀ w ∈ us, PW w) → (∀ w ∈ vs, PW w) → ∀ w ∈ us ++ vs, PW w := fun h1 h2 w hw => (List.mem_append.mp hw).elim (h1 w) (h2 w)
  have one : ∀ {x : Str}, PW x → ∀ w ∈ [x], PW w := fun hx w hw => by rw [List.mem_singleton.mp hw]; exact hx
  have fin : ∀ l : List Str, 1 ≤ l.length → l.length ≤ 2000 → (∀ w ∈ l, PW w) → PWs l := fun l h1 h2 h3 => ⟨fun e => by rw [e] at h1; exact absurd h1 (by decide), h2, h3⟩
  have mk : ∀ {x : Str}, PW x → ∀ n, PWs (ws.take a ++ [x] ++ ws.drop n) := fun hx n => fin _ (by simp [List.length_append]; omega) (by simp only [List.length_append, List.length_take, List.length_drop, List.length_cons, List.length_nil]; omega) (app (app t1 (one hx)) (t2 n))
  match j, hb with
  | 0, hb => cases hb; exact fin _ (by rw [List.length_append, List.length_take, List.length_drop]; omega) (by rw [List.length_append, List.length_take, List.length_drop]; omega) (app t1 (t2 _))
  | 1, hb => cases hb; exact mk pw_has _
  | 2, hb => cases hb; exact mk pw_IS _
  | 3, hb => cases hb; exact mk pw_nil _
  | 4, hb => cases hb; exact fin _ (by rw [List.length_append]; show 1 ≤ _ + 1; omega) (by rw [List.length_append]; show _ + 1 ≤ _; omega) (app h.2.2 (one pw_not))
  | n + 5, hb => simp [bents] at hb
theorem bents_no {ws : List Str} {a j : Nat} {t : D} (h : PT 6 ws t) (hj : 2 ≤ j) {b : List Str} (hb : (bents ws a)[j]? = some b) : resOf b = .non := by
  by_cases q : resOf b = .non
  · exact q
  · have pt := res_non q
    exfalso
    match j, hb with
    | 0, _ => omega
    | 1, _ => omega
    | 2, hb => cases hb; exact bad_IS (pt.good "IS" (by simp))
    | 3, hb => cases hb; exact bad_empty (pt.good "" (by simp))
    | 4, hb =>
      cases hb
      have := (h.uniq pt (r := ["not"]) (r' := []) (by rw [List.append_nil])).1
      have := congrArg List.length this
      rw [List.length_append] at this
      simp at this
    | n + 5, hb => simp [bents] at hb
end K03
set_option maxHeartbeats 1000000
namespace K03
open PySem L2 DL DX TL CM
/-! short words -/
theorem spl_tot : ∀ (l acc : List Nat), ((spl [46] 0 acc l).map List.length).sum + (spl [46] 0 acc l).length = acc.length + l.length + 1
  | [], acc => by rw [spl_nil]; simp
  | c :: r, acc => by
    cases q : pre [46] (c :: r) with
    | true =>
      rw [spl_hit q]
      have := spl_tot r []
      simp only [List.map_cons, List.sum_cons, List.length_cons, List.length_nil] at this ⊢
      rw [show 0 + 1 - 1 = 0 from rfl]
      omega
    | false =>
      rw [spl_miss q]
      have := spl_tot r (acc ++ [c])
      rw [List.length_append] at this
      simp only [List.length_cons, List.length_nil] at this ⊢
      omega
theorem col_short {c : Str} (h : isColS c = true) : c.length ≤ 13 := by
  unfold isColS at h
  rw [Bool.and_eq_true, decide_eq_true_eq] at h
  obtain ⟨h1, h2⟩ := h
  have tot := spl_tot (tl c) []
  have all := List.all_eq_true.mp h2
  unfold splitD at h1 all
  rw [List.length_map] at h1
  have le : ∀ p ∈ spl [46] 0 [] (tl c), p.length ≤ 6 := fun p hp => by
    have := (isNameS_len (all ⟨p.toArray⟩ (List.mem_map.mpr ⟨p, hp, rfl⟩))).2
    rw [len_tl, tl_mk] at this
    exact this
  rw [len_tl]
  generalize spl [46] 0 [] (tl c) = L at tot h1 le
  match L, h1, le, tot with
  | [], _, _, tot => simp at tot
  | [a], _, le, tot =>
    have := le a (by simp)
    have tot : (a.length + 0) + 1 = 0 + (tl c).length + 1 := tot
    omega
  | [a, b], _, le, tot =>
    have := le a (by simp)
    have := le b (by simp)
    have tot : (a.length + (b.length + 0)) + 2 = 0 + (tl c).length + 1 := tot
    omega
  | _ :: _ :: _ :: _, h1, _, _ => simp at h1
theorem k13 : ("is" : Str).length ≤ 13 ∧ ("has" : Str).length ≤ 13 ∧ ("not" : Str).length ≤ 13 ∧ ("and" : Str).length ≤ 13 ∧ ("or" : Str).length ≤ 13 := by decide +kernel
theorem PT.short {n : Nat} {us : List Str} {d : D} (h : PT n us d) : ∀ w ∈ us, w.length ≤ 13 := by
  have nl : ∀ {w : Str}, isNameS w = true → w.length ≤ 13 := fun h => by have := isNameS_len h; omega
  induction h with
  | is h1 h2 =>
    intro w hw
    rcases List.mem_cons.mp hw with rfl | hw
    · exact k13.1
    rcases List.mem_cons.mp hw with rfl | hw
    · exact col_short h1
    rcases List.mem_cons.mp hw with rfl | hw
    · exact nl h2
    · cases hw
  | has h1 =>
    intro w hw
    rcases List.mem_cons.mp hw with rfl | hw
    · exact k13.2.1
    rcases List.mem_cons.mp hw with rfl | hw
    · exact nl h1
    · cases hw
  | not _ ih =>
    intro w hw
    rcases List.mem_cons.mp hw with rfl | hw
    · exact k13.2.2.1
    · exact ih w hw
  | two hh _ _ ih1 ih2 =>
    intro w hw
    rcases List.mem_cons.mp hw with rfl | hw
    · rcases hh with rfl | rfl
      · exact k13.2.2.2.1
      · exact k13.2.2.2.2
    · rcases List.mem_append.mp hw with hw | hw
      · exact ih1 w hw
      · exact ih2 w hw
theorem PT.pws {n : Nat} {us : List Str} {d : D} (h : PT n us d) (hl : us.length ≤ 2000) : PWs us := ⟨h.ne, hl, fun w hw => good_pw (h.good w hw) (Nat.le_trans (h.short w hw) (by decide))⟩
/-! plain data -/
theorem PT.pure {n : Nat} {us : List Str} {d : D} (h : PT n us d) : ∀ m, n < m → pureN m d = true := by
  induction h with
  | is _ _ =>
    intro m hm
    obtain ⟨m, rfl⟩ : ∃ k, m = k + 2 := ⟨m - 2, by omega⟩
    rfl
  | has _ =>
    intro m hm
    obtain ⟨m, rfl⟩ : ∃ k, m = k + 2 := ⟨m - 2, by omega⟩
    rfl
  | @not n us d h ih =>
    intro m hm
    obtain ⟨m, rfl⟩ : ∃ k, m = k + 2 := ⟨m - 2, by omega⟩
    show (true && (pureN (m + 1) d && true)) = true
    rw [ih (m + 1) (by omega)]
    rfl
  | @two n h us vs d e hh h1 h2 ih1 ih2 =>
    intro m hm
    obtain ⟨m, rfl⟩ : ∃ k, m = k + 2 := ⟨m - 2, by omega⟩
    show (true && (pureN (m + 1) d && (pureN (m + 1) e && true))) = true
    rw [ih1 (m + 1) (by omega), ih2 (m + 1) (by omega)]
    rfl
theorem PT.shortD {n : Nat} {us : List Str} {d : D} (h : PT n us d) : CM.shortD d = true := by
  induction h with
  | is _ _ => rfl
  | has _ => rfl
  | @not n us d h ih =>
    show (decide (2 ≤ 1000000) && (true && (CM.shortD d && true))) = true
    rw [ih]
    rfl
  | @two n h us vs d e hh h1 h2 ih1 ih2 =>
    show (decide (3 ≤ 1000000) && (true && (CM.shortD d && (CM.shortD e && true)))) = true
    rw [ih1, ih2]
    rfl
theorem ok_of_pw {w : Str} (h : ∀ c ∈ tl w, c < 128) : PyData.strOk w = true := by
  unfold PyData.strOk
  rw [Array.all_eq_true_iff_forall_mem]
  intro c hc
  have := h c (by show c ∈ w.cps.toList; exact Array.mem_toList_iff.mpr hc)
  exact decide_eq_true (by omega)
theorem PT.py {n : Nat} {us : List Str} {d : D} (h : PT n us d) : ∃ x, toPy d = some x ∧ x.canLay0 = true ∧ x.depth ≤ n := by
  have ok : ∀ {w : Str}, GoodW w → PyData.strOk w = true := fun {w} g => ok_of_pw fun c hc => by
    rcases g.2 c hc with e | e
    · subst e; decide
    · exact (let_lt c e).1
  induction h with
  | @is n c w h1 h2 =>
    refine ⟨.tuple [.str "is", .str c, .str w], rfl, ?_, ?_⟩
    · show (PyData.strOk "is" && (PyData.strOk c && (PyData.strOk w && true))) = true
      rw [ok g_is, ok (col_good h1), ok (name_good h2)]
      rfl
    · show max 0 (max 0 (max 0 0)) + 1 ≤ n + 1
      omega
  | @has n w h1 =>
    refine ⟨.tuple [.str "has", .str w], rfl, ?_, ?_⟩
    · show (PyData.strOk "has" && (PyData.strOk w && true)) = true
      rw [ok g_has, ok (name_good h1)]
      rfl
    · show max 0 (max 0 0) + 1 ≤ n + 1
      omega
  | @not n us d h ih =>
    obtain ⟨x, a1, a2, a3⟩ := ih
    refine ⟨.tuple [.str "not", x], ?_, ?_, ?_⟩
    · rw [toPy]
      simp only [toPys, toPy, a1]
      rfl
    · show (PyData.strOk "not" && (x.canLay0 && true)) = true
      rw [ok g_not, a2]
      rfl
    · show max 0 (max x.depth 0) + 1 ≤ n + 1
      omega
  | @two n h us vs d e hh h1 h2 ih1 ih2 =>
    obtain ⟨x, a1, a2, a3⟩ := ih1
    obtain ⟨y, b1, b2, b3⟩ := ih2
    refine ⟨.tuple [.str h, x, y], ?_, ?_, ?_⟩
    · rw [toPy]
      simp only [toPys, toPy, a1, b1]
      rfl
    · show (PyData.strOk h && (x.canLay0 && (y.canLay0 && true))) = true
      rw [show PyData.strOk h = true by rcases hh with rfl | rfl <;> decide +kernel, a2, b2]
      rfl
    · show max 0 (max x.depth (max y.depth 0)) + 1 ≤ n + 1
      omega
theorem join_lt {ws : List Str} (h : ∀ w ∈ ws, PW w) : ∀ c ∈ tl (Txt.join " " ws), c < 128 := by
  rw [join_eq]
  induction ws with
  | nil => intro c hc; exact absurd hc (by show ¬ c ∈ ([] : List Nat); simp)
  | cons w ws ih =>
    intro c hc
    have hw := h w List.mem_cons_self
    cases ws with
    | nil => exact (hw.1 c hc).1
    | cons x ws =>
      have hc : c ∈ tl (w ++ " " ++ Str.join " " (x :: ws)) := hc
      rw [tl_append, tl_append] at hc
      rcases List.mem_append.mp hc with hc | hc
      · rcases List.mem_append.mp hc with hc | hc
        · exact (hw.1 c hc).1
        · rw [sp_tl] at hc
          rw [List.mem_singleton.mp hc]
          decide
      · exact ih (fun y hy => h y (List.mem_cons_of_mem _ hy)) c hc
theorem deep_bad {s : Str} (h : ∀ c ∈ tl s, c < 128) : Deep (.tup [.str "InvalidTest", .str s]) (.tuple [.str "InvalidTest", .str s]) := by
  refine ⟨rfl, ?_⟩
  show ((PyData.strOk "InvalidTest" && (PyData.strOk s && true)) && decide (max 0 (max 0 0) + 1 ≤ 64)) = true
  rw [ok_of_pw h, show PyData.strOk "InvalidTest" = true by decide +kernel]
  rfl
theorem deep_good {us : List Str} {d : D} (h : PT 6 us d) : ∃ x, Deep (.tup [.str "", d]) (.tuple [.str "", x]) := by
  obtain ⟨x, a1, a2, a3⟩ := h.py
  refine ⟨x, ?_, ?_⟩
  · rw [toPy]
    simp only [toPys, toPy, a1]
    rfl
  · show ((PyData.strOk "" && (x.canLay0 && true)) && decide (max 0 (max x.depth 0) + 1 ≤ 64)) = true
    rw [a2, show PyData.strOk "" = true by decide +kernel, decide_eq_true (show max 0 (max x.depth 0) + 1 ≤ 64 by omega)]
    rfl
end K03
set_option maxHeartbeats 1000000
namespace K03
open PySem L2 DL DX TL CM
theorem no_empty {ws : List Str} (h : ("" : Str) ∈ ws) : resOf ws = .non := by
  by_cases q : resOf ws = .non
  · exact q
  · exact absurd ((res_non q).good "" h) bad_empty
theorem e_tl : tl ("" : Str) = [] := by decide +kernel
theorem sp_left {ws : List Str} (h : ws ≠ []) : " " ++ Txt.join " " ws = Txt.join " " ("" :: ws) := by
  rw [join_eq, join_eq]
  refine ext_tl ?_
  rw [show ("" : Str) :: ws = [("" : Str)] ++ ws from rfl, js_app " " [""] ws (by simp) h, tl_append]
  show _ = tl ("" : Str) ++ _
  rw [e_tl]
  rfl
theorem sp_right {ws : List Str} (h : ws ≠ []) : Txt.join " " ws ++ " " = Txt.join " " (ws ++ [("" : Str)]) := by
  rw [join_eq, join_eq]
  refine ext_tl ?_
  rw [js_app " " ws [""] h (by simp), tl_append]
  show _ = _ ++ (_ ++ tl ("" : Str))
  rw [e_tl, List.append_nil]
theorem sp_both {ws : List Str} (h : ws ≠ []) : Txt.join " " ws ++ " " ++ Txt.join " " ws = Txt.join " " (ws ++ ws) := by
  rw [join_eq, join_eq]
  refine ext_tl ?_
  rw [js_app " " ws ws h h, tl_append, tl_append, List.append_assoc]
theorem sp_last {us : List Str} {w x : Str} : Txt.join " " (us ++ [w]) ++ x = Txt.join " " (us ++ [w ++ x]) := by
  rw [join_eq, join_eq]
  refine ext_tl ?_
  cases us with
  | nil => rfl
  | cons u us =>
    rw [tl_append, js_app " " (u :: us) [w] (by simp) (by simp), js_app " " (u :: us) [w ++ x] (by simp) (by simp)]
    show (_ ++ (_ ++ tl w)) ++ tl x = _ ++ (_ ++ tl (w ++ x))
    rw [tl_append]
    simp only [List.append_assoc]
theorem sp_not {ws : List Str} (h : ws ≠ []) : "not " ++ Txt.join " " ws = Txt.join " " ("not" :: ws) := by
  rw [join_eq, join_eq]
  refine ext_tl ?_
  rw [show ("not" : Str) :: ws = [("not" : Str)] ++ ws from rfl, js_app " " ["not"] ws (by simp) h, tl_append]
  show _ = tl ("not" : Str) ++ _
  rw [← List.append_assoc]
  congr 1
/-- with an empty word between each two -/
def dbl : List Str → List Str
  | [] => []
  | [w] => [w]
  | w :: x :: r => w :: "" :: dbl (x :: r)
theorem dbl_join : ∀ ws : List Str, tl (Str.join "  " ws) = tl (Str.join " " (dbl ws))
  | [] => rfl
  | [w] => rfl
  | w :: x :: r => by
    have ih := dbl_join (x :: r)
    obtain ⟨y, ys, e⟩ : ∃ y ys, dbl (x :: r) = y :: ys := by cases r with
      | nil => exact ⟨_, _, rfl⟩
      | cons z r => exact ⟨_, _, rfl⟩
    show tl (w ++ "  " ++ Str.join "  " (x :: r)) = tl (Str.join " " (w :: "" :: dbl (x :: r)))
    rw [e] at ih ⊢
    show _ = tl (w ++ " " ++ ("" ++ " " ++ Str.join " " (y :: ys)))
    simp only [tl_append, ih, e_tl, List.append_assoc, List.nil_append]
    rw [show tl ("  " : Str) = tl (" " : Str) ++ tl (" " : Str) by decide +kernel, List.append_assoc]
theorem dbl_mem : ∀ (ws : List Str), ∀ w ∈ dbl ws, w = "" ∨ w ∈ ws
  | [], w, h => .inr h
  | [x], w, h => .inr h
  | x :: y :: r, w, h => by
    rcases List.mem_cons.mp h with rfl | h
    · exact .inr List.mem_cons_self
    rcases List.mem_cons.mp h with rfl | h
    · exact .inl rfl
    rcases dbl_mem (y :: r) w h with h | h
    · exact .inl h
    · exact .inr (List.mem_cons_of_mem _ h)
theorem dbl_len : ∀ ws : List Str, (dbl ws).length ≤ 2 * ws.length
  | [] => Nat.le_refl _
  | [x] => by show 1 ≤ 2; decide
  | x :: y :: r => by
    have := dbl_len (y :: r)
    show (dbl (y :: r)).length + 1 + 1 ≤ _
    simp only [List.length_cons] at this ⊢
    omega
theorem repl_sp {ws : List Str} (h : PWs ws) : Txt.replace (Txt.join " " ws) " " "  " = Txt.join " " (dbl ws) := by
  have e : (" " : Str) = ⟨#[32]⟩ := by decide +kernel
  have h1 := StrLaws.replace_one (Txt.join " " ws) "  " 32
  rw [← e] at h1
  rw [h1, h.split, join_eq]
  exact ext_tl (dbl_join ws)
/-- a value that is refused -/
def OddOk (x : D) : Prop := RdOk x ∧ readD x = .non ∧ pureN 9 x = true ∧ CM.shortD x = true
theorem odd_txt {us : List Str} (h : PWs us) (g : resOf us = .non) : OddOk (.str (Txt.join " " us)) := ⟨h.rd, by rw [h.read]; exact g, rfl, rfl⟩
theorem nl_bad {w : Str} : ¬ GoodW (w ++ "\n") := fun h => by
  rcases h.2 10 (by rw [tl_append]; exact List.mem_append_right _ (by decide +kernel)) with e | e
  · exact absurd e (by decide)
  · exact absurd e (by decide +kernel)
theorem odd_one (z : Str) (h1 : PW z) (h2 : ¬ (z = "is" ∨ z = "has" ∨ z = "not" ∨ z = "and" ∨ z = "or")) : OddOk (.str z) := by
  have e : z = Txt.join " " [z] := by rw [join_eq]; rfl
  have := odd_txt (us := [z]) ⟨by simp, by show 1 ≤ 2000; decide, fun w hw => by rw [List.mem_singleton.mp hw]; exact h1⟩ (by unfold resOf; rw [pL_no h2])
  rw [← e] at this
  exact this
theorem odd_flat (x : D) (h : ∀ M, tyN M x ∈ tys ∧ isiB (tyN M x) "str" = false) (g : ∀ z, x ≠ .str z) (p : pureN 9 x = true) (s : CM.shortD x = true) : OddOk x := ⟨.inl ⟨h, g⟩, read_none g, p, s⟩
theorem odds {ws : List Str} {t : D} (h : PT 6 ws t) (hl : ws.length ≤ 200) : ∀ x ∈ oddL ++ [.str (" " ++ Txt.join " " ws), .str (Txt.join " " ws ++ " "), .str (Txt.join " " ws ++ " " ++ Txt.join " " ws), .str (Txt.join " " ws ++ "\n"), .str (Txt.replace (Txt.join " " ws) " " "  "), .lst [.str (Txt.join " " ws)]], OddOk x := by
  have pw := h.pws (by omega)
  have ne := pw.1
  have cat : ∀ {us vs : List Str}, PWs us → us.length ≤ 500 → (∀ w ∈ vs, PW w) → vs.length ≤ 500 → PWs (us ++ vs) := fun h1 l1 h2 l2 => ⟨by simp [h1.1], by rw [List.length_append]; omega, fun w hw => (List.mem_append.mp hw).elim (h1.2.2 w) (h2 w)⟩
  have one : ∀ {x : Str}, PW x → ∀ w ∈ [x], PW w := fun hx w hw => by rw [List.mem_singleton.mp hw]; exact hx
  intro x hx
  rcases List.mem_append.mp hx with hx | hx
  · simp only [oddL, List.mem_cons, List.not_mem_nil, or_false] at hx
    rcases hx with rfl | rfl | rfl | rfl | rfl | rfl | rfl | rfl | rfl | rfl | rfl | rfl | rfl
    · exact odd_flat _ (fun M => ⟨by show "NoneType" ∈ tys; decide, rfl⟩) (fun z e => by cases e) rfl rfl
    · exact odd_flat _ (fun M => ⟨by show "bool" ∈ tys; decide, rfl⟩) (fun z e => by cases e) rfl rfl
    · exact odd_flat _ (fun M => ⟨by show "bool" ∈ tys; decide, rfl⟩) (fun z e => by cases e) rfl rfl
    · exact odd_one "" pw_nil (by decide)
    · exact odd_one "A" ⟨by decide +kernel, by decide +kernel⟩ (by decide)
    · exact odd_one "a1" ⟨by decide +kernel, by decide +kernel⟩ (by decide)
    · exact odd_one "sevenst" ⟨by decide +kernel, by decide +kernel⟩ (by decide)
    · exact odd_flat _ (fun M => ⟨by show "int" ∈ tys; decide, rfl⟩) (fun z e => by cases e) rfl rfl
    · exact odd_flat _ (fun M => ⟨by show "int" ∈ tys; decide, rfl⟩) (fun z e => by cases e) rfl rfl
    · exact odd_flat _ (fun M => ⟨by show "tuple" ∈ tys; decide, rfl⟩) (fun z e => by cases e) rfl rfl
    · exact odd_flat _ (fun M => ⟨by show "list" ∈ tys; decide, rfl⟩) (fun z e => by cases e) rfl rfl
    · exact odd_flat _ (fun M => ⟨by show "tuple" ∈ tys; decide, rfl⟩) (fun z e => by cases e) rfl rfl
    · exact odd_flat _ (fun M => ⟨by show "int" ∈ tys; decide, rfl⟩) (fun z e => by cases e) rfl rfl
  · simp only [List.mem_cons, List.not_mem_nil, or_false] at hx
    rcases hx with rfl | rfl | rfl | rfl | rfl | rfl
    · rw [sp_left ne]
      exact odd_txt ⟨by simp, by rw [List.length_cons]; omega, fun w hw => (List.mem_cons.mp hw).elim (fun e => by rw [e]; exact pw_nil) (pw.2.2 w)⟩ (no_empty List.mem_cons_self)
    · rw [sp_right ne]
      exact odd_txt (cat pw (by omega) (one pw_nil) (by show 1 ≤ 500; decide)) (no_empty (by simp))
    · rw [sp_both ne]
      refine odd_txt (cat pw (by omega) pw.2.2 (by omega)) ?_
      by_cases q : resOf (ws ++ ws) = .non
      · exact q
      · have pt := res_non q
        have e := (h.uniq pt (r := ws) (r' := []) (by rw [List.append_nil])).1
        have e := congrArg List.length e
        rw [List.length_append] at e
        have := h.two_le
        omega
    · obtain ⟨us, w, e⟩ : ∃ us w, ws = us ++ [w] := ⟨ws.dropLast, ws.getLast ne, (List.dropLast_concat_getLast ne).symm⟩
      have hw : w ∈ ws := by rw [e]; simp
      have pn : PW (w ++ "\n") := by
        refine ⟨fun c hc => ?_, ?_⟩
        · rw [tl_append] at hc
          rcases List.mem_append.mp hc with hc | hc
          · exact (pw.2.2 w hw).1 c hc
          · rw [show tl ("\n" : Str) = [10] by decide +kernel] at hc
            rw [List.mem_singleton.mp hc]
            exact ⟨by decide, by decide⟩
        · have := h.short w hw
          rw [len_tl, tl_append, List.length_append, ← len_tl, show (tl ("\n" : Str)).length = 1 by decide +kernel]
          omega
      have hus : us.length ≤ 199 := by
        rw [e, List.length_append] at hl
        have hl : us.length + 1 ≤ 200 := hl
        omega
      have er : Txt.join " " ws ++ "\n" = Txt.join " " (us ++ [w ++ "\n"]) := by rw [e]; exact sp_last
      rw [er]
      refine odd_txt ⟨by simp, by rw [List.length_append]; show us.length + 1 ≤ 2000; omega, fun z hz => ?_⟩ ?_
      · rcases List.mem_append.mp hz with hz | hz
        · exact pw.2.2 z (by rw [e]; exact List.mem_append_left _ hz)
        · rw [List.mem_singleton.mp hz]; exact pn
      · by_cases q : resOf (us ++ [w ++ "\n"]) = .non
        · exact q
        · exact absurd ((res_non q).good (w ++ "\n") (by simp)) nl_bad
    · rw [repl_sp pw]
      refine odd_txt ⟨?_, by have := dbl_len ws; omega, fun z hz => ?_⟩ (no_empty ?_)
      · intro e
        match ws, h.two_le with
        | a :: b :: r, _ => cases e
      · rcases dbl_mem ws z hz with rfl | hz
        · exact pw_nil
        · exact pw.2.2 z hz
      · match ws, h.two_le with
        | a :: b :: r, _ => exact List.mem_cons_of_mem _ List.mem_cons_self
    · exact odd_flat _ (fun M => ⟨by show "list" ∈ tys; decide, rfl⟩) (fun z e => by cases e) rfl rfl
end K03
set_option maxHeartbeats 1000000
namespace K03
open PySem L2 DL DX TL CM
/-- the box and the table of the lambdas stand -/
def J (V : Ev) (p : Addr) (M : Mh) : Prop := M p = some .box ∧ M V.P = some (.tab lamQ)
theorem J.ex {V : Ev} {p : Addr} {M M' : Mh} (h : J V p M) (e : ExM M M') : J V p M' := ⟨e _ _ h.1, e _ _ h.2⟩
section
variable {V : Ev} {p : Addr} {M : Mh} {De : DEnds} {kx : XKd} {Γ : DL.Env} {k : DK}
theorem got_read (hok : V.ok (V.G "InvalidTest")) {x : D} (hx : RdOk x) {me : ME} (hme : ∀ (k' : DK) (kx' : XKd), k' x M → me Γ M k' kx') (hP : M V.P = some (.tab lamQ))
    (h1 : readD x ≠ .non → ∀ M', ExM M M' → k (.tup [.str "", readD x]) M') (h2 : readD x = .non → ∀ M', ExM M M' → k (.tup [.str "InvalidTest", x]) M') :
    mGot V.P lamQ V.ok CM.sField (mCall (sRead V.G) (mCons me mNil)) Γ M k kx := by
  refine ⟨hP, hme _ _ ⟨x, rfl, hx, fun M' ex hn => h1 hn M' ex, fun hn M' ex => ⟨_, ["given", "code"], [x, .str "InvalidTest"], rfl, rfl, rfl, hok, fun a dd => ⟨.str "InvalidTest", rfl, ["given", "code"], [x, .str "InvalidTest"], "InvalidTest", x, rfl, rfl, ?_, sz2, h2 hn M' ex⟩⟩⟩⟩
  unfold fieldD
  rw [if_pos (by decide +kernel)]
  rfl
theorem b_name {w : Str} (h : isNameS w = true) : isNameS ("b" ++ cutS w none (some 5)) = true := by
  obtain ⟨j, hj, e⟩ : ∃ j, j ≤ 5 ∧ tl (cutS w none (some 5)) = (tl w).take j := by
    refine ⟨min 5 w.length - 0, by omega, ?_⟩
    have e1 : HT.sIx w.length w.length (some 5) = min 5 w.length := HT.sIx_nat _ _ 5
    show (((w.cps.toList.drop (HT.sIx w.length 0 none)).take (HT.sIx w.length w.length (some 5) - HT.sIx w.length 0 none)).toArray).toList = _
    rw [e1]
    show (w.cps.toList.drop 0).take (min 5 w.length - 0) = _
    rfl
  have et : tl ("b" ++ cutS w none (some 5)) = 98 :: (tl w).take j := by
    rw [tl_append, e]
    rfl
  have hl := isNameS_len h
  unfold isNameS at h ⊢
  rw [Bool.and_eq_true] at h
  have hz : ("b" ++ cutS w none (some 5)).length = 1 + ((tl w).take j).length := by rw [len_tl, et, List.length_cons, Nat.add_comm]
  have hj2 : ((tl w).take j).length ≤ 5 := by rw [List.length_take]; omega
  rw [decide_eq_true (show 1 ≤ ("b" ++ cutS w none (some 5)).length by omega), decide_eq_true (show ("b" ++ cutS w none (some 5)).length ≤ 6 by omega)]
  show (tl ("b" ++ cutS w none (some 5))).all _ = true
  rw [et, List.all_cons, Bool.and_eq_true]
  refine ⟨by decide +kernel, List.all_eq_true.mpr fun c hc => List.all_eq_true.mp h.2 c (List.mem_of_mem_take hc)⟩
theorem cut_to (ws : List Str) (a : Nat) (h : a ≤ ws.length) : cutD (ws.map D.str) none (some (a : Int)) = (ws.take a).map D.str := by
  unfold cutD
  rw [HT.sIx_nat, HT.sIx_none, List.length_map, Nat.min_eq_left h, List.map_take]
  rfl
theorem cut_from (ws : List Str) (a : Nat) (h : a ≤ ws.length) : cutD (ws.map D.str) (some (a : Int)) none = (ws.drop a).map D.str := by
  unfold cutD
  rw [HT.sIx_nat, HT.sIx_none, List.length_map, Nat.min_eq_left h, ← List.map_drop]
  exact List.take_of_length_le (by rw [List.length_map, List.length_drop]; omega)
variable {x0 x2 x3 x4 x5 x6 x7 x8 x9 x10 x11 x12 x13 : Option D}
/-- the names, the test, its text -/
theorem piece123 (hJ : J V p M) (rest : MS)
    (h : ∀ w (m : Nat) t ws, FT m t → 1 ≤ m → m ≤ 6 → PT m ws t → ws.length ≤ 200 → Wk ws → rest De [x0, some (.ref p), x2, some w, x4, some t, some (.str (Txt.join " " ws)), x7, x8, x9, x10, x11, x12, x13] M kx) :
    (mSeq (b_law_1 V) (mSeq (b_law_2 V) (mSeq (b_law_3 V) rest))) De [x0, some (.ref p), x2, x3, x4, x5, x6, x7, x8, x9, x10, x11, x12, x13] M kx := by
  refine ⟨_, rfl, p, 5, rfl, hJ.1, by decide, by decide, fun ws hl nd hg => ?_⟩
  obtain ⟨w0, w1, w2, w3, w4, rfl⟩ : ∃ w0 w1 w2 w3 w4, ws = [w0, w1, w2, w3, w4] := by
    match ws, hl with
    | [a, b, c, d, e], _ => exact ⟨a, b, c, d, e, rfl⟩
  refine ⟨sz_le (by show 5 ≤ 1000000; decide), ?_⟩
  have nm : ∀ w ∈ [w0, w1, w2, w3, w4], isNameS w = true := fun w hw => (hg w hw).1
  refine lc_map (fun d => match d with | .str w => .str ("b" ++ cutS w none (some 5)) | d => d) trivial (fun d hd => ?_) ?_
  · obtain ⟨w, hw, rfl⟩ := List.mem_map.mp hd
    have l1 := isNameS_len (nm w hw)
    refine ⟨_, rfl, fun k' hk => ⟨_, rfl, 5, rfl, sz_le (by omega), ?_, hk⟩⟩
    have l2 := isNameS_len (b_name (nm w hw))
    have : (("b" : Str) ++ cutS w none (some 5)).length = ("b" : Str).length + (cutS w none (some 5)).length := by rw [len_tl, tl_append, List.length_append, ← len_tl, ← len_tl]
    exact sz_le (by omega)
  · have five : Five (.lst [.str ("b" ++ cutS w0 none (some 5)), .str ("b" ++ cutS w1 none (some 5)), .str ("b" ++ cutS w2 none (some 5)), .str ("b" ++ cutS w3 none (some 5)), .str ("b" ++ cutS w4 none (some 5))]) _ _ _ _ _ := ⟨rfl, b_name (nm w0 (by simp)), b_name (nm w1 (by simp)), b_name (nm w2 (by simp)), b_name (nm w3 (by simp)), b_name (nm w4 (by simp))⟩
    refine ⟨_, rfl, _, rfl, _, rfl, _, rfl, p, 6, rfl, hJ.1, by decide, by decide, fun r r1 r2 => ?_⟩
    obtain ⟨rn, rfl⟩ : ∃ rn : Nat, r = (rn : Int) := ⟨r.toNat, by omega⟩
    refine ⟨p, .lst [.str ("b" ++ cutS w0 none (some 5)), .str ("b" ++ cutS w1 none (some 5)), .str ("b" ++ cutS w2 none (some 5)), .str ("b" ++ cutS w3 none (some 5)), .str ("b" ++ cutS w4 none (some 5))], _, _, _, _, _, rn + 1, by rw [show ((rn + 1 : Nat) : Int) = 1 + (rn : Int) by omega]; rfl, hJ.1, five, by omega, by omega, fun t gt => ⟨_, rfl, ?_⟩⟩
    have ft := gt.ft five.2.1 five.2.2.1 five.2.2.2.1 five.2.2.2.2.1 five.2.2.2.2.2
    obtain ⟨us, pt, hle, hw⟩ := FT.pt ft
    have hp : 2 ^ (rn + 1 + 1) ≤ 2 ^ 7 := Nat.pow_le_pow_right (by decide) (by omega)
    have wk : Wk us := ⟨by omega, hw⟩
    refine ⟨" ", rfl, _, rfl, t, us, rn + 1, rfl, pt, by omega, wk, us.map .str, us, rfl, tx_map us, wk_b wk, _, rfl, ?_⟩
    exact h _ (rn + 1) t us ft (by omega) (by omega) pt (by omega) wk
end
end K03
set_option maxHeartbeats 1000000
namespace K03
open PySem L2 DL DX TL CM
section
variable {V : Ev} {p : Addr} {M : Mh} {De : DEnds} {kx : XKd} {Γ : DL.Env} {k : DK}
variable {x0 x2 x3 x4 x5 x6 x7 x8 x9 x10 x11 x12 x13 : Option D}
theorem pick1 (d : D) : pick [(false, 0)] [] [d] = [d] := rfl
theorem piece4 {t : D} {us : List Str} {m : Nat} (hm : m ≤ 6) (pt : PT m us t) (hl : us.length ≤ 200)
    (h : ∀ M', ExM M M' → De.nx [x0, some (.ref p), x2, x3, x4, some t, some (.str (Txt.join " " us)), x7, x8, x9, x10, x11, x12, x13] M') :
    b_law_4 V De [x0, some (.ref p), x2, x3, x4, some t, some (.str (Txt.join " " us)), x7, x8, x9, x10, x11, x12, x13] M kx := by
  have pw := pt.pws (by omega)
  have wk := pw.wk
  have p6 := pt.le hm
  have er : readD (.str (Txt.join " " us)) = t := by rw [pw.read, res_pt p6]
  have nn : readD (.str (Txt.join " " us)) ≠ .non := by rw [er]; exact ne_non_of pt
  refine ⟨_, rfl, t, us, m, rfl, pt, by omega, wk, ?_⟩
  refine ⟨_, rfl, _, rfl, pw.rd, fun M1 ex1 _ => ?_, fun hn => absurd hn nn⟩
  rw [er]
  refine ⟨_, rfl, t, us, m, rfl, pt, by omega, wk, rfl, rfl, _, pick1 _, pw.rd, fun M2 ex2 _ => ?_, fun hn => absurd hn nn⟩
  rw [er]
  refine ⟨sz3, _, rfl, _, rfl, _, rfl, sz3, .lst [.str (Txt.join " " us), t, t], rfl, ?_, ?_, true, rfl, ?_⟩
  · show (true && (pureN 9 t && (pureN 9 t && true))) = true
    rw [pt.pure 9 (by omega)]
    rfl
  · show (decide (3 ≤ 1000000) && (true && (CM.shortD t && (CM.shortD t && true)))) = true
    rw [pt.shortD]
    rfl
  · exact h M2 (ex1.trans ex2)
theorem cut_len (xs : List D) (lo hi : Option Int) : (cutD xs lo hi).length ≤ xs.length := by
  unfold cutD
  rw [List.length_take, List.length_drop]
  omega
theorem piece58 {t due : D} {us : List Str} (hJ : J V p M) (pw : PWs us) (h2 : 2 ≤ us.length) (hl : us.length ≤ 200) (rest : MS)
    (h : ∀ (a j : Nat) (b : List Str) (r : D), (bents us a)[j]? = some b → PWs b → rest De [x0, some (.ref p), x2, x3, x4, x5, some (.str (Txt.join " " us)), some r, some (.int (a : Int)), some (.int (j : Int)), some (.lst (b.map .str)), some (.str (Txt.join " " b)), x12, x13] M kx) :
    (mSeq (b_law_5 V) (mSeq (b_law_6 V) (mSeq (b_law_7 V) (mSeq (b_law_8 V) rest)))) De [x0, some (.ref p), x2, x3, x4, x5, some (.str (Txt.join " " us)), x7, x8, x9, x10, x11, x12, x13] M kx := by
  refine ⟨_, rfl, _, rfl, " ", rfl, sp_ne, by have := wk_join pw.wk; rw [sizeLine_eq]; omega, ?_⟩
  rw [pw.split]
  have lm : (us.map D.str).length = us.length := List.length_map _
  refine ⟨_, rfl, _, rfl, _, rfl, _, rfl, _, rfl, p, _, rfl, hJ.1, by rw [lm]; omega, by rw [lm]; omega, fun a a0 a1 => ⟨_, rfl, p, 5, rfl, hJ.1, by decide, by decide, fun y y0 y1 => ⟨_, _, rfl, ?_⟩⟩⟩
  obtain ⟨an, rfl⟩ : ∃ an : Nat, a = (an : Int) := ⟨a.toNat, by omega⟩
  obtain ⟨yn, rfl⟩ : ∃ yn : Nat, y = (yn : Int) := ⟨y.toNat, by omega⟩
  rw [lm] at a1
  have ha : an < us.length := by omega
  have e1 : (an : Int) + 1 = ((an + 1 : Nat) : Int) := by omega
  have c1 := cut_to us an (by omega)
  have c2 := cut_from us an (by omega)
  have c3 := cut_from us (an + 1) (by omega)
  obtain ⟨b, hb⟩ : ∃ b, (bents us an)[yn]? = some b := by
    have : yn < (bents us an).length := by show yn < 5; omega
    exact ⟨_, List.getElem?_eq_getElem this⟩
  have pb := bents_ok pw h2 hl ha hb
  have sz : ∀ {n : Nat}, n ≤ 500 → n ≤ sizeLine := fun h => sz_le (by omega)
  have l1 := cut_len (us.map D.str) none (some (an : Int))
  have l2 := cut_len (us.map D.str) (some (an : Int)) none
  have l3 := cut_len (us.map D.str) (some ((an : Int) + 1)) none
  rw [lm] at l1 l2 l3
  refine ⟨_, rfl, _, rfl, _, rfl, _, rfl, _, rfl, _, rfl, _, rfl, _, rfl, _, _, rfl, rfl, sz (by omega), ?_⟩
  refine ⟨_, rfl, _, rfl, _, rfl, _, rfl, sz1, _, _, rfl, rfl, sz (by show _ + 1 ≤ _; omega), _, rfl, _, rfl, _, rfl, _, rfl, _, _, rfl, rfl, sz (by rw [List.length_append]; show _ + 1 + _ ≤ _; omega), ?_⟩
  refine ⟨_, rfl, _, rfl, _, rfl, _, rfl, sz1, _, _, rfl, rfl, sz (by show _ + 1 ≤ _; omega), _, rfl, _, rfl, _, rfl, _, rfl, _, _, rfl, rfl, sz (by rw [List.length_append]; show _ + 1 + _ ≤ _; omega), ?_⟩
  refine ⟨_, rfl, _, rfl, _, rfl, _, rfl, sz1, _, _, rfl, rfl, sz (by show _ + 1 ≤ _; omega), _, rfl, _, rfl, _, rfl, _, rfl, _, _, rfl, rfl, sz (by rw [List.length_append]; show _ + 1 + _ ≤ _; omega), ?_⟩
  refine ⟨_, rfl, sz1, _, _, rfl, rfl, sz (by rw [lm]; show _ + 1 ≤ _; omega), sz (by show 5 ≤ 500; decide), _, rfl, (yn : Int), _, .lst (b.map .str), rfl, rfl, ?_, _, rfl, ?_⟩
  · refine at_of' (j := yn) rfl ?_
    have e : ∀ (l : List D), l = (bents us an).map (fun z => D.lst (z.map D.str)) → l[yn]? = some (.lst (b.map .str)) := fun l e => by rw [e, List.getElem?_map, hb]; rfl
    refine e _ ?_
    rw [e1, c1, c2, c3]
    simp only [bents, List.map_cons, List.map_nil, List.map_append]
  · refine ⟨" ", rfl, _, rfl, _, b, rfl, tx_map b, wk_b pb.wk, _, rfl, ?_⟩
    exact h an yn b _ hb pb
end
end K03
set_option maxHeartbeats 1000000
namespace K03
open PySem L2 DL DX TL CM
section
variable {V : Ev} {p : Addr} {M : Mh} {De : DEnds} {kx : XKd} {Γ : DL.Env} {k : DK}
variable {x0 x2 x3 x4 x5 x6 x7 x8 x9 x10 x11 x12 x13 : Option D}
theorem eqv_bad (s : Str) : PyData.eqv (.tuple [.str "InvalidTest", .str s]) (.tuple [.str "InvalidTest", .str s]) = true := by
  show ((("InvalidTest" : Str) == "InvalidTest") && ((s == s) && true)) = true
  rw [beq_self_eq_true, beq_self_eq_true]
  rfl
theorem piece9 (hok : V.ok (V.G "InvalidTest")) {b : List Str} {j : Nat} (hJ : J V p M) (pb : PWs b) (hj : 2 ≤ j → resOf b = .non)
    (h : ∀ M', ExM M M' → De.nx [x0, some (.ref p), x2, x3, x4, x5, x6, x7, x8, some (.int (j : Int)), x10, some (.str (Txt.join " " b)), x12, x13] M') :
    b_law_9 V De [x0, some (.ref p), x2, x3, x4, x5, x6, x7, x8, some (.int (j : Int)), x10, some (.str (Txt.join " " b)), x12, x13] M kx := by
  have lt := join_lt pb.2.2
  unfold b_law_9 mIfS mAnd mTest mOp
  refine got_read hok pb.rd (fun k' kx' hk => ⟨_, rfl, hk⟩) hJ.2 (fun hn M' ex => ?_) fun hn M' ex => ?_
  · rw [pb.read] at hn ⊢
    have pt := res_non hn
    obtain ⟨x, hx⟩ := deep_good pt
    have hj1 : ¬ 2 ≤ j := fun g => hn (hj g)
    refine ⟨_, rfl, sz2, _, _, hx, deep_bad lt, _, rfl, ?_⟩
    generalize (if true = true then !PyData.eqv _ _ else PyData.eqv _ _) = c
    cases c with
    | false => exact h M' ex
    | true =>
      refine ⟨_, rfl, _, _, rfl, rfl, trivial, _, rfl, ?_⟩
      rw [show decide ((1 : Int) < (j : Int)) = false from decide_eq_false (by omega)]
      exact h M' ex
  · refine ⟨_, rfl, sz2, _, _, deep_bad lt, deep_bad lt, _, rfl, ?_⟩
    rw [eqv_bad]
    exact h M' ex
theorem piece1011 (hok : V.ok (V.G "InvalidTest")) {b : List Str} (hJ : J V p M) (pb : PWs b) (rest : MS)
    (h : ∀ M' z, ExM M M' → rest De [x0, some (.ref p), x2, x3, x4, x5, x6, x7, x8, x9, x10, some (.str (Txt.join " " b)), some z, x13] M' kx) :
    (mSeq (b_law_10 V) (mSeq (b_law_11 V) rest)) De [x0, some (.ref p), x2, x3, x4, x5, x6, x7, x8, x9, x10, some (.str (Txt.join " " b)), x12, x13] M kx := by
  unfold mSeq b_law_10 mAsg
  refine got_read hok pb.rd (fun k' kx' hk => ⟨_, rfl, hk⟩) hJ.2 (fun hn M' ex => ?_) fun hn M' ex => ?_
  · rw [pb.read] at hn ⊢
    have pt := res_non hn
    refine ⟨_, rfl, _, rfl, 0, _, _, rfl, rfl, at_of' (j := 0) rfl rfl, _, rfl, ?_⟩
    rw [show (if false = true then !decide (("" : Str) = "") else decide (("" : Str) = "")) = true by decide +kernel]
    refine ⟨_, rfl, 1, _, _, rfl, rfl, at_of' (j := 1) rfl rfl, _, b, 6, rfl, pt, by decide, pb.wk, _, rfl, _, rfl, ?_⟩
    rw [show (if true = true then !decide (Txt.join " " b = Txt.join " " b) else decide (Txt.join " " b = Txt.join " " b)) = false by rw [if_pos rfl, decide_eq_true rfl]; rfl]
    exact h M' _ ex
  · refine ⟨_, rfl, _, rfl, 0, _, _, rfl, rfl, at_of' (j := 0) rfl rfl, _, rfl, ?_⟩
    rw [show (if false = true then !decide (("InvalidTest" : Str) = "") else decide (("InvalidTest" : Str) = "")) = false by decide +kernel]
    exact h M' _ ex
theorem len_app (a b : Str) : (a ++ b).length = a.length + b.length := by rw [len_tl, tl_append, List.length_append, ← len_tl, ← len_tl]
theorem piece1213 (hok : V.ok (V.G "InvalidTest")) {t : D} {us : List Str} (hJ : J V p M) (pt : PT 6 us t) (hl : us.length ≤ 200) (rest : MS)
    (h : ∀ M' z, ExM M M' → rest De [x0, some (.ref p), x2, x3, x4, x5, some (.str (Txt.join " " us)), x7, x8, x9, x10, x11, x12, some z] M' kx) :
    (mSeq (b_law_12 V) (mSeq (b_law_13 V) rest)) De [x0, some (.ref p), x2, x3, x4, x5, some (.str (Txt.join " " us)), x7, x8, x9, x10, x11, x12, x13] M kx := by
  have pw := pt.pws (by omega)
  have lj := wk_join pw.wk
  have n1 : ("\n" : Str).length = 1 := by decide +kernel
  have n2 : ("  " : Str).length = 2 := by decide +kernel
  have sz : ∀ {n : Nat}, n ≤ 5000000 → n ≤ sizeLine := fun h => by rw [sizeLine_eq]; omega
  refine ⟨_, rfl, _, rfl, sz (by rw [sp1]; omega), ?_⟩
  refine ⟨_, rfl, sz (by rw [sp1]; omega), ?_⟩
  refine ⟨_, rfl, sz (by rw [sp1]; omega), _, rfl, sz (by rw [len_app, sp1]; omega), ?_⟩
  refine ⟨_, rfl, sz (by rw [n1]; omega), ?_⟩
  refine ⟨_, rfl, _, rfl, by rw [n2]; omega, ?_⟩
  refine ⟨_, rfl, sz1, sz (by show 6 ≤ _; decide), p, _, _, rfl, hJ.1, rfl, by show 6 ≤ 1000; decide, fun x hx => ⟨_, rfl, ?_⟩⟩
  obtain ⟨o1, o2, o3, o4⟩ := odds pt hl x hx
  show mSeq (b_law_13 V) rest De [x0, some (.ref p), x2, x3, x4, x5, some (.str (Txt.join " " us)), x7, x8, x9, x10, x11, x12, some x] M kx
  unfold mSeq b_law_13 mIfS mNot mTest mCall mCons
  refine got_read (me := mVar 13) hok o1 (fun k' kx' hk => ⟨_, rfl, hk⟩) hJ.2 (fun hn => absurd o2 hn) fun hn M' ex => ?_
  refine ⟨_, rfl, sz2, .tup [.str "InvalidTest", x], rfl, ?_, ?_, true, rfl, ?_⟩
  · show (true && (pureN 9 x && true)) = true
    rw [o3]
    rfl
  · show (decide (2 ≤ 1000000) && (true && (CM.shortD x && true))) = true
    rw [o4]
    rfl
  · exact h M' _ ex
theorem piece14 (hok : V.ok (V.G "InvalidTest")) {t : D} {us : List Str} {m : Nat} (hJ : J V p M) (ft : FT m t) (hm : m ≤ 6) (pt : PT m us t) (hl : us.length ≤ 200)
    (h : ∀ M', ExM M M' → De.nx [x0, some (.ref p), x2, x3, x4, some t, some (.str (Txt.join " " us)), x7, x8, x9, x10, x11, x12, x13] M') :
    b_law_14 V De [x0, some (.ref p), x2, x3, x4, some t, some (.str (Txt.join " " us)), x7, x8, x9, x10, x11, x12, x13] M kx := by
  have pw := pt.pws (by omega)
  have lj := wk_join pw.wk
  have n4 : ("not " : Str).length = 4 := by decide +kernel
  have sz : ∀ {n : Nat}, n ≤ 5000000 → n ≤ sizeLine := fun h => by rw [sizeLine_eq]; omega
  have pn : PWs ("not" :: us) := ⟨by simp, by rw [List.length_cons]; omega, fun w hw => (List.mem_cons.mp hw).elim (fun e => by rw [e]; exact pw_not) (pw.2.2 w)⟩
  have et : ("not " : Str) ++ Txt.join " " us = Txt.join " " ("not" :: us) := sp_not pw.1
  unfold b_law_14 mIfS mNot mTest mCall mCons
  refine got_read (x := .str ("not " ++ Txt.join " " us)) (me := mOp dAdd (mC (.str "not ")) (mVar 6)) hok (by rw [et]; exact pn.rd) (fun k' kx' hk => ⟨_, rfl, sz (by rw [n4]; omega), hk⟩) hJ.2 (fun hn M' ex => ?_) fun hn M' ex => ?_
  · rw [et, pn.read] at hn ⊢
    have p2 := res_non hn
    have hm5 : m < 6 := by
      cases Nat.lt_or_ge m 6 with
      | inl g => exact g
      | inr g =>
        exfalso
        have em : m = 6 := by omega
        subst em
        have e : resOf ("not" :: us) = .tup [.str "not", t] := res_pt (by
          generalize resOf ("not" :: us) = r at p2
          cases p2 with
          | @not _ _ d p3 =>
            have := (pt.uniq p3.up (r := []) (r' := []) rfl).2
            subst this
            exact .not p3
          | two hh _ _ => rcases hh with e | e <;> exact absurd e (by decide))
        rw [e] at p2
        have := p2.isT
        rw [is_not, ft.isT 5] at this
        exact absurd this (by decide)
    have e : resOf ("not" :: us) = .tup [.str "not", t] := res_pt (.not (pt.le (by omega)))
    rw [e]
    refine ⟨_, rfl, t, m, rfl, ft, by omega, _, _, rfl, rfl, trivial, _, rfl, ?_⟩
    rw [show decide ((m : Int) < 6) = true from decide_eq_true (by omega)]
    refine ⟨_, rfl, sz2, sz2, .tup [.str "", .tup [.str "not", t]], rfl, ?_, ?_, true, rfl, ?_⟩
    · show (true && ((true && (pureN 8 t && true)) && true)) = true
      rw [pt.pure 8 (by omega)]
      rfl
    · show (decide (2 ≤ 1000000) && (true && ((decide (2 ≤ 1000000) && (true && (CM.shortD t && true))) && true))) = true
      rw [pt.shortD]
      rfl
    · exact h M' ex
  · rw [et, pn.read] at hn
    have hm6 : ¬ m < 6 := fun g => by
      rw [res_pt (.not (pt.le (show m ≤ 5 by omega)))] at hn
      cases hn
    refine ⟨_, rfl, t, m, rfl, ft, by omega, _, _, rfl, rfl, trivial, _, rfl, ?_⟩
    rw [show decide ((m : Int) < 6) = false from decide_eq_false (by omega)]
    refine ⟨_, rfl, sz (by rw [n4]; omega), sz2, .tup [.str "InvalidTest", .str ("not " ++ Txt.join " " us)], rfl, rfl, rfl, true, rfl, ?_⟩
    exact h M' ex
end
end K03
set_option maxHeartbeats 1000000
namespace K03
open PySem L2 DL DX TL CM LamX
def sLaw (V : Ev) : MF := fun ds M k _ => ∃ ns : List Int, ds = [.scr ns] ∧ ns.length ≤ 63 ∧ M V.P = some (.tab lamQ) ∧ V.ok (V.G "InvalidTest") ∧ ∀ M', k (.bl true) M'
theorem one_turn {V : Ev} {p : Addr} {M : Mh} {De : DEnds} {x0 x2 x3 x4 x5 x6 x7 x8 x9 x10 x11 x12 x13 : Option D} (hok : V.ok (V.G "InvalidTest")) (hJ : J V p M)
    (h : ∀ M' x3 x4 x5 x6 x7 x8 x9 x10 x11 x12 x13, J V p M' → De.nx [x0, some (.ref p), x2, x3, x4, x5, x6, x7, x8, x9, x10, x11, x12, x13] M') :
    (mSeq (b_law_1 V) (mSeq (b_law_2 V) (mSeq (b_law_3 V) (mSeq (b_law_4 V) (mSeq (b_law_5 V) (mSeq (b_law_6 V) (mSeq (b_law_7 V) (mSeq (b_law_8 V) (mSeq (b_law_9 V) (mSeq (b_law_10 V) (mSeq (b_law_11 V) (mSeq (b_law_12 V) (mSeq (b_law_13 V) (b_law_14 V)))))))))))))) De [x0, some (.ref p), x2, x3, x4, x5, x6, x7, x8, x9, x10, x11, x12, x13] M noX := by
  refine piece123 hJ _ fun w m t ws ft m1 m6 pt hl wk => ?_
  have pt6 := pt.le m6
  have pw := pt.pws (by omega)
  refine piece4 m6 pt hl fun M1 ex1 => ?_
  have J1 := hJ.ex ex1
  refine piece58 (t := t) (due := t) J1 pw pt.two_le hl _ fun a j b r hb pb => ?_
  refine piece9 hok J1 pb (fun g => bents_no pt6 g hb) fun M2 ex2 => ?_
  have J2 := J1.ex ex2
  refine piece1011 hok J2 pb _ fun M3 z ex3 => ?_
  have J3 := J2.ex ex3
  refine piece1213 hok J3 pt6 hl _ fun M4 z ex4 => ?_
  have J4 := J3.ex ex4
  exact piece14 hok J4 ft m6 pt hl fun M5 ex5 => h _ _ _ _ _ _ _ _ _ _ _ _ (J4.ex ex5)
theorem law_ok {V : Ev} (ds : List D) (M : Mh) (k : DK) (kx : XKd) (h : sLaw V ds M k kx) : b_law V { nx := fun _ M' => k .non M', rt := k } (startD 14 ds) M noX := by
  obtain ⟨ns, rfl, hl, hP, hok, hk⟩ := h
  refine ⟨_, rfl, ns, rfl, hl, fun p hp => ⟨_, rfl, ?_⟩⟩
  have hJ : J V p (DL.setM M p .box) := ⟨setM_at _ _ _, ExM.new hp _ _ _ hP⟩
  generalize DL.setM M p .box = M1 at hJ
  refine ⟨6, rfl, by decide, by decide, ?_⟩
  refine for_inv (fun Γ M' => J V p M' ∧ ∃ x0 x2 x3 x4 x5 x6 x7 x8 x9 x10 x11 x12 x13, Γ = [x0, some (.ref p), x2, x3, x4, x5, x6, x7, x8, x9, x10, x11, x12, x13]) _ ⟨hJ, _, _, _, _, _, _, _, _, _, _, _, _, _, rfl⟩ ?_ ?_
  · rintro d hd Γ M' ⟨hJ', x0, x2, x3, x4, x5, x6, x7, x8, x9, x10, x11, x12, x13, rfl⟩
    refine ⟨trivial, _, rfl, fun nx hnx => ?_⟩
    exact one_turn hok hJ' fun M2 _ _ _ _ _ _ _ _ _ _ _ j2 => hnx _ _ ⟨j2, _, _, _, _, _, _, _, _, _, _, _, _, _, rfl⟩
  · rintro Γ M' ⟨_, _⟩
    exact ⟨trivial, hk _⟩
end K03
set_option maxHeartbeats 1000000
namespace K03
open PySem L2 DL DX TL CM LamX
/-! ### all together -/
theorem facts {w : World} {K : PySem.W.Frag} {h : Heap} {mg : Str → Option Value} {f : Addr} (X : K.In h) (G : h.Ns mainGlobals mg) (hlw : mg ("law" : Str) = some (.ref f)) (c : DX.SaysI hfa hfn hts [("law", none)] hex hins w h K) :
    LamX.LawAtS PySem.Challenge.rw_bothlots_k03_texts_of_tests w K CX0 30 63 "_law_script" mg f h := by
  have T := txt X G c
  obtain ⟨fd_is_name, F_is_name⟩ := F_is_name c
  obtain ⟨fd_is_column_name, F_is_column_name⟩ := F_is_column_name c
  obtain ⟨fd_is_test, F_is_test⟩ := F_is_test c
  obtain ⟨fd_test_text, F_test_text⟩ := F_test_text c
  obtain ⟨fd_test_at, F_test_at⟩ := F_test_at c
  obtain ⟨fd_test_of, F_test_of⟩ := F_test_of c
  obtain ⟨fd_read_test, F_read_test⟩ := F_read_test c
  obtain ⟨fd__law_box, F__law_box⟩ := F__law_box c
  obtain ⟨fd__law_pull, F__law_pull⟩ := F__law_pull c
  obtain ⟨fd__law_of, F__law_of⟩ := F__law_of c
  obtain ⟨fd__law_names, F__law_names⟩ := F__law_names c
  obtain ⟨fd__law_same, F__law_same⟩ := F__law_same c
  obtain ⟨fd__law_field, F__law_field⟩ := F__law_field c
  obtain ⟨fd__law_odd, F__law_odd⟩ := F__law_odd c
  obtain ⟨fd__law_free_test, F__law_free_test⟩ := F__law_free_test c
  obtain ⟨fd__law_test_words, F__law_test_words⟩ := F__law_test_words c
  obtain ⟨fd__law_deep, F__law_deep⟩ := F__law_deep c
  obtain ⟨fd_law, F_law⟩ := F_law c
  obtain ⟨fd__law_got, F__law_got⟩ := F__law_got c
  have e := hlw.symm.trans (g_law X G c)
  cases e
  have b := FunD.bindsA (ps := ["_law_script"]) F_law fun _ _ _ _ _ _ us hl => match us, hl with | [_], _ => rfl
  have hcd := DX.code_of F_law
  refine ⟨fd_law, [He.cT K ("law", none)], DL.spI K (sLaw ⟨He.ga K, DX.okE K, (He.cT K ("law", none)).2⟩), fun q hq => ?_, fun q hq => ?_, fun q hq => ?_, fun s v => b s [v] rfl, fun H a ns hl _ hH hS => DX.law_startT (hH _ (List.mem_singleton.mpr rfl)) hS fun M hM => ⟨ns, rfl, hl, hM, X_InvalidTest c, fun _ => rfl⟩, fun base _ _ TBs => ?_⟩
  · rw [List.mem_singleton.mp hq]; exact c.x.empty _ (List.mem_singleton.mpr rfl)
  · rw [List.mem_singleton.mp hq]; exact c.x.out _ (List.mem_singleton.mpr rfl)
  · rw [List.mem_singleton.mp hq]; exact PySem.W.codeHd_of_K X (c.x.hd _ (List.mem_singleton.mpr rfl))
  have TB := TBs _ (List.mem_singleton.mpr rfl)
  have GD : ∀ kk, DX.GotD hP w K mg base (kk + 1) CM.sField := fun kk => ⟨⟨"_law_ask", "_law_e", "_law_e", defScope st__law_got, defArgs st__law_got, _, _, fd__law_got, fd__law_field, _, _, _, _, DX.gotPos (defBody st__law_got), F__law_got, g__law_got X G c, B__law_got_1 F__law_got, ⟨rfl, rfl, rfl, by decide +kernel, rfl, by decide +kernel, by decide +kernel⟩, ⟨by decide, by decide, by decide, by decide⟩, rfl, rfl, ⟨rfl, rfl, rfl, rfl⟩, ok__law_field F__law_field, g__law_field X G c, F__law_field.kp, B__law_field_1 F__law_field⟩, gc_LotsError X G c, gc_Missing X G c, gc_NothingLeft X G c⟩
  have D_is_name : Df hP w K mg base CX0 1 _ fd_is_name "is_name" ["value"] CM.sIsName := ⟨ok_is_name (k := 0) F_is_name T  (fun _ _ _ _ ⟨_,  e, _⟩ => by rw [e]; rfl) CM.is_name_ok, g_is_name X G c, F_is_name.kp⟩
  have D_is_column_name : Df hP w K mg base CX0 2 _ fd_is_column_name "is_column_name" ["value"] CM.sIsColName := ⟨ok_is_column_name (k := 1) F_is_column_name T D_is_name (by first | decide | omega) (B_is_name_1 F_is_name) (fun _ _ _ _ ⟨_,  e, _⟩ => by rw [e]; rfl) CM.col_ok, g_is_column_name X G c, F_is_column_name.kp⟩
  have D_is_test : ∀ n : Nat, Df hP w K mg base CX0 (n + 2) _ fd_is_test "is_test" ["value", "deep"] (CM.sIsTest n) := fun n => by
    induction n with
    | zero => exact ⟨fn_false fun _ _ _ _ ⟨_, m, _, _, q, _⟩ => (by omega), g_is_test X G c, F_is_test.kp⟩
    | succ n ih => exact ⟨ok_is_test (k := n + 2) F_is_test T D_is_column_name (by first | decide | omega) D_is_name (by first | decide | omega) ih (by first | decide | omega) (B_is_column_name_1 F_is_column_name) (B_is_name_1 F_is_name) (B_is_test_1_deep F_is_test) (fun _ _ _ _ ⟨_, _, _,  e, _⟩ => by rw [e]; rfl) (CM.test_ok n), g_is_test X G c, F_is_test.kp⟩
  have D_test_text : ∀ n : Nat, Df hP w K mg base CX0 (n + 1) _ fd_test_text "test_text" ["test"] (sText n) := fun n => by
    induction n with
    | zero => exact ⟨fn_false fun _ _ _ _ ⟨_, _, m, _, q1, q2, _⟩ => (by have := q1.pos; omega), g_test_text X G c, F_test_text.kp⟩
    | succ n ih => exact ⟨ok_test_text (k := n + 1) F_test_text T ih (by first | decide | omega) (B_test_text_1 F_test_text) (fun _ _ _ _ ⟨_, _, _,  e, _⟩ => by rw [e]; rfl) (text_ok n), g_test_text X G c, F_test_text.kp⟩
  have D_test_at : ∀ n : Nat, Df hP w K mg base CX0 (n + 12) _ fd_test_at "test_at" ["words", "at", "deep"] (sAt n) := fun n => by
    induction n with
    | zero => exact ⟨fn_false fun _ _ _ _ ⟨_, _, m, _, q, _⟩ => (by omega), g_test_at X G c, F_test_at.kp⟩
    | succ n ih => exact ⟨ok_test_at (k := n + 12) F_test_at T (D_is_test 7) (by first | decide | omega) ih (by first | decide | omega) (B_is_test_1 F_is_test) (B_test_at_3 F_test_at) (fun _ _ _ _ ⟨_, _, _,  e, _⟩ => by rw [e]; rfl) (at_ok n), g_test_at X G c, F_test_at.kp⟩
  have D_test_of : Df hP w K mg base CX0 20 _ fd_test_of "test_of" ["words"] sTestOf := ⟨ok_test_of (k := 19) F_test_of T (D_test_at 7) (by first | decide | omega) (B_test_at_3 F_test_at) (fun _ _ _ _ ⟨_,  e, _⟩ => by rw [e]; rfl) of_ok, g_test_of X G c, F_test_of.kp⟩
  have D_read_test : Df hP w K mg base (L2.CX hP w) 21 _ fd_read_test "read_test" ["text"] (sRead (He.ga K)) := ⟨ok_read_test (k := 20) F_read_test T D_test_of (by first | decide | omega) (E_InvalidTest X G c base) (by first | decide | omega) (B_test_of_1 F_test_of) (show DX.EvD K ⟨He.ga K, DX.okE K, (He.cT K ("law", none)).2⟩ from ⟨rfl, rfl⟩) (fun _ _ _ _ ⟨_,  e, _⟩ => by rw [e]; rfl) (read_ok (V := ⟨He.ga K, DX.okE K, (He.cT K ("law", none)).2⟩)), g_read_test X G c, F_read_test.kp⟩
  have D__law_box : Df hP w K mg base CX0 1 _ fd__law_box "_law_box" ["_law_script"] sBox := ⟨box_box (m := fun ds M k _ => ds.length = 1 ∧ CM.b__law_box { nx := fun _ M' => k .non M', rt := k } (startD 3 ds) M noX) (ok__law_box (k := 0) F__law_box T (fun _ _ _ _ q => q.1) fun _ _ _ _ q => q.2) fun ns M k hl hk => ⟨rfl, CM.box_body ns M k hl hk⟩, g__law_box X G c, F__law_box.kp⟩
  have D__law_pull : Df hP w K mg base CX0 1 _ fd__law_pull "_law_pull" ["_law_box_here", "_law_many"] sPull := ⟨pull_box (m := fun ds M k _ => ds.length = 2 ∧ CM.b__law_pull { nx := fun _ M' => k .non M', rt := k } (startD 5 ds) M noX) (ok__law_pull (k := 0) F__law_pull T (fun _ _ _ _ q => q.1) fun _ _ _ _ q => q.2) fun b n ds M k h1 h2 h3 h4 h5 => ⟨rfl, CM.pull_body b n ds M k h1 h2 h3 h4 h5⟩, g__law_pull X G c, F__law_pull.kp⟩
  have D__law_of : Df hP w K mg base CX0 2 _ fd__law_of "_law_of" ["_law_box_here", "_law_some"] CM.sOf := ⟨ok__law_of (k := 1) F__law_of T D__law_pull (by first | decide | omega) (B__law_pull_2 F__law_pull) (fun _ _ _ _ ⟨_, _, _,  e, _⟩ => by rw [e]; rfl) CM.of_ok, g__law_of X G c, F__law_of.kp⟩
  have D__law_names : Df hP w K mg base CX0 3 _ fd__law_names "_law_names" ["_law_box_here", "_law_many"] CM.sNames := ⟨ok__law_names (k := 2) F__law_names T D__law_of (by first | decide | omega) D__law_pull (by first | decide | omega) (B__law_of_2 F__law_of) (B__law_pull_2 F__law_pull) (fun _ _ _ _ ⟨_, _,  e, _⟩ => by rw [e]; rfl) CM.names_ok, g__law_names X G c, F__law_names.kp⟩
  have D__law_same : ∀ n : Nat, Df hP w K mg base CX0 (n + 1) _ fd__law_same "_law_same" ["_law_found", "_law_due"] (CM.sSame n) := fun n => by
    induction n with
    | zero => exact ⟨fn_false fun _ _ _ _ ⟨d, _, q, _⟩ => (by rw [CM.pureN] at q; exact Bool.false_ne_true q), g__law_same X G c, F__law_same.kp⟩
    | succ n ih => exact ⟨ok__law_same (k := n + 1) F__law_same T ih (by first | decide | omega) (B__law_same_2 F__law_same) (fun _ _ _ _ ⟨_,  e, _⟩ => by rw [e]; rfl) (CM.same_ok n), g__law_same X G c, F__law_same.kp⟩
  have D__law_odd : Df hP w K mg base CX0 3 _ fd__law_odd "_law_odd" ["_law_box_here", "_law_more"] CM.sOdd := ⟨ok__law_odd (k := 2) F__law_odd T D__law_of (by first | decide | omega) (B__law_of_2 F__law_of) (fun _ _ _ _ ⟨_, _, _,  e, _⟩ => by rw [e]; rfl) CM.odd_ok, g__law_odd X G c, F__law_odd.kp⟩
  have D__law_free_test : ∀ n : Nat, Df hP w K mg base CX0 (n + 2) _ fd__law_free_test "_law_free_test" ["_law_box_here", "_law_words", "_law_deep_here"] (CM.sGrow n) := fun n => by
    induction n with
    | zero => exact ⟨fn_false fun _ _ _ _ ⟨_, _, _, _, _, _, _, m, _, _, _, q1, q2, _⟩ => (by omega), g__law_free_test X G c, F__law_free_test.kp⟩
    | succ n ih => exact ⟨ok__law_free_test (k := n + 2) F__law_free_test T D__law_of (by first | decide | omega) D__law_pull (by first | decide | omega) ih (by first | decide | omega) (B__law_of_2 F__law_of) (B__law_pull_2 F__law_pull) (B__law_free_test_3 F__law_free_test) (fun _ _ _ _ ⟨_, _, _, _, _, _, _, _,  e, _⟩ => by rw [e]; rfl) (CM.grow_ok n), g__law_free_test X G c, F__law_free_test.kp⟩
  have D__law_test_words : ∀ n : Nat, Df hP w K mg base CX0 (n + 1) _ fd__law_test_words "_law_test_words" ["_law_test"] (sWords n) := fun n => by
    induction n with
    | zero => exact ⟨fn_false fun _ _ _ _ ⟨_, _, m, _, q1, q2, _⟩ => (by have := q1.pos; omega), g__law_test_words X G c, F__law_test_words.kp⟩
    | succ n ih => exact ⟨ok__law_test_words (k := n + 1) F__law_test_words T ih (by first | decide | omega) (B__law_test_words_1 F__law_test_words) (fun _ _ _ _ ⟨_, _, _,  e, _⟩ => by rw [e]; rfl) (words_ok n), g__law_test_words X G c, F__law_test_words.kp⟩
  have D__law_deep : ∀ n : Nat, Df hP w K mg base CX0 (n + 1) _ fd__law_deep "_law_deep" ["_law_test"] (sDeep n) := fun n => by
    induction n with
    | zero => exact ⟨fn_false fun _ _ _ _ ⟨_, m, _, q1, q2, _⟩ => (by have := q1.pos; omega), g__law_deep X G c, F__law_deep.kp⟩
    | succ n ih => exact ⟨ok__law_deep (k := n + 1) F__law_deep T ih (by first | decide | omega) (B__law_deep_1 F__law_deep) (fun _ _ _ _ ⟨_, _,  e, _⟩ => by rw [e]; rfl) (deep_ok n), g__law_deep X G c, F__law_deep.kp⟩
  exact ok_law (P := hP) (V := ⟨He.ga K, DX.okE K, (He.cT K ("law", none)).2⟩) (k := 29) F_law T D__law_box (by first | decide | omega) D__law_names (by first | decide | omega) (D__law_free_test 6) (by first | decide | omega) D__law_pull (by first | decide | omega) (D__law_test_words 7) (by first | decide | omega) (D__law_same 10) (by first | decide | omega) D_read_test (by first | decide | omega) (D_test_text 7) (by first | decide | omega) D__law_odd (by first | decide | omega) (D__law_deep 7) (by first | decide | omega) (B__law_box_1 F__law_box) (B__law_names_2 F__law_names) (B__law_pull_2 F__law_pull) (B__law_free_test_3 F__law_free_test) (B__law_test_words_1 F__law_test_words) (B_test_text_1 F_test_text) (B_read_test_0_text F_read_test) (B_read_test_1 F_read_test) (B__law_same_2 F__law_same) (B__law_odd_2 F__law_odd) (B__law_deep_1 F__law_deep) (show DX.EvD K ⟨He.ga K, DX.okE K, (He.cT K ("law", none)).2⟩ from ⟨rfl, rfl⟩) (GD 25) (by first | decide | omega) TB hcd (by first | decide | omega) (fun _ _ _ _ ⟨_,  e, _⟩ => by rw [e]; rfl) law_ok
end K03
open PySem PySem.W PySem.Calls PyProof.Rows
set_option maxHeartbeats 0 in
theorem PySem.Challenge.cw_bothlots_k03_texts_of_tests_holds : PySem.Challenge.rw_bothlots_k03_texts_of_tests.Holds := by
  w_on; o_law
  o_head K03.hk
  case hw => w_witness2
  case hc =>
    refine LamX.walk_ofTsE (l := PySem.Challenge.rw_bothlots_k03_texts_of_tests) (n := 63) (k := 30) (x := "_law_script") (CX := fun _ => L2.CX0) rfl (by decide) (by kernel_rfl) ⟨rfl, by decide, by decide⟩ ?F (fun _ _ _ _ _ z => z)
    intro w mg fa h Y G hmg0
    obtain ⟨K, KX, c⟩ := Y
    have hmg : mg ("law" : PySem.Str) = some (.ref fa) := hmg0
    exact ⟨K, KX, K03.facts KX G hmg c⟩
#print axioms PySem.Challenge.cw_bothlots_k03_texts_of_tests_holds
