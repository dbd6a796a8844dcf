import PyProof.Rows.All
import Wide.All
import OpenK.AllK
import Wide.FinOn
import HandS.ForMost
import HandS.Walk
import HandS.IsInst
import HandS.Zip
import HandS.TupAny
import HandS.Flow
import HandS.Conv
import HandS.Lambda
import HandS.ExcInit
import HandS.Style
import HandS.Deep
import HandS.Defaults
import HandS.MakeKwOnly
import HandS.HeadHook4
import HandS.HeadEnd
import HandS.Head0
import HandS.Head1
import HandS.Head2
import HandS.More
import HandS.Dict
import HandS.DictComp
import HandS.Star
import HandS.ReplaceLit
import HandS.ClsMeth
import HandS.Property
import KE.KEqNest
import PyProof.EqKinds
import HandS.OwnEq
import HandS.WordsDict
import HandS.Nested
import KE.KSuper
import KE.KExcSuper
import KE.KExcInit
import KE.KTryMore
import HandS.ExcField
import HandS.HotCalls
import HandS.HeadWalk
import KE.KExcIs
import PySem.Challenge.RW_bothlots_k64_errors_and_classes
set_option Elab.async false
set_option linter.all false
set_option maxRecDepth 100000
set_option autoImplicit false
/-! DL: a layer of DATA over the hand layer. D: data (trees); Mh: the objects that may change; a body is read as a predicate transformer over D and Mh. -/
namespace DL
open PySem L2

/-! ### data -/
inductive D where
  | non | bl (b : Bool) | int (i : Int) | str (s : Str) | tup (ds : List D) | lst (ds : List D) | ref (a : Addr) | ty (n : String) | scr (ns : List Int)
  /-- an exception that is handled: where it stands, its dict, its fields -/
  | exc (a dd : Addr) (ns : List Str) (ds : List D)

mutual
/-- v shows the data d in the part F of the heap that does not change -/
def DV (K : PySem.W.Frag) (F : Hp) : D → V → Prop
  | .non, v => v = .non
  | .bl b, v => v = .bl b
  | .int i, v => v = .int i
  | .str s, v => v = .str s
  | .ty n, v => v = .ty n
  | .ref a, v => v = .ref a
  | .tup ds, v => ∃ a vs, v = .ref a ∧ SqT K F a vs ∧ DVs K F ds vs
  | .lst ds, v => ∃ a vs, v = .ref a ∧ F a = some (.lst vs) ∧ DVs K F ds vs
  | .scr ns, v => ∃ a, v = .ref a ∧ SqL K F a (ns.map V.int)
  | .exc a dd ns ds, v => v = .ref a ∧ ∃ vs, F dd = some (.xd (ns.zip vs)) ∧ DVs K F ds vs
def DVs (K : PySem.W.Frag) (F : Hp) : List D → List V → Prop
  | [], vs => vs = []
  | d :: ds, vs => ∃ v r, vs = v :: r ∧ DV K F d v ∧ DVs K F ds r
end

def Ex (H H' : Hp) : Prop := ∀ a o, H a = some o → H' a = some o
theorem Ex.refl (H : Hp) : Ex H H := fun _ _ h => h
theorem Ex.trans {H H1 H2 : Hp} (a : Ex H H1) (b : Ex H1 H2) : Ex H H2 := fun x o h => b x o (a x o h)
theorem Ex.sqT {K : PySem.W.Frag} {H H' : Hp} {a : Addr} {xs : List V} (e : Ex H H') (h : SqT K H a xs) : SqT K H' a xs := by
  rcases h with (h | ⟨o, h⟩) | h
  · exact .inl (.inl (e _ _ h))
  · exact .inl (.inr ⟨o, e _ _ h⟩)
  · exact .inr h
theorem Ex.sqL {K : PySem.W.Frag} {H H' : Hp} {a : Addr} {xs : List V} (e : Ex H H') (h : SqL K H a xs) : SqL K H' a xs := by
  rcases h with (h | ⟨o, h⟩) | h
  · exact .inl (.inl (e _ _ h))
  · exact .inl (.inr ⟨o, e _ _ h⟩)
  · exact .inr h
mutual
theorem DV.mono {K : PySem.W.Frag} {F F' : Hp} (e : Ex F F') : ∀ (d : D) {v : V}, DV K F d v → DV K F' d v
  | .non, _, h => by rw [DV] at h ⊢; exact h
  | .bl _, _, h => by rw [DV] at h ⊢; exact h
  | .int _, _, h => by rw [DV] at h ⊢; exact h
  | .str _, _, h => by rw [DV] at h ⊢; exact h
  | .ty _, _, h => by rw [DV] at h ⊢; exact h
  | .ref _, _, h => by rw [DV] at h ⊢; exact h
  | .exc _ _ _ ds, _, h => by
    rw [DV] at h ⊢
    obtain ⟨h1, vs, h2, h3⟩ := h
    exact ⟨h1, vs, e _ _ h2, DVs.mono e ds h3⟩
  | .scr _, _, h => by
    rw [DV] at h ⊢
    obtain ⟨a, h1, h2⟩ := h
    exact ⟨a, h1, e.sqL h2⟩
  | .tup ds, _, h => by
    rw [DV] at h ⊢
    obtain ⟨a, vs, h1, h2, h3⟩ := h
    exact ⟨a, vs, h1, e.sqT h2, DVs.mono e ds h3⟩
  | .lst ds, _, h => by
    rw [DV] at h ⊢
    obtain ⟨a, vs, h1, h2, h3⟩ := h
    exact ⟨a, vs, h1, e _ _ h2, DVs.mono e ds h3⟩
theorem DVs.mono {K : PySem.W.Frag} {F F' : Hp} (e : Ex F F') : ∀ (ds : List D) {vs : List V}, DVs K F ds vs → DVs K F' ds vs
  | [], _, h => by rw [DVs] at h ⊢; exact h
  | d :: ds, _, h => by
    rw [DVs] at h ⊢
    obtain ⟨v, r, h1, h2, h3⟩ := h
    exact ⟨v, r, h1, DV.mono e d h2, DVs.mono e ds h3⟩
end
section
variable {K : PySem.W.Frag} {F : Hp} {v : V} {vs : List V} {d : D} {ds : List D}
theorem dv_non : DV K F .non v ↔ v = .non := by rw [DV]
theorem dv_bl {b : Bool} : DV K F (.bl b) v ↔ v = .bl b := by rw [DV]
theorem dv_int {i : Int} : DV K F (.int i) v ↔ v = .int i := by rw [DV]
theorem dv_str {s : Str} : DV K F (.str s) v ↔ v = .str s := by rw [DV]
theorem dv_ty {s : String} : DV K F (.ty s) v ↔ v = .ty s := by rw [DV]
theorem dv_ref {a : Addr} : DV K F (.ref a) v ↔ v = .ref a := by rw [DV]
theorem dv_tup : DV K F (.tup ds) v ↔ ∃ a vs, v = .ref a ∧ SqT K F a vs ∧ DVs K F ds vs := by rw [DV]
theorem dv_lst : DV K F (.lst ds) v ↔ ∃ a vs, v = .ref a ∧ F a = some (.lst vs) ∧ DVs K F ds vs := by rw [DV]
theorem dv_exc {a dd : Addr} {ns : List Str} {ds : List D} : DV K F (.exc a dd ns ds) v ↔ v = .ref a ∧ ∃ vs, F dd = some (.xd (ns.zip vs)) ∧ DVs K F ds vs := by rw [DV]
theorem dv_scr {ns : List Int} : DV K F (.scr ns) v ↔ ∃ a, v = .ref a ∧ SqL K F a (ns.map V.int) := by rw [DV]
theorem dvs_nil : DVs K F [] vs ↔ vs = [] := by rw [DVs]
theorem dvs_cons : DVs K F (d :: ds) vs ↔ ∃ v r, vs = v :: r ∧ DV K F d v ∧ DVs K F ds r := by rw [DVs]
theorem DVs.length : ∀ {ds : List D} {vs : List V}, DVs K F ds vs → ds.length = vs.length
  | [], _, h => by rw [dvs_nil] at h; subst h; rfl
  | d :: ds, _, h => by
    obtain ⟨v, r, rfl, _, h3⟩ := dvs_cons.mp h
    rw [List.length_cons, List.length_cons, DVs.length h3]
theorem DVs.get : ∀ {ds : List D} {vs : List V} {i : Nat} {d : D}, DVs K F ds vs → ds[i]? = some d → ∃ v, vs[i]? = some v ∧ DV K F d v
  | [], _, _, _, _, e => by simp at e
  | d :: ds, _, 0, _, h, e => by
    obtain ⟨v, r, rfl, h2, h3⟩ := dvs_cons.mp h
    have e' : d = _ := Option.some.inj e
    subst e'
    exact ⟨v, rfl, h2⟩
  | d :: ds, _, i + 1, _, h, e => by
    obtain ⟨v, r, rfl, h2, h3⟩ := dvs_cons.mp h
    exact DVs.get h3 (i := i) e
theorem DVs.getV : ∀ {ds : List D} {vs : List V} {i : Nat} {v : V}, DVs K F ds vs → vs[i]? = some v → ∃ d, ds[i]? = some d ∧ DV K F d v
  | [], _, _, _, h, e => by rw [dvs_nil] at h; subst h; simp at e
  | d :: ds, _, 0, _, h, e => by
    obtain ⟨v, r, rfl, h2, h3⟩ := dvs_cons.mp h
    have e' : v = _ := Option.some.inj e
    subst e'
    exact ⟨d, rfl, h2⟩
  | d :: ds, _, i + 1, _, h, e => by
    obtain ⟨v, r, rfl, h2, h3⟩ := dvs_cons.mp h
    exact DVs.getV h3 (i := i) e
theorem DVs.append : ∀ {ds es : List D} {vs us : List V}, DVs K F ds vs → DVs K F es us → DVs K F (ds ++ es) (vs ++ us)
  | [], _, _, _, h, g => by rw [dvs_nil] at h; subst h; exact g
  | d :: ds, _, _, _, h, g => by
    obtain ⟨v, r, rfl, h2, h3⟩ := dvs_cons.mp h
    exact dvs_cons.mpr ⟨v, _, rfl, h2, DVs.append h3 g⟩
theorem DVs.take : ∀ {ds : List D} {vs : List V} (n : Nat), DVs K F ds vs → DVs K F (ds.take n) (vs.take n)
  | _, _, 0, _ => by rw [List.take_zero, List.take_zero]; exact dvs_nil.mpr rfl
  | [], _, n + 1, h => by rw [dvs_nil] at h; subst h; exact dvs_nil.mpr rfl
  | d :: ds, _, n + 1, h => by
    obtain ⟨v, r, rfl, h2, h3⟩ := dvs_cons.mp h
    exact dvs_cons.mpr ⟨v, _, rfl, h2, DVs.take n h3⟩
theorem DVs.drop : ∀ {ds : List D} {vs : List V} (n : Nat), DVs K F ds vs → DVs K F (ds.drop n) (vs.drop n)
  | _, _, 0, h => h
  | [], _, n + 1, h => by rw [dvs_nil] at h; subst h; exact dvs_nil.mpr rfl
  | d :: ds, _, n + 1, h => by
    obtain ⟨v, r, rfl, h2, h3⟩ := dvs_cons.mp h
    exact DVs.drop n h3
theorem DVs.set {d : D} {v : V} (g : DV K F d v) : ∀ {ds : List D} {vs : List V} (n : Nat), DVs K F ds vs → DVs K F (ds.set n d) (vs.set n v)
  | [], _, n, h => by rw [dvs_nil] at h; subst h; exact dvs_nil.mpr rfl
  | _ :: ds, _, 0, h => by
    obtain ⟨u, r, rfl, h2, h3⟩ := dvs_cons.mp h
    exact dvs_cons.mpr ⟨v, _, rfl, g, h3⟩
  | _ :: ds, _, n + 1, h => by
    obtain ⟨u, r, rfl, h2, h3⟩ := dvs_cons.mp h
    exact dvs_cons.mpr ⟨u, _, rfl, h2, DVs.set g n h3⟩
theorem DVs.one (h : DV K F d v) : DVs K F [d] [v] := dvs_cons.mpr ⟨v, [], rfl, h, dvs_nil.mpr rfl⟩
theorem DVs.two {d' : D} {v' : V} (h : DV K F d v) (h' : DV K F d' v') : DVs K F [d, d'] [v, v'] := dvs_cons.mpr ⟨v, [v'], rfl, h, DVs.one h'⟩
end

/-! ### the objects that may change, and the hidden ones -/
inductive MO where
  | box | lst (ds : List D) | dct (kvs : List (Key × D)) | ins (C : Addr) (fs : List (Str × D))
  /-- the table of the code objects of a def that makes lambdas, all named q -/
  | tab (q : Str)
  /-- a dict that is walked over: as the object o -/
  | lck (o : Obj) (ps : List (Key × V)) (kvs : List (Key × D))
  /-- an exception that is held as a value: at a, of the class at C, its dict at dx -/
  | exv (a dx C : Addr) (fs : List (Str × D))
abbrev Mh := Addr → Option MO
/-- the part of H that stands still: neither in M nor hidden (S) -/
def hid (M : Mh) (S H : Hp) : Hp := fun a => if (M a).isSome || (S a).isSome then none else H a
def setM (M : Mh) (a : Addr) (o : MO) : Mh := fun b => if b = a then some o else M b
def delM (M : Mh) (a : Addr) : Mh := fun b => if b = a then none else M b
def KVD (K : PySem.W.Frag) (F : Hp) {κ : Type} : List (κ × D) → List (κ × V) → Prop
  | [], vs => vs = []
  | (k, d) :: r, vs => ∃ v t, vs = (k, v) :: t ∧ DV K F d v ∧ KVD K F r t
def BoxV (K : PySem.W.Frag) (F : Hp) (vs : List V) : Prop :=
  ∃ (l : Addr) (i big mix cnt : Int) (ns : List Int), vs = [.ref l, .int i, .int big, .int mix, .int cnt] ∧ F l = some (.lst (ns.map V.int)) ∧ 0 ≤ i ∧ 0 ≤ big ∧ 0 ≤ mix ∧ mix < 2147483648
def MOR (K : PySem.W.Frag) (F : Hp) : MO → HO → Prop
  | .box, o => ∃ vs, o = .lst vs ∧ BoxV K F vs
  | .lst ds, o => ∃ vs, o = .lst vs ∧ DVs K F ds vs
  | .dct kvs, o => ∃ ps, o = .dK ps ∧ KVD K F kvs ps
  | .ins C fs, o => ∃ dx ps, o = .ins C dx ps ∧ KVD K F fs ps
  | .lck ob ps kvs, o => o = .frz ob (.dK ps) ∧ KVD K F kvs ps
  | .exv a dx C fs, o => o = exo a C (some dx) ∧ ∃ ps, F dx = some (exd dx ps) ∧ KVD K F fs ps
  | .tab q, o => ∃ ps : Array Value, o = .tbl ps ∧ TriplesOk ps.toList ∧ ∀ (pos : Pos) (cv : Value), codeAmong pos ps.toList = some cv → ∃ c, cv = .ref c ∧ F c = some (LamX.CodeO c q)
theorem KVD.mono {K : PySem.W.Frag} {F F' : Hp} (e : Ex F F') {κ : Type} : ∀ {kvs : List (κ × D)} {ps : List (κ × V)}, KVD K F kvs ps → KVD K F' kvs ps
  | [], _, h => h
  | (k, d) :: r, _, h => by
    obtain ⟨v, t, h1, h2, h3⟩ := h
    exact ⟨v, t, h1, DV.mono e d h2, KVD.mono e h3⟩
theorem MOR.mono {K : PySem.W.Frag} {F F' : Hp} (e : Ex F F') : ∀ {o : MO} {u : HO}, MOR K F o u → MOR K F' o u
  | .box, _, ⟨vs, h1, l, i, b, m, c, ns, h2, h3, h4⟩ => ⟨vs, h1, l, i, b, m, c, ns, h2, e _ _ h3, h4⟩
  | .lst ds, _, ⟨vs, h1, h2⟩ => ⟨vs, h1, DVs.mono e ds h2⟩
  | .dct _, _, ⟨ps, h1, h2⟩ => ⟨ps, h1, KVD.mono e h2⟩
  | .ins _ _, _, ⟨dx, ps, h1, h2⟩ => ⟨dx, ps, h1, KVD.mono e h2⟩
  | .lck _ _ _, _, ⟨h1, h2⟩ => ⟨h1, KVD.mono e h2⟩
  | .exv _ _ _ _, _, ⟨h1, ps, h2, h3⟩ => ⟨h1, ps, e _ _ h2, KVD.mono e h3⟩
  | .tab _, _, ⟨ps, h1, h2, h3⟩ => ⟨ps, h1, h2, fun pos cv q => let ⟨c, g1, g2⟩ := h3 pos cv q; ⟨c, g1, e _ _ g2⟩⟩
structure R (K : PySem.W.Frag) (M : Mh) (S H : Hp) : Prop where
  hidden : ∀ a o, S a = some o → H a = some o ∧ M a = none
  chg : ∀ a o, M a = some o → ∃ u, H a = some u ∧ MOR K (hid M S H) o u
section
variable {K : PySem.W.Frag} {M : Mh} {S H : Hp} {p a : Addr} {o : HO} {m : MO}
theorem hid_le (M : Mh) (S H : Hp) : Ex (hid M S H) H := fun a o h => by
  unfold hid at h
  split at h
  · cases h
  · exact h
theorem hid_some {u : HO} : hid M S H a = some u ↔ M a = none ∧ S a = none ∧ H a = some u := by
  unfold hid
  cases h1 : M a <;> cases h2 : S a <;> simp
theorem R.freeM (r : R K M S H) (h : H p = none) : M p = none := by
  cases e : M p with
  | none => rfl
  | some o =>
    obtain ⟨u, q, _⟩ := r.chg p o e
    rw [h] at q
    cases q
theorem R.freeS (r : R K M S H) (h : H p = none) : S p = none := by
  cases e : S p with
  | none => rfl
  | some o =>
    have q := (r.hidden p o e).1
    rw [h] at q
    cases q
/-- a new thing that stands still -/
theorem R.new (r : R K M S H) (h : H p = none) : R K M S (upd H p o) ∧ Ex (hid M S H) (hid M S (upd H p o)) ∧ hid M S (upd H p o) p = some o := by
  have hM := r.freeM h
  have hS := r.freeS h
  have e : Ex (hid M S H) (hid M S (upd H p o)) := fun a u q => by
    obtain ⟨h1, h2, h3⟩ := hid_some.mp q
    exact hid_some.mpr ⟨h1, h2, by rw [upd_ne (ne_of_none h3 h)]; exact h3⟩
  refine ⟨⟨fun a u q => ?_, fun a u q => ?_⟩, e, hid_some.mpr ⟨hM, hS, upd_same⟩⟩
  · obtain ⟨h1, h2⟩ := r.hidden a u q
    exact ⟨by rw [upd_ne (ne_of_none h1 h)]; exact h1, h2⟩
  · obtain ⟨w, h1, h2⟩ := r.chg a u q
    exact ⟨w, by rw [upd_ne (ne_of_none h1 h)]; exact h1, h2.mono e⟩
theorem hid_set (M : Mh) (S H : Hp) (p : Addr) (m : MO) (o : HO) (h : (M p).isSome = true ∨ H p = none) : hid (setM M p m) S (upd H p o) = hid M S H := by
  funext a
  unfold hid setM
  by_cases e : a = p
  · subst e
    rw [if_pos rfl]
    rcases h with h | h
    · rw [h]; simp
    · rw [h]; simp
  · rw [if_neg e, upd_ne e]
/-- a new thing that may change, or one that changes -/
theorem R.put (r : R K M S H) (h : (M p).isSome = true ∨ H p = none) (hm : MOR K (hid M S H) m o) : R K (setM M p m) S (upd H p o) := by
  have he := hid_set M S H p m o h
  have hS : S p = none := by
    rcases h with h | h
    · cases e : S p with
      | none => rfl
      | some u =>
        rw [(r.hidden p u e).2] at h
        cases h
    · exact r.freeS h
  refine ⟨fun a u q => ?_, fun a u q => ?_⟩
  · have ne : a ≠ p := fun z => by rw [z, hS] at q; cases q
    obtain ⟨h1, h2⟩ := r.hidden a u q
    exact ⟨by rw [upd_ne ne]; exact h1, by unfold setM; rw [if_neg ne]; exact h2⟩
  · rw [he]
    unfold setM at q
    by_cases e : a = p
    · subst e
      rw [if_pos rfl] at q
      cases q
      exact ⟨o, upd_same, hm⟩
    · rw [if_neg e] at q
      obtain ⟨w, h1, h2⟩ := r.chg a u q
      exact ⟨w, by rw [upd_ne e]; exact h1, h2⟩
/-- what may change is from now on still -/
theorem R.freeze (r : R K M S H) : R K (delM M p) S H ∧ Ex (hid M S H) (hid (delM M p) S H) := by
  have e : Ex (hid M S H) (hid (delM M p) S H) := fun a u q => by
    obtain ⟨h1, h2, h3⟩ := hid_some.mp q
    refine hid_some.mpr ⟨?_, h2, h3⟩
    unfold delM
    split
    · rfl
    · exact h1
  refine ⟨⟨fun a u q => ?_, fun a u q => ?_⟩, e⟩
  · obtain ⟨h1, h2⟩ := r.hidden a u q
    refine ⟨h1, ?_⟩
    unfold delM
    split
    · rfl
    · exact h2
  · unfold delM at q
    split at q
    · cases q
    · obtain ⟨w, h1, h2⟩ := r.chg a u q
      exact ⟨w, h1, h2.mono e⟩
end

/-! ### readings over data -/
abbrev Env := List (Option D)
/-- an exception: its class, its fields (none: it has no dict) -/
structure XD where
  cls : Value
  fs : Option (List (Str × D))
def XR (K : PySem.W.Frag) (F : Hp) (x : XD) (c : Value) (o : Option Addr) : Prop :=
  c = x.cls ∧ match x.fs with
    | none => o = none
    | some fs => ∃ d ps, o = some d ∧ F d = some (.xd ps) ∧ KVD K F fs ps
abbrev DK := D → Mh → Prop
abbrev XKd := XD → Mh → Prop
abbrev ME := Env → Mh → DK → XKd → Prop
abbrev MT := Env → Mh → (Bool → Mh → Prop) → XKd → Prop
abbrev MA := Env → Mh → (List D → Mh → Prop) → XKd → Prop
structure DEnds where
  nx : Env → Mh → Prop
  rt : DK
  bk : Env → Mh → Prop := fun _ _ => False
  ct : Env → Mh → Prop := fun _ _ => False
abbrev MS := DEnds → Env → Mh → XKd → Prop

structure EnvR (K : PySem.W.Frag) (F : Hp) (Γ : Env) (σ : St) : Prop where
  len : Γ.length = σ.length
  get : ∀ (i : Nat) (d : D), Γ[i]? = some (some d) → ∃ v, σ[i]? = some (some v) ∧ DV K F d v
theorem EnvR.mono {K : PySem.W.Frag} {F F' : Hp} {Γ : Env} {σ : St} (e : Ex F F') (h : EnvR K F Γ σ) : EnvR K F' Γ σ :=
  ⟨h.len, fun i d q => let ⟨v, h1, h2⟩ := h.get i d q; ⟨v, h1, h2.mono e d⟩⟩
theorem EnvR.set {K : PySem.W.Frag} {F : Hp} {Γ : Env} {σ : St} (h : EnvR K F Γ σ) {i : Nat} {d : D} {v : V} (g : DV K F d v) : EnvR K F (Γ.set i (some d)) (σ.set i (some v)) := by
  refine ⟨by simp [h.len], fun j e q => ?_⟩
  by_cases c : i = j
  · subst c
    by_cases hl : i < Γ.length
    · rw [List.getElem?_set_self hl] at q
      cases q
      exact ⟨v, List.getElem?_set_self (by rw [← h.len]; exact hl), g⟩
    · rw [List.getElem?_eq_none (by simp; omega)] at q
      cases q
  · rw [List.getElem?_set_ne c] at q
    obtain ⟨u, h1, h2⟩ := h.get j e q
    exact ⟨u, by rw [List.getElem?_set_ne c]; exact h1, h2⟩
theorem EnvR.wipe1 {K : PySem.W.Frag} {F : Hp} {Γ : Env} {σ : St} (h : EnvR K F Γ σ) {i : Nat} : EnvR K F (Γ.set i none) (σ.set i none) := by
  refine ⟨by simp [h.len], fun j e q => ?_⟩
  by_cases c : i = j
  · subst c
    by_cases hl : i < Γ.length
    · rw [List.getElem?_set_self hl] at q
      cases q
    · rw [List.getElem?_eq_none (by simp; omega)] at q
      cases q
  · rw [List.getElem?_set_ne c] at q
    obtain ⟨u, h1, h2⟩ := h.get j e q
    exact ⟨u, by rw [List.getElem?_set_ne c]; exact h1, h2⟩
def wipeD (Γ : Env) : List Nat → Env
  | [] => Γ
  | v :: vs => (wipeD Γ vs).set v none
theorem EnvR.wipe {K : PySem.W.Frag} {F : Hp} {Γ : Env} {σ : St} (h : EnvR K F Γ σ) : ∀ vs : List Nat, EnvR K F (wipeD Γ vs) (L2.wipe σ vs)
  | [] => h
  | v :: vs => (EnvR.wipe h vs).wipe1

/-- what is to hold behind: the value, the exception -/
def KeepV (K : PySem.W.Frag) (S : Hp) (F : Hp) (k : DK) (Q : VK) : Prop := ∀ d M', k d M' → ∀ H' v, R K M' S H' → Ex F (hid M' S H') → DV K (hid M' S H') d v → Q v H'
def KeepX (K : PySem.W.Frag) (S : Hp) (F : Hp) (kx : XKd) (E : XK) : Prop := ∀ x M', kx x M' → ∀ H' c o, R K M' S H' → Ex F (hid M' S H') → XR K (hid M' S H') x c o → E c o H'
def KeepE (K : PySem.W.Frag) (S : Hp) (F : Hp) (k : Env → Mh → Prop) (Q : St → Hp → Prop) : Prop := ∀ Γ' M', k Γ' M' → ∀ H' σ', R K M' S H' → Ex F (hid M' S H') → EnvR K (hid M' S H') Γ' σ' → Q σ' H'
def KeepB (K : PySem.W.Frag) (S : Hp) (F : Hp) (k : Bool → Mh → Prop) (Q : Bool → Hp → Prop) : Prop := ∀ b M', k b M' → ∀ H', R K M' S H' → Ex F (hid M' S H') → Q b H'
def KeepA (K : PySem.W.Frag) (S : Hp) (F : Hp) (k : List D → Mh → Prop) (Q : List V → Hp → Prop) : Prop := ∀ ds M', k ds M' → ∀ H' vs, R K M' S H' → Ex F (hid M' S H') → DVs K (hid M' S H') ds vs → Q vs H'
/-- the reading over values that a reading over data stands for -/
def tI (K : PySem.W.Frag) (E : XK) (m : ME) : TE := fun σ H Q => ∃ M S Γ k kx, R K M S H ∧ EnvR K (hid M S H) Γ σ ∧ m Γ M k kx ∧ KeepV K S (hid M S H) k Q ∧ KeepX K S (hid M S H) kx E
def tT (K : PySem.W.Frag) (E : XK) (m : MT) : TT := fun σ H Q => ∃ M S Γ k kx, R K M S H ∧ EnvR K (hid M S H) Γ σ ∧ m Γ M k kx ∧ KeepB K S (hid M S H) k Q ∧ KeepX K S (hid M S H) kx E
def tA (K : PySem.W.Frag) (E : XK) (m : MA) : TA := fun σ H Q => ∃ M S Γ k kx, R K M S H ∧ EnvR K (hid M S H) Γ σ ∧ m Γ M k kx ∧ KeepA K S (hid M S H) k Q ∧ KeepX K S (hid M S H) kx E
def tSt (K : PySem.W.Frag) (E : XK) (m : MS) : TS := fun D σ H => ∃ M S Γ De kx, R K M S H ∧ EnvR K (hid M S H) Γ σ ∧ m De Γ M kx ∧
  KeepE K S (hid M S H) De.nx D.nx ∧ KeepV K S (hid M S H) De.rt D.rt ∧ KeepE K S (hid M S H) De.bk D.bk ∧ KeepE K S (hid M S H) De.ct D.ct ∧ KeepX K S (hid M S H) kx E
theorem KeepX.ex {K : PySem.W.Frag} {S F F' : Hp} {kx : XKd} {E : XK} (h : KeepX K S F kx E) (e : Ex F F') : KeepX K S F' kx E := fun x M' q H' c o r e' y => h x M' q H' c o r (e.trans e') y
theorem KeepV.ex {K : PySem.W.Frag} {S F F' : Hp} {k : DK} {Q : VK} (h : KeepV K S F k Q) (e : Ex F F') : KeepV K S F' k Q := fun x M' q H' v r e' y => h x M' q H' v r (e.trans e') y
theorem KeepE.ex {K : PySem.W.Frag} {S F F' : Hp} {k : Env → Mh → Prop} {Q : St → Hp → Prop} (h : KeepE K S F k Q) (e : Ex F F') : KeepE K S F' k Q := fun x M' q H' v r e' y => h x M' q H' v r (e.trans e') y
theorem KeepB.ex {K : PySem.W.Frag} {S F F' : Hp} {k : Bool → Mh → Prop} {Q : Bool → Hp → Prop} (h : KeepB K S F k Q) (e : Ex F F') : KeepB K S F' k Q := fun x M' q H' r e' => h x M' q H' r (e.trans e')
theorem KeepA.ex {K : PySem.W.Frag} {S F F' : Hp} {k : List D → Mh → Prop} {Q : List V → Hp → Prop} (h : KeepA K S F k Q) (e : Ex F F') : KeepA K S F' k Q := fun x M' q H' v r e' y => h x M' q H' v r (e.trans e') y
/-- weaker readings -/
theorem pe_le {X : Cx} {e : Expr} {t t' : TE} (h : PE X e t) (i : ∀ σ H Q, t' σ H Q → t σ H Q) : PE X e t' := ⟨fun pins s σ H Q I q => h.run pins s σ H Q I (i σ H Q q)⟩
theorem pt_le {X : Cx} {e : Expr} {t t' : TT} (h : PT X e t) (i : ∀ σ H Q, t' σ H Q → t σ H Q) : PT X e t' := ⟨fun pins s σ H Q I q => h.run pins s σ H Q I (i σ H Q q)⟩
theorem pa_le {X : Cx} {e : List Expr} {t t' : TA} (h : PA X e t) (i : ∀ σ H Q, t' σ H Q → t σ H Q) : PA X e t' := ⟨fun pos pins s σ H Q I q => h.run pos pins s σ H Q I (i σ H Q q)⟩
theorem ps_le {X : Cx} {e : Stmt} {t t' : TS} (h : PS X e t) (i : ∀ D σ H, t' D σ H → t D σ H) : PS X e t' := ⟨fun pins s σ H D I q => h.run pins s σ H D I (i D σ H q)⟩
theorem pss_le {X : Cx} {e : List Stmt} {t t' : TS} (h : PSs X e t) (i : ∀ D σ H, t' D σ H → t D σ H) : PSs X e t' := ⟨fun pins s σ H D I q => h.run pins s σ H D I (i D σ H q)⟩
end DL
namespace DL
open PySem L2

/-! ### sequences among the data -/
def mls : Option MO → Option (List D)
  | some (.lst ds) => some ds
  | _ => none
def lsOf (M : Mh) : D → Option (List D)
  | .lst ds => some ds
  | .ref a => mls (M a)
  | _ => none
theorem mls_some {o : Option MO} {ds : List D} (h : mls o = some ds) : o = some (.lst ds) := by
  unfold mls at h
  split at h
  · cases h; rfl
  · cases h
section
variable {K : PySem.W.Frag} {M : Mh} {S H : Hp} {d : D} {v : V} {ds : List D}
theorem ls_sq (r : R K M S H) (h : DV K (hid M S H) d v) (e : lsOf M d = some ds) : ∃ a vs, v = .ref a ∧ H a = some (.lst vs) ∧ DVs K (hid M S H) ds vs := by
  cases d with
  | lst es =>
    obtain ⟨a, vs, h1, h2, h3⟩ := dv_lst.mp h
    cases e
    exact ⟨a, vs, h1, hid_le _ _ _ _ _ h2, h3⟩
  | ref a =>
    have e1 := dv_ref.mp h
    obtain ⟨u, h1, vs, rfl, h2⟩ := r.chg a _ (mls_some e)
    exact ⟨a, vs, e1, h1, h2⟩
  | non => cases e
  | bl _ => cases e
  | int _ => cases e
  | str _ => cases e
  | ty _ => cases e
  | scr _ => cases e
  | exc _ _ _ _ => cases e
  | tup _ => cases e
theorem tp_sq (h : DV K (hid M S H) (.tup ds) v) : ∃ a vs, v = .ref a ∧ SqT K H a vs ∧ DVs K (hid M S H) ds vs := by
  obtain ⟨a, vs, h1, h2, h3⟩ := dv_tup.mp h
  exact ⟨a, vs, h1, (hid_le _ _ _).sqT h2, h3⟩
/-- a new list, a new tuple of data -/
theorem new_lst {p : Addr} {vs : List V} (r : R K M S H) (hp : H p = none) (h : DVs K (hid M S H) ds vs) :
    R K M S (upd H p (.lst vs)) ∧ Ex (hid M S H) (hid M S (upd H p (.lst vs))) ∧ DV K (hid M S (upd H p (.lst vs))) (.lst ds) (.ref p) := by
  obtain ⟨h1, h2, h3⟩ := r.new (o := .lst vs) hp
  exact ⟨h1, h2, dv_lst.mpr ⟨p, vs, rfl, h3, DVs.mono h2 _ h⟩⟩
theorem new_tup {p : Addr} {vs : List V} (r : R K M S H) (hp : H p = none) (h : DVs K (hid M S H) ds vs) :
    R K M S (upd H p (.tup vs)) ∧ Ex (hid M S H) (hid M S (upd H p (.tup vs))) ∧ DV K (hid M S (upd H p (.tup vs))) (.tup ds) (.ref p) := by
  obtain ⟨h1, h2, h3⟩ := r.new (o := .tup vs) hp
  exact ⟨h1, h2, dv_tup.mpr ⟨p, vs, rfl, SqT.of h3, DVs.mono h2 _ h⟩⟩
end

/-! ### lifted rules by values -/
def rL1 (K : PySem.W.Frag) (r : D → Mh → DK → Prop) : V → Hp → VK → Prop := fun x H Q => ∃ M S d k, R K M S H ∧ DV K (hid M S H) d x ∧ r d M k ∧ KeepV K S (hid M S H) k Q
def rL2 (K : PySem.W.Frag) (r : D → D → Mh → DK → Prop) : R2 := fun x y H Q => ∃ M S d e k, R K M S H ∧ DV K (hid M S H) d x ∧ DV K (hid M S H) e y ∧ r d e M k ∧ KeepV K S (hid M S H) k Q
def rLc (K : PySem.W.Frag) (r : List D → Mh → DK → Prop) : List V → Hp → VK → Prop := fun xs H Q => ∃ M S ds k, R K M S H ∧ DVs K (hid M S H) ds xs ∧ r ds M k ∧ KeepV K S (hid M S H) k Q
def rLm (K : PySem.W.Frag) (r : D → List D → Mh → DK → Prop) : V → List V → Hp → VK → Prop := fun x xs H Q => ∃ M S d ds k, R K M S H ∧ DV K (hid M S H) d x ∧ DVs K (hid M S H) ds xs ∧ r d ds M k ∧ KeepV K S (hid M S H) k Q
/-- the value d comes, nothing else happens -/
theorem KeepV.now {K : PySem.W.Frag} {M : Mh} {S H : Hp} {k : DK} {Q : VK} {d : D} {v : V} (h : KeepV K S (hid M S H) k Q) (r : R K M S H) (q : k d M) (g : DV K (hid M S H) d v) : Q v H := h d M q H v r (Ex.refl _) g
theorem OpR.sub {X : Cx} {f : Value → Value → Sem Value} {r r' : R2} (h : OpR X f r) (i : ∀ x y H Q, r' x y H Q → r x y H Q) : OpR X f r' := fun pins s σ H x y v u Q I rx ry q => h pins s σ H x y v u Q I rx ry (i x y H Q q)
theorem CallR.sub {X : Cx} {f : Value} {r r' : List V → Hp → VK → Prop} (h : CallR X f r) (i : ∀ xs H Q, r' xs H Q → r xs H Q) : CallR X f r' := fun pins s σ H xs us Q I rx q => h pins s σ H xs us Q I rx (i xs H Q q)
theorem IxR.sub {X : Cx} {r r' : R2} (h : IxR X r) (i : ∀ x y H Q, r' x y H Q → r x y H Q) : IxR X r' := fun a b pins s σ H x y v u Q I rx ry q => h a b pins s σ H x y v u Q I rx ry (i x y H Q q)
theorem MtR.sub {X : Cx} {id : String} {r r' : V → List V → Hp → VK → Prop} (h : MtR X id r) (i : ∀ x xs H Q, r' x xs H Q → r x xs H Q) : MtR X id r' := fun pins s σ H x xs v us Q I rx rs q => h pins s σ H x xs v us Q I rx rs (i x xs H Q q)
theorem SlR.sub {X : Cx} {r r' : V → Option Int → Option Int → Hp → VK → Prop} (h : SlR X r) (i : ∀ x a b H Q, r' x a b H Q → r x a b H Q) : SlR X r' := fun pins s σ H x v vl vu lo hi sl Q I rx hs pl pu q => h pins s σ H x v vl vu lo hi sl Q I rx hs pl pu (i x lo hi H Q q)

/-! ### readings of expressions -/
def mVar (i : Nat) : ME := fun Γ M k _ => ∃ d, Γ[i]? = some (some d) ∧ k d M
def mC (d : D) : ME := fun _ M k _ => k d M
def mOp (r : D → D → Mh → DK → Prop) (ma mb : ME) : ME := fun Γ M k kx => ma Γ M (fun x M1 => mb Γ M1 (fun y M2 => r x y M2 k) kx) kx
def mUn (r : D → Mh → DK → Prop) (ma : ME) : ME := fun Γ M k kx => ma Γ M (fun x M1 => r x M1 k) kx
def mNil : MA := fun _ M k _ => k [] M
def mCons (ma : ME) (mr : MA) : MA := fun Γ M k kx => ma Γ M (fun x M1 => mr Γ M1 (fun xs M2 => k (x :: xs) M2) kx) kx
def mTup (ma : MA) : ME := fun Γ M k kx => ma Γ M (fun ds M1 => ds.length ≤ sizeLine ∧ k (.tup ds) M1) kx
def mLst (ma : MA) : ME := fun Γ M k kx => ma Γ M (fun ds M1 => ds.length ≤ sizeLine ∧ k (.lst ds) M1) kx
/-- a list that is going to be changed -/
def mLstM (ma : MA) : ME := fun Γ M k kx => ma Γ M (fun ds M1 => ds.length ≤ sizeLine ∧ ∀ p, M1 p = none → k (.ref p) (setM M1 p (.lst ds))) kx
def mCB (r : List D → Mh → DK → Prop) (ma : MA) : ME := fun Γ M k kx => ma Γ M (fun ds M1 => r ds M1 k) kx
def mBM (r : D → List D → Mh → DK → Prop) (mo : ME) (ma : MA) : ME := fun Γ M k kx => mo Γ M (fun d M1 => ma Γ M1 (fun ds M2 => r d ds M2 k) kx) kx
def mIf (mt : MT) (ma mb : ME) : ME := fun Γ M k kx => mt Γ M (fun b M1 => if b = true then ma Γ M1 k kx else mb Γ M1 k kx) kx
def mAndV (ma mb : ME) : ME := fun Γ M k kx => ma Γ M (fun x M1 => ∃ c, x = .bl c ∧ if c = true then mb Γ M1 k kx else k (.bl false) M1) kx
def mOrV (ma mb : ME) : ME := fun Γ M k kx => ma Γ M (fun x M1 => ∃ c, x = .bl c ∧ if c = true then k (.bl true) M1 else mb Γ M1 k kx) kx
def mNotV (ma : ME) : ME := fun Γ M k kx => ma Γ M (fun x M1 => ∃ c, x = .bl c ∧ k (.bl (!c)) M1) kx
def mTest (ma : ME) : MT := fun Γ M k kx => ma Γ M (fun x M1 => ∃ c, x = .bl c ∧ k c M1) kx
def mAnd (ma mb : MT) : MT := fun Γ M k kx => ma Γ M (fun c M1 => if c = true then mb Γ M1 k kx else k false M1) kx
def mOr (ma mb : MT) : MT := fun Γ M k kx => ma Γ M (fun c M1 => if c = true then k true M1 else mb Γ M1 k kx) kx
def mNot (ma : MT) : MT := fun Γ M k kx => ma Γ M (fun c M1 => k (!c) M1) kx
def mChain (r r' : D → D → Mh → DK → Prop) (ma mb mc : ME) : ME := fun Γ M k kx => ma Γ M (fun x M1 => mb Γ M1 (fun y M2 => r x y M2 fun z M3 => ∃ c, z = .bl c ∧ if c = true then mc Γ M3 (fun w M4 => r' y w M4 k) kx else k (.bl false) M3) kx) kx
abbrev MP := Env → Mh → (Option Int → Mh → Prop) → XKd → Prop
def mNoPart : MP := fun _ M k _ => k none M
def mPart (ma : ME) : MP := fun Γ M k kx => ma Γ M (fun x M1 => ∃ i, x = .int i ∧ k (some i) M1) kx
def mSl (r : D → Option Int → Option Int → Mh → DK → Prop) (mo : ME) (ml mu : MP) : ME := fun Γ M k kx => mo Γ M (fun d M1 => ml Γ M1 (fun lo M2 => mu Γ M2 (fun hi M3 => r d lo hi M3 k) kx) kx) kx
/-- a call of an own def -/
abbrev MF := List D → Mh → DK → XKd → Prop
def mCall (f : MF) (ma : MA) : ME := fun Γ M k kx => ma Γ M (fun ds M1 => f ds M1 k kx) kx
def mCallK (f : MF) (g : List D → List D → List D) (ma mk : MA) : ME := fun Γ M k kx => ma Γ M (fun ds M1 => mk Γ M1 (fun es M2 => f (g ds es) M2 k kx) kx) kx

section
variable {K : PySem.W.Frag} {E : XK}
theorem tI_op {r : D → D → Mh → DK → Prop} {ma mb : ME} {σ : St} {H : Hp} {Q : VK} (h : tI K E (mOp r ma mb) σ H Q) : tOp (rL2 K r) (tI K E ma) (tI K E mb) σ H Q := by
  obtain ⟨M, S, Γ, k, kx, hr, er, hm, kv, kxx⟩ := h
  refine ⟨M, S, Γ, _, kx, hr, er, hm, fun x M1 q1 H1 v1 r1 e1 d1 => ?_, kxx⟩
  refine ⟨M1, S, Γ, _, kx, r1, er.mono e1, q1, fun y M2 q2 H2 v2 r2 e2 d2 => ?_, kxx.ex e1⟩
  exact ⟨M2, S, x, y, k, r2, d1.mono e2 _, d2, q2, kv.ex (e1.trans e2)⟩
theorem tI_un {r : D → Mh → DK → Prop} {ma : ME} {σ : St} {H : Hp} {Q : VK} (h : tI K E (mUn r ma) σ H Q) : tUn (rL1 K r) (tI K E ma) σ H Q := by
  obtain ⟨M, S, Γ, k, kx, hr, er, hm, kv, kxx⟩ := h
  refine ⟨M, S, Γ, _, kx, hr, er, hm, fun x M1 q1 H1 v1 r1 e1 d1 => ?_, kxx⟩
  exact ⟨M1, S, x, k, r1, d1, q1, kv.ex e1⟩
theorem tA_cons {ma : ME} {mr : MA} {σ : St} {H : Hp} {Q : List V → Hp → Prop} (h : tA K E (mCons ma mr) σ H Q) : tCons (tI K E ma) (tA K E mr) σ H Q := by
  obtain ⟨M, S, Γ, k, kx, hr, er, hm, kv, kxx⟩ := h
  refine ⟨M, S, Γ, _, kx, hr, er, hm, fun x M1 q1 H1 v1 r1 e1 d1 => ?_, kxx⟩
  refine ⟨M1, S, Γ, _, kx, r1, er.mono e1, q1, fun ys M2 q2 H2 v2 r2 e2 d2 => ?_, kxx.ex e1⟩
  exact kv _ M2 q2 H2 _ r2 (e1.trans e2) (dvs_cons.mpr ⟨v1, v2, rfl, d1.mono e2 _, d2⟩)
theorem tI_cb {r : List D → Mh → DK → Prop} {ma : MA} {σ : St} {H : Hp} {Q : VK} (h : tI K E (mCB r ma) σ H Q) : tCB (rLc K r) (tA K E ma) σ H Q := by
  obtain ⟨M, S, Γ, k, kx, hr, er, hm, kv, kxx⟩ := h
  refine ⟨M, S, Γ, _, kx, hr, er, hm, fun xs M1 q1 H1 v1 r1 e1 d1 => ?_, kxx⟩
  exact ⟨M1, S, xs, k, r1, d1, q1, kv.ex e1⟩
/-- the promise of a def by its reading over data -/
def spI (K : PySem.W.Frag) (f : MF) : Sp := fun vs H Q E => ∃ M S ds k kx, R K M S H ∧ DVs K (hid M S H) ds vs ∧ f ds M k kx ∧ KeepV K S (hid M S H) k Q ∧ KeepX K S (hid M S H) kx E
theorem tI_call {f : MF} {ma : MA} {σ : St} {H : Hp} {Q : VK} (h : tI K E (mCall f ma) σ H Q) : tCall (spI K f) [] E (tA K E ma) σ H Q := by
  obtain ⟨M, S, Γ, k, kx, hr, er, hm, kv, kxx⟩ := h
  refine ⟨M, S, Γ, _, kx, hr, er, hm, fun xs M1 q1 H1 v1 r1 e1 d1 => ?_, kxx⟩
  exact ⟨M1, S, xs, k, kx, r1, by rw [List.append_nil]; exact d1, q1, kv.ex e1, kxx.ex e1⟩
end

section
variable {X : Cx} {E : XK} {a b c : Expr} {ma mb mc : ME} {pos : Pos} {mt mt' : MT} {rest : List Expr}
theorem de_var (i : Nat) {x : Str} (hN : X.N[i]? = some x := by rfl) (hv : Vis X.env.scope x := by first | exact Or.inl rfl | exact Or.inr (Or.inl rfl) | exact Or.inr (Or.inr rfl)) (hd : (x == ("__debug__" : Str)) = false := by decide)
    (hcd : (x == ("__classdict__" : Str)) = false := by decide) : PE X (.Name x pos) (tI X.K E (mVar i)) := by
  refine pe_le (pe_var hN hv hd hcd) fun σ H Q h => ?_
  obtain ⟨M, S, Γ, k, kx, hr, er, ⟨d, e, hm⟩, kv, _⟩ := h
  obtain ⟨v, h1, h2⟩ := er.get i d e
  exact ⟨v, h1, kv.now hr hm h2⟩
theorem de_c {v : V} {d : D} (h : PE X a (tC v)) (g : ∀ F, DV X.K F d v) : PE X a (tI X.K E (mC d)) := by
  refine pe_le h fun σ H Q h => ?_
  obtain ⟨M, S, Γ, k, kx, hr, er, hm, kv, _⟩ := h
  exact kv.now hr hm (g _)
theorem de_int {i : Int} {j} : PE X (.Constant (.int i) j pos) (tI X.K E (mC (.int i))) := de_c pe_int fun _ => dv_int.mpr rfl
theorem de_bl {i : Bool} {j} : PE X (.Constant (.bool i) j pos) (tI X.K E (mC (.bl i))) := de_c pe_bl fun _ => dv_bl.mpr rfl
theorem de_non {j} : PE X (.Constant .none j pos) (tI X.K E (mC .non)) := de_c pe_non fun _ => dv_non.mpr rfl
theorem de_str {i : Str} {j} : PE X (.Constant (.str i) j pos) (tI X.K E (mC (.str i))) := de_c pe_str fun _ => dv_str.mpr rfl
theorem de_op {op : Operator} {r : D → D → Mh → DK → Prop} (ho : OpR X (binaryOp op) (rL2 X.K r)) (ha : PE X a (tI X.K E ma)) (hb : PE X b (tI X.K E mb)) : PE X (.BinOp a op b pos) (tI X.K E (mOp r ma mb)) :=
  pe_le (pe_op ho ha hb) fun _ _ _ h => tI_op h
theorem de_un {op : UnaryOp} {r : D → Mh → DK → Prop} (ho : UnR X (unaryOp op) (rL1 X.K r)) (ha : PE X a (tI X.K E ma)) : PE X (.UnaryOp op a pos) (tI X.K E (mUn r ma)) :=
  pe_le (pe_un ho ha) fun _ _ _ h => tI_un h
theorem de_cmp {op : CmpOp} {r : D → D → Mh → DK → Prop} (ho : OpR X (compareOp op) (rL2 X.K r)) (ha : PE X a (tI X.K E ma)) (hb : PE X b (tI X.K E mb)) (hm : behindInMarks op b = false) : PE X (.Compare a [op] [b] pos) (tI X.K E (mOp r ma mb)) :=
  pe_le (pe_cmpR ho ha hb hm) fun _ _ _ h => tI_op h
/-- a test by its value, a bool -/
theorem tT_test {m : ME} {σ : St} {H : Hp} {Q : Bool → Hp → Prop} (h : tT X.K E (mTest m) σ H Q) : tI X.K E m σ H fun x H1 => ∃ c, x = .bl c ∧ Q c H1 := by
  obtain ⟨M, S, Γ, k, kx, hr, er, hm, kv, kxx⟩ := h
  refine ⟨M, S, Γ, _, kx, hr, er, hm, fun x M1 q1 H1 v1 r1 e1 d1 => ?_, kxx⟩
  obtain ⟨c, rfl, q⟩ := q1
  exact ⟨c, dv_bl.mp d1, kv c M1 q H1 r1 e1⟩
theorem dt_cmp {op : CmpOp} {r : D → D → Mh → DK → Prop} (ho : OpR X (compareOp op) (rL2 X.K r)) (ha : PE X a (tI X.K E ma)) (hb : PE X b (tI X.K E mb)) (hm : behindInMarks op b = false) : PT X (.Compare a [op] [b] pos) (tT X.K E (mTest (mOp r ma mb))) :=
  pt_le (pt_cmpR ho ha hb hm) fun _ _ _ h => tI_op (tT_test h)
theorem dt_val (ha : PE X a (tI X.K E ma)) (he : ∀ whole, isTrue a X.env whole = (do let v ← whole; standAt a.pos; holding [v] (truthy v)) := by intro _; rfl) : PT X a (tT X.K E (mTest ma)) :=
  pt_le (pt_val ha he) fun _ _ _ h => tT_test h
theorem dt_not (ha : PT X a (tT X.K E mt)) : PT X (.UnaryOp .Not a pos) (tT X.K E (mNot mt)) :=
  pt_le (pt_not ha) fun _ _ _ ⟨M, S, Γ, k, kx, hr, er, hm, kv, kxx⟩ => ⟨M, S, Γ, _, kx, hr, er, hm, fun b M1 q H1 r1 e1 => kv _ M1 q H1 r1 e1, kxx⟩
theorem pw_le {X : Cx} {e : Expr} {t t' : TT} (h : PW X e t) (i : ∀ σ H Q, t' σ H Q → t σ H Q) : PW X e t' := ⟨fun wh pins s σ H Q I q => h.run wh pins s σ H Q I (i σ H Q q)⟩
theorem dw_and1 (ha : PT X a (tT X.K E mt)) : PW X (.BoolOp .And [a] pos) (tT X.K E mt) := pw_and1 ha
theorem dw_or1 (ha : PT X a (tT X.K E mt)) : PW X (.BoolOp .Or [a] pos) (tT X.K E mt) := pw_or1 ha
theorem dw_and (ha : PT X a (tT X.K E mt)) (hb : PW X (.BoolOp .And (b :: rest) pos) (tT X.K E mt')) : PW X (.BoolOp .And (a :: b :: rest) pos) (tT X.K E (mAnd mt mt')) := by
  refine pw_le (pw_and ha hb) fun σ H Q ⟨M, S, Γ, k, kx, hr, er, hm, kv, kxx⟩ => ?_
  refine ⟨M, S, Γ, _, kx, hr, er, hm, fun c M1 q1 H1 r1 e1 => ?_, kxx⟩
  cases c with
  | true => exact ⟨M1, S, Γ, k, kx, r1, er.mono e1, q1, kv.ex e1, kxx.ex e1⟩
  | false => exact kv _ M1 q1 H1 r1 e1
theorem dw_or (ha : PT X a (tT X.K E mt)) (hb : PW X (.BoolOp .Or (b :: rest) pos) (tT X.K E mt')) : PW X (.BoolOp .Or (a :: b :: rest) pos) (tT X.K E (mOr mt mt')) := by
  refine pw_le (pw_or ha hb) fun σ H Q ⟨M, S, Γ, k, kx, hr, er, hm, kv, kxx⟩ => ?_
  refine ⟨M, S, Γ, _, kx, hr, er, hm, fun c M1 q1 H1 r1 e1 => ?_, kxx⟩
  cases c with
  | true => exact kv _ M1 q1 H1 r1 e1
  | false => exact ⟨M1, S, Γ, k, kx, r1, er.mono e1, q1, kv.ex e1, kxx.ex e1⟩
theorem de_one {op} (h : PE X a (tI X.K E ma)) : PE X (.BoolOp op [a] pos) (tI X.K E ma) := pe_one h
theorem de_and (ha : PE X a (tI X.K E ma)) (hb : PE X (.BoolOp .And (b :: rest) pos) (tI X.K E mb)) : PE X (.BoolOp .And (a :: b :: rest) pos) (tI X.K E (mAndV ma mb)) := by
  refine pe_le (pe_and ha hb) fun σ H Q ⟨M, S, Γ, k, kx, hr, er, hm, kv, kxx⟩ => ?_
  refine ⟨M, S, Γ, _, kx, hr, er, hm, fun x M1 ⟨c, ex, q1⟩ H1 v1 r1 e1 d1 => ?_, kxx⟩
  subst ex
  refine ⟨c, dv_bl.mp d1, ?_⟩
  cases c with
  | true => exact ⟨M1, S, Γ, k, kx, r1, er.mono e1, q1, kv.ex e1, kxx.ex e1⟩
  | false => exact kv _ M1 q1 H1 _ r1 e1 (dv_bl.mpr rfl)
theorem de_or (ha : PE X a (tI X.K E ma)) (hb : PE X (.BoolOp .Or (b :: rest) pos) (tI X.K E mb)) : PE X (.BoolOp .Or (a :: b :: rest) pos) (tI X.K E (mOrV ma mb)) := by
  refine pe_le (pe_or ha hb) fun σ H Q ⟨M, S, Γ, k, kx, hr, er, hm, kv, kxx⟩ => ?_
  refine ⟨M, S, Γ, _, kx, hr, er, hm, fun x M1 ⟨c, ex, q1⟩ H1 v1 r1 e1 d1 => ?_, kxx⟩
  subst ex
  refine ⟨c, dv_bl.mp d1, ?_⟩
  cases c with
  | true => exact kv _ M1 q1 H1 _ r1 e1 (dv_bl.mpr rfl)
  | false => exact ⟨M1, S, Γ, k, kx, r1, er.mono e1, q1, kv.ex e1, kxx.ex e1⟩
theorem de_not (ha : PE X a (tI X.K E ma)) : PE X (.UnaryOp .Not a pos) (tI X.K E (mNotV ma)) := by
  refine pe_le (pe_not ha) fun σ H Q ⟨M, S, Γ, k, kx, hr, er, hm, kv, kxx⟩ => ?_
  refine ⟨M, S, Γ, _, kx, hr, er, hm, fun x M1 ⟨c, ex, q1⟩ H1 v1 r1 e1 d1 => ?_, kxx⟩
  subst ex
  exact ⟨c, dv_bl.mp d1, kv _ M1 q1 H1 _ r1 e1 (dv_bl.mpr rfl)⟩
theorem de_if (hc : PT X c (tT X.K E mt)) (ha : PE X a (tI X.K E ma)) (hb : PE X b (tI X.K E mb)) : PE X (.IfExp c a b pos) (tI X.K E (mIf mt ma mb)) := by
  refine pe_le (pe_ifExp hc ha hb) fun σ H Q ⟨M, S, Γ, k, kx, hr, er, hm, kv, kxx⟩ => ?_
  refine ⟨M, S, Γ, _, kx, hr, er, hm, fun c M1 q1 H1 r1 e1 => ?_, kxx⟩
  cases c with
  | true => exact ⟨M1, S, Γ, k, kx, r1, er.mono e1, q1, kv.ex e1, kxx.ex e1⟩
  | false => exact ⟨M1, S, Γ, k, kx, r1, er.mono e1, q1, kv.ex e1, kxx.ex e1⟩
theorem tI_chain {r r' : D → D → Mh → DK → Prop} {σ : St} {H : Hp} {Q : VK} (h : tI X.K E (mChain r r' ma mb mc) σ H Q) : tChain (rL2 X.K r) (rL2 X.K r') (tI X.K E ma) (tI X.K E mb) (tI X.K E mc) σ H Q := by
  obtain ⟨M, S, Γ, k, kx, hr, er, hm, kv, kxx⟩ := h
  refine ⟨M, S, Γ, _, kx, hr, er, hm, fun x M1 q1 H1 v1 r1 e1 d1 => ?_, kxx⟩
  refine ⟨M1, S, Γ, _, kx, r1, er.mono e1, q1, fun y M2 q2 H2 v2 r2 e2 d2 => ?_, kxx.ex e1⟩
  refine ⟨M2, S, x, y, _, r2, d1.mono e2 _, d2, q2, fun z M3 ⟨c, ez, q3⟩ H3 v3 r3 e3 d3 => ?_⟩
  subst ez
  refine ⟨c, dv_bl.mp d3, ?_⟩
  have e13 := (e1.trans e2).trans e3
  cases c with
  | true =>
    refine ⟨M3, S, Γ, _, kx, r3, er.mono e13, q3, fun w M4 q4 H4 v4 r4 e4 d4 => ?_, kxx.ex e13⟩
    exact ⟨M4, S, y, w, k, r4, d2.mono (e3.trans e4) _, d4, q4, kv.ex (e13.trans e4)⟩
  | false => exact kv _ M3 q3 H3 _ r3 e13 (dv_bl.mpr rfl)
theorem de_chain {op op' : CmpOp} {r r' : D → D → Mh → DK → Prop} (ho : OpR X (compareOp op) (rL2 X.K r)) (ho' : OpR X (compareOp op') (rL2 X.K r')) (ha : PE X a (tI X.K E ma)) (hb : PE X b (tI X.K E mb)) (hc : PE X c (tI X.K E mc))
    (hm : lastMarks [op, op'] [b, c] = false := by with_unfolding_all rfl) : PE X (.Compare a [op, op'] [b, c] pos) (tI X.K E (mChain r r' ma mb mc)) := pe_le (pe_chain ho ho' ha hb hc hm) fun _ _ _ h => tI_chain h
theorem dt_chain {op op' : CmpOp} {r r' : D → D → Mh → DK → Prop} (ho : OpR X (compareOp op) (rL2 X.K r)) (ho' : OpR X (compareOp op') (rL2 X.K r')) (ha : PE X a (tI X.K E ma)) (hb : PE X b (tI X.K E mb)) (hc : PE X c (tI X.K E mc))
    (hm : lastMarks [op, op'] [b, c] = false := by with_unfolding_all rfl) : PT X (.Compare a [op, op'] [b, c] pos) (tT X.K E (mTest (mChain r r' ma mb mc))) := pt_le (pt_chain ho ho' ha hb hc hm) fun _ _ _ h => tI_chain (tT_test h)

/-! arguments, displays -/
variable {es : List Expr} {mA : MA} {e : Expr}
theorem da_nil : PA X [] (tA X.K E mNil) := pa_le pa_nil fun σ H Q ⟨M, S, Γ, k, kx, hr, er, hm, kv, kxx⟩ => kv [] M hm H [] hr (Ex.refl _) (dvs_nil.mpr rfl)
theorem da_cons (ha : PE X e (tI X.K E ma)) (hr : PA X es (tA X.K E mA)) (hs : starEach (e :: es) X.env = (false, eval e X.env) :: starEach es X.env := by rfl) : PA X (e :: es) (tA X.K E (mCons ma mA)) :=
  pa_le (pa_cons ha hr hs) fun _ _ _ h => tA_cons h
theorem de_tup {x1} (h : PA X es (tA X.K E mA)) : PE X (.Tuple es x1 pos) (tI X.K E (mTup mA)) := by
  refine pe_le (pe_tup h) fun σ H Q ⟨M, S, Γ, k, kx, hr, er, hm, kv, kxx⟩ => ?_
  refine ⟨M, S, Γ, _, kx, hr, er, hm, fun ds M1 q1 H1 vs r1 e1 d1 => ?_, kxx⟩
  refine ⟨by rw [← d1.length]; exact q1.1, fun p hp => ?_⟩
  obtain ⟨h1, h2, h3⟩ := new_tup r1 hp d1
  exact kv _ M1 q1.2 _ _ h1 (e1.trans h2) h3
theorem de_lst (h : PA X es (tA X.K E mA)) : PE X (.List es pos) (tI X.K E (mLst mA)) := by
  refine pe_le (pe_lst h) fun σ H Q ⟨M, S, Γ, k, kx, hr, er, hm, kv, kxx⟩ => ?_
  refine ⟨M, S, Γ, _, kx, hr, er, hm, fun ds M1 q1 H1 vs r1 e1 d1 => ?_, kxx⟩
  refine ⟨by rw [← d1.length]; exact q1.1, fun p hp => ?_⟩
  obtain ⟨h1, h2, h3⟩ := new_lst r1 hp d1
  exact kv _ M1 q1.2 _ _ h1 (e1.trans h2) h3
theorem de_lstM (h : PA X es (tA X.K E mA)) : PE X (.List es pos) (tI X.K E (mLstM mA)) := by
  refine pe_le (pe_lst h) fun σ H Q ⟨M, S, Γ, k, kx, hr, er, hm, kv, kxx⟩ => ?_
  refine ⟨M, S, Γ, _, kx, hr, er, hm, fun ds M1 q1 H1 vs r1 e1 d1 => ?_, kxx⟩
  refine ⟨by rw [← d1.length]; exact q1.1, fun p hp => ?_⟩
  refine kv _ _ (q1.2 p (r1.freeM hp)) _ _ (r1.put (.inr hp) ⟨vs, rfl, d1⟩) ?_ (dv_ref.mpr rfl)
  rw [hid_set _ _ _ _ _ _ (.inr hp)]
  exact e1
/-! subscripts, slices -/
theorem de_ix {r : D → D → Mh → DK → Prop} (hr : IxR X (rL2 X.K r)) (ha : PE X a (tI X.K E ma)) (hb : PE X b (tI X.K E mb)) (hs : PlainIx b) : PE X (.Subscript a b pos) (tI X.K E (mOp r ma mb)) :=
  pe_le (pe_ix hr ha hb hs) fun _ _ _ h => tI_op h
abbrev tP (K : PySem.W.Frag) (E : XK) (m : MP) : TO := fun σ H Q => ∃ M S Γ k kx, R K M S H ∧ EnvR K (hid M S H) Γ σ ∧ m Γ M k kx ∧ (∀ o M', k o M' → ∀ H', R K M' S H' → Ex (hid M S H) (hid M' S H') → Q o H') ∧ KeepX K S (hid M S H) kx E
theorem po_le {X : Cx} {e : Option Expr} {t t' : TO} (h : PO X e t) (i : ∀ σ H Q, t' σ H Q → t σ H Q) : PO X e t' := ⟨fun pins s σ H Q I q => h.run pins s σ H Q I (i σ H Q q)⟩
theorem dp_none : PO X none (tP X.K E mNoPart) := po_le po_none fun σ H Q ⟨M, S, Γ, k, kx, hr, er, hm, kv, kxx⟩ => kv none M hm H hr (Ex.refl _)
theorem dp_some (h : PE X a (tI X.K E ma)) : PO X (some a) (tP X.K E (mPart ma)) := po_le (po_some h) fun σ H Q ⟨M, S, Γ, k, kx, hr, er, hm, kv, kxx⟩ =>
  ⟨M, S, Γ, _, kx, hr, er, hm, fun x M1 ⟨i, ex, q1⟩ H1 v1 r1 e1 d1 => ⟨i, by subst ex; exact dv_int.mp d1, kv _ M1 q1 H1 r1 e1⟩, kxx⟩
theorem de_slice {r : D → Option Int → Option Int → Mh → DK → Prop} {lo hi : Option Expr} {ml mh : MP} {p2 : Pos}
    (hr : SlR X (fun x l u H Q => ∃ M S d k, R X.K M S H ∧ DV X.K (hid M S H) d x ∧ r d l u M k ∧ KeepV X.K S (hid M S H) k Q)) (he : PE X a (tI X.K E ma)) (hl : PO X lo (tP X.K E ml)) (hu : PO X hi (tP X.K E mh)) :
    PE X (.Subscript a (.Slice lo hi none p2) pos) (tI X.K E (mSl r ma ml mh)) := by
  refine pe_le (pe_slice hr he hl hu) fun σ H Q ⟨M, S, Γ, k, kx, hr, er, hm, kv, kxx⟩ => ?_
  refine ⟨M, S, Γ, _, kx, hr, er, hm, fun x M1 q1 H1 v1 r1 e1 d1 => ?_, kxx⟩
  refine ⟨M1, S, Γ, _, kx, r1, er.mono e1, q1, fun l M2 q2 H2 r2 e2 => ?_, kxx.ex e1⟩
  refine ⟨M2, S, Γ, _, kx, r2, er.mono (e1.trans e2), q2, fun u M3 q3 H3 r3 e3 => ?_, kxx.ex (e1.trans e2)⟩
  exact ⟨M3, S, x, k, r3, d1.mono (e2.trans e3) _, q3, kv.ex ((e1.trans e2).trans e3)⟩
/-! calls -/
variable {x : Str} {p : Pos}
theorem de_callB {id : String} {r : List D → Mh → DK → Prop} (hc : CallR X (.builtin id) (rLc X.K r)) (hg : Gl X x) (hm : X.mg x = none) (hv : bootBuiltins x = some (.builtin id)) (ha : PA X (e :: es) (tA X.K E mA)) (hn : x ≠ "__name__" := by decide) (hdb : (x == ("__debug__" : Str)) = false := by decide)
    (he : starEach (e :: es) X.env = (false, eval e X.env) :: starEach es X.env := by rfl) (hpl : (backTo pos (starEach es X.env)).any (·.1) = false := by rfl) : PE X (.Call (.Name x p) (e :: es) [] pos) (tI X.K E (mCB r mA)) :=
  pe_le (pe_callB hc hg hm hv ha hn hdb he hpl) fun _ _ _ h => tI_cb h
theorem de_callTy {T : String} {r : List D → Mh → DK → Prop} (hc : CallR X (.type T) (rLc X.K r)) (hg : Gl X x) (hm : X.mg x = none) (hv : bootBuiltins x = some (.type T)) (ha : PA X (e :: es) (tA X.K E mA)) (hn : x ≠ "__name__" := by decide) (hdb : (x == ("__debug__" : Str)) = false := by decide)
    (he : starEach (e :: es) X.env = (false, eval e X.env) :: starEach es X.env := by rfl) (hpl : (backTo pos (starEach es X.env)).any (·.1) = false := by rfl) : PE X (.Call (.Name x p) (e :: es) [] pos) (tI X.K E (mCB r mA)) :=
  pe_le (pe_callTy hc hg hm hv ha hn hdb he hpl) fun _ _ _ h => tI_cb h
theorem de_call {CX : CXT} {k : Nat} {f : Addr} {fd : FuncData} {ps : List Str} {m : MF} (F : FnOk X.prog X.w X.K X.mg X.base CX k f fd ps (spI X.K m)) (hr : Room k X.A) (hg : Gl X x) (hm : X.mg x = some (.ref f)) (hk : PySem.W.keepIn X.K (.ref f) = true) (hb : Binds X.K fd ps []) (hx : Passes CX X E)
    (ha : PA X (e :: es) (tA X.K E mA)) (hdb : (x == ("__debug__" : Str)) = false := by decide) (he : starEach (e :: es) X.env = (false, eval e X.env) :: starEach es X.env := by rfl) (hpl : (backTo pos (starEach es X.env)).any (·.1) = false := by rfl) :
    PE X (.Call (.Name x p) (e :: es) [] pos) (tI X.K E (mCall m mA)) := pe_le (pe_call F hr hg hm hk hb .nil hx ha hdb he hpl) fun _ _ _ h => tI_call h
end
end DL
namespace DL
open PySem L2
section
variable {X : Cx}
/-! ### arithmetic, + of texts, lists, tuples -/
def dAdd (d e : D) (M : Mh) (k : DK) : Prop := match d, e with
  | .int i, .int j => k (.int (i + j)) M
  | .str s, .str t => s.length + t.length ≤ sizeLine ∧ k (.str (s ++ t)) M
  | .tup xs, .tup ys => xs.length + ys.length ≤ sizeLine ∧ k (.tup (xs ++ ys)) M
  | d, e => ∃ xs ys, lsOf M d = some xs ∧ lsOf M e = some ys ∧ xs.length + ys.length ≤ sizeLine ∧ k (.lst (xs ++ ys)) M
theorem do_add : OpR X (binaryOp .Add) (rL2 X.K dAdd) := by
  refine OpR.sub (op_add.or (op_add_str.or (op_catA.or op_cat))) fun x y H Q ⟨M, S, d, e, k, r, hd, he, h, kv⟩ => ?_
  unfold dAdd at h
  split at h
  · exact .inl ⟨_, _, dv_int.mp hd, dv_int.mp he, kv.now r h (dv_int.mpr rfl)⟩
  · exact .inr (.inl ⟨_, _, dv_str.mp hd, dv_str.mp he, h.1, kv.now r h.2 (dv_str.mpr rfl)⟩)
  · rename_i xs ys
    obtain ⟨a, vs, rfl, h1, h2⟩ := tp_sq hd
    obtain ⟨b, us, rfl, g1, g2⟩ := tp_sq he
    refine .inr (.inr (.inl ⟨a, b, vs, us, rfl, rfl, h1, g1, by rw [← h2.length, ← g2.length]; exact h.1, fun e => ?_, fun _ e => ?_, fun _ _ p hp => ?_⟩))
    · subst e
      have : xs = [] := List.eq_nil_of_length_eq_zero h2.length
      subst this
      exact kv.now r h.2 he
    · subst e
      have : ys = [] := List.eq_nil_of_length_eq_zero g2.length
      subst this
      rw [List.append_nil] at h
      exact kv.now r h.2 hd
    · obtain ⟨q1, q2, q3⟩ := new_tup r hp (h2.append g2)
      exact kv _ M h.2 _ _ q1 q2 q3
  · obtain ⟨xs, ys, e1, e2, hz, h⟩ := h
    obtain ⟨a, vs, rfl, h1, h2⟩ := ls_sq r hd e1
    obtain ⟨b, us, rfl, g1, g2⟩ := ls_sq r he e2
    refine .inr (.inr (.inr ⟨a, b, vs, us, rfl, rfl, h1, g1, by rw [← h2.length, ← g2.length]; exact hz, fun p hp => ?_⟩))
    obtain ⟨q1, q2, q3⟩ := new_lst r hp (h2.append g2)
    exact kv _ M h _ _ q1 q2 q3
/-- ints alone -/
def dI2 (C : Int → Int → Prop) (g : Int → Int → D) (d e : D) (M : Mh) (k : DK) : Prop := ∃ i j, d = .int i ∧ e = .int j ∧ C i j ∧ k (g i j) M
theorem do_I {f : Value → Value → Sem Value} {C : Int → Int → Prop} {g : Int → Int → V} {g' : Int → Int → D} (h : OpR X f (rI C g)) (hg : ∀ F i j, DV X.K F (g' i j) (g i j)) : OpR X f (rL2 X.K (dI2 C g')) :=
  OpR.sub h fun x y H Q ⟨M, S, d, e, k, r, hd, he, ⟨i, j, e1, e2, hc, q⟩, kv⟩ => by
    subst e1 e2
    exact ⟨i, j, dv_int.mp hd, dv_int.mp he, hc, kv.now r q (hg _ i j)⟩
theorem do_I0 {f : Value → Value → Sem Value} {g : Int → Int → V} {g' : Int → Int → D} (h : OpR X f (rI0 g)) (hg : ∀ F i j, DV X.K F (g' i j) (g i j)) : OpR X f (rL2 X.K (dI2 (fun _ _ => True) g')) :=
  OpR.sub h fun x y H Q ⟨M, S, d, e, k, r, hd, he, ⟨i, j, e1, e2, hc, q⟩, kv⟩ => by
    subst e1 e2
    exact ⟨i, j, dv_int.mp hd, dv_int.mp he, kv.now r q (hg _ i j)⟩
abbrev dSub := dI2 (fun _ _ => True) fun i j => .int (i - j)
theorem do_sub : OpR X (binaryOp .Sub) (rL2 X.K dSub) := do_I0 op_sub fun _ _ _ => dv_int.mpr rfl
abbrev dMod := dI2 (fun _ j => 0 < j) fun i j => .int (i % j)
theorem do_mod : OpR X (binaryOp .Mod) (rL2 X.K dMod) := do_I op_mod fun _ _ _ => dv_int.mpr rfl
abbrev dDiv := dI2 CDiv fun i j => .int (i / j)
theorem do_div : OpR X (binaryOp .FloorDiv) (rL2 X.K dDiv) := do_I op_fdiv fun _ _ _ => dv_int.mpr rfl
abbrev dPow := dI2 CPow fun i j => .int (i ^ j.toNat)
theorem do_pow : OpR X (binaryOp .Pow) (rL2 X.K dPow) := do_I op_pow fun _ _ _ => dv_int.mpr rfl
abbrev dLt := dI2 (fun _ _ => True) fun i j => .bl (decide (i < j))
theorem do_lt : OpR X (compareOp .Lt) (rL2 X.K dLt) := do_I0 op_lt fun _ _ _ => dv_bl.mpr rfl
abbrev dLe := dI2 (fun _ _ => True) fun i j => .bl (decide (i ≤ j))
theorem do_le : OpR X (compareOp .LtE) (rL2 X.K dLe) := do_I0 op_le fun _ _ _ => dv_bl.mpr rfl
abbrev dGt := dI2 (fun _ _ => True) fun i j => .bl (decide (j < i))
theorem do_gt : OpR X (compareOp .Gt) (rL2 X.K dGt) := do_I0 op_gt fun _ _ _ => dv_bl.mpr rfl
abbrev dGe := dI2 (fun _ _ => True) fun i j => .bl (decide (j ≤ i))
theorem do_ge : OpR X (compareOp .GtE) (rL2 X.K dGe) := do_I0 op_ge fun _ _ _ => dv_bl.mpr rfl
/-- text * int -/
def repS (s : Str) (n : Int) : Str := ⟨(List.replicate n.toNat s.cps).foldl (· ++ ·) #[]⟩
theorem rep_size (a : Array Nat) : ∀ (n : Nat) (b : Array Nat), ((List.replicate n a).foldl (· ++ ·) b).size = b.size + n * a.size
  | 0, b => by simp
  | n + 1, b => by
    rw [List.replicate_succ, List.foldl_cons, rep_size a n, Array.size_append, Nat.succ_mul]
    omega
theorem op_mul_str : OpR X (binaryOp .Mult) (fun x y H Q => ∃ z j, x = .str z ∧ y = .int j ∧ 1 < j ∧ j < 1000 ∧ 0 < z.length ∧ z.length ≤ 1000 ∧ Q (.str (repS z j)) H) := by
  intro pins s σ H x y v u Q I rx ry h
  obtain ⟨z, j, rfl, rfl, h1, h2, h3, h4, q⟩ := h
  obtain ⟨t, rfl⟩ := rx
  obtain ⟨t', rfl⟩ := ry
  have hn1 : ¬ j < 1 := by omega
  have hne : (j == 1 || z.length == 0) = false := by
    rw [Bool.or_eq_false_iff]
    exact ⟨beq_eq_false_iff_ne.mpr (by omega), beq_eq_false_iff_ne.mpr (by omega)⟩
  have hl : z.length * j.toNat ≤ 1000 * 1000 := Nat.mul_le_mul h4 (by omega)
  have hsz : PySem.Builtin.Str.tooLong (z.length * j.toNat) = false := by
    unfold PySem.Builtin.Str.tooLong
    have : sizeLine = 16777216 := rfl
    simp only [decide_eq_false_iff_not]
    omega
  refine PySem.P.mul_str ?_ (fun _ _ => ?_) (fun _ _ => hsz) ?_
  · rw [Bool.or_eq_false_iff]
    exact ⟨decide_eq_false (by omega), decide_eq_false (by omega)⟩
  · have : (2 ^ 63 - 1 : Int) / j ≥ 1000 := by
      refine (Int.le_ediv_iff_mul_le (by omega)).mpr ?_
      omega
    omega
  · rw [if_neg hn1, if_neg (by rw [hne]; decide)]
    refine ⟨?_, ⟨.str (repS z j), H, I.tok _, ⟨_, rfl⟩, q⟩⟩
    have e : (⟨(List.replicate j.toNat z.cps).foldl (· ++ ·) #[]⟩ : Str).length = z.length * j.toNat := by
      show ((List.replicate j.toNat z.cps).foldl (· ++ ·) #[]).size = z.cps.size * j.toNat
      rw [rep_size]
      simp [Nat.mul_comm]
    rw [e]
    have : sizeLine = 16777216 := rfl
    omega
def dMul (d e : D) (M : Mh) (k : DK) : Prop := match d, e with
  | .int i, .int j => CMul i j ∧ k (.int (i * j)) M
  | .str z, .int j => 1 < j ∧ j < 1000 ∧ 0 < z.length ∧ z.length ≤ 1000 ∧ k (.str (repS z j)) M
  | d, e => ∃ xs j, lsOf M d = some xs ∧ e = .int j ∧ -(2 ^ 63) ≤ j ∧ j < 2 ^ 63 ∧ xs.length * j.toNat ≤ sizeLine ∧ k (.lst (List.replicate j.toNat xs).flatten) M
theorem DVs.rep {K : PySem.W.Frag} {F : Hp} {ds : List D} {vs : List V} (h : DVs K F ds vs) : ∀ n : Nat, DVs K F (List.replicate n ds).flatten (List.replicate n vs).flatten
  | 0 => dvs_nil.mpr rfl
  | n + 1 => by
    rw [List.replicate_succ, List.replicate_succ, List.flatten_cons, List.flatten_cons]
    exact h.append (DVs.rep h n)
theorem do_mul : OpR X (binaryOp .Mult) (rL2 X.K dMul) := by
  refine OpR.sub (op_mul.or (op_mul_str.or op_rep)) fun x y H Q ⟨M, S, d, e, k, r, hd, he, h, kv⟩ => ?_
  unfold dMul at h
  split at h
  · exact .inl ⟨_, _, dv_int.mp hd, dv_int.mp he, h.1, kv.now r h.2 (dv_int.mpr rfl)⟩
  · exact .inr (.inl ⟨_, _, dv_str.mp hd, dv_int.mp he, h.1, h.2.1, h.2.2.1, h.2.2.2.1, kv.now r h.2.2.2.2 (dv_str.mpr rfl)⟩)
  · obtain ⟨xs, j, e1, rfl, h1, h2, h3, h⟩ := h
    obtain ⟨a, vs, rfl, g1, g2⟩ := ls_sq r hd e1
    refine .inr (.inr ⟨a, j, vs, rfl, dv_int.mp he, g1, h1, h2, by rw [← g2.length]; exact h3, fun p hp => ?_⟩)
    obtain ⟨q1, q2, q3⟩ := new_lst r hp (g2.rep j.toNat)
    exact kv _ M h _ _ q1 q2 q3
abbrev dNeg (d : D) (M : Mh) (k : DK) : Prop := ∃ i, d = .int i ∧ k (.int (-i)) M
theorem du_neg : UnR X (unaryOp .USub) (rL1 X.K dNeg) := fun pins s σ H x v Q I rx ⟨M, S, d, k, r, hd, ⟨i, e, q⟩, kv⟩ =>
  un_neg pins s σ H x v Q I rx ⟨i, by subst e; exact dv_int.mp hd, kv.now r q (dv_int.mpr rfl)⟩

/-! ### == and != -/
mutual
def toPy : D → Option PyData
  | .non => some .none
  | .bl b => some (.bool b)
  | .int i => some (.int i)
  | .str s => some (.str s)
  | .tup ds => (toPys ds).map .tuple
  | .lst ds => (toPys ds).map .list
  | .ref _ => none
  | .ty _ => none
  | .scr _ => none
  | .exc _ _ _ _ => none
def toPys : List D → Option (List PyData)
  | [] => some []
  | d :: ds => match toPy d, toPys ds with
    | some x, some xs => some (x :: xs)
    | _, _ => none
end
mutual
theorem dp_of {K : PySem.W.Frag} {F H : Hp} (e : Ex F H) : ∀ (d : D) {v : V} {x : PyData}, DV K F d v → toPy d = some x → Dp K H v x
  | .non, _, _, h, q => by rw [dv_non] at h; subst h; cases q; exact .non
  | .bl _, _, _, h, q => by rw [dv_bl] at h; subst h; cases q; exact .bl _
  | .int _, _, _, h, q => by rw [dv_int] at h; subst h; cases q; exact .int _
  | .str _, _, _, h, q => by rw [dv_str] at h; subst h; cases q; exact .str _
  | .ref _, _, _, _, q => by cases q
  | .ty _, _, _, _, q => by cases q
  | .scr _, _, _, _, q => by cases q
  | .exc _ _ _ _, _, _, _, q => by cases q
  | .tup ds, _, _, h, q => by
    obtain ⟨a, vs, rfl, h2, h3⟩ := dv_tup.mp h
    rw [toPy] at q
    cases e1 : toPys ds with
    | none => rw [e1] at q; cases q
    | some xs =>
      rw [e1] at q
      cases q
      exact .tup (e.sqT h2) (dps_of e ds h3 e1)
  | .lst ds, _, _, h, q => by
    obtain ⟨a, vs, rfl, h2, h3⟩ := dv_lst.mp h
    rw [toPy] at q
    cases e1 : toPys ds with
    | none => rw [e1] at q; cases q
    | some xs =>
      rw [e1] at q
      cases q
      exact .lst (SqL.of (e _ _ h2)) (dps_of e ds h3 e1)
theorem dps_of {K : PySem.W.Frag} {F H : Hp} (e : Ex F H) : ∀ (ds : List D) {vs : List V} {xs : List PyData}, DVs K F ds vs → toPys ds = some xs → DpAll K H vs xs
  | [], _, _, h, q => by rw [dvs_nil] at h; subst h; rw [toPys] at q; cases q; exact .nil
  | d :: ds, _, _, h, q => by
    obtain ⟨v, r, rfl, h2, h3⟩ := dvs_cons.mp h
    rw [toPys] at q
    cases e1 : toPy d with
    | none => rw [e1] at q; cases q
    | some x =>
      cases e2 : toPys ds with
      | none => rw [e1, e2] at q; cases q
      | some xs =>
        rw [e1, e2] at q
        cases q
        exact .cons (dp_of e d h2 e1) (dps_of e ds h3 e2)
end
/-- plain things, told apart at once -/
def eqS : D → D → Option Bool
  | .str a, .str b => some (decide (a = b))
  | .int a, .int b => some (decide (a = b))
  | .bl a, .bl b => some (decide (a = b))
  | .non, .non => some true
  | .non, .str _ => some false | .str _, .non => some false
  | .non, .int _ => some false | .int _, .non => some false
  | .non, .bl _ => some false | .bl _, .non => some false
  | .int _, .str _ => some false | .str _, .int _ => some false
  | .bl _, .str _ => some false | .str _, .bl _ => some false
  | _, _ => none
def Deep (d : D) (x : PyData) : Prop := toPy d = some x ∧ SeqAt.shaped x = true
def dEqB (neg : Bool) (d e : D) (M : Mh) (k : DK) : Prop := match eqS d e with
  | some b => k (.bl (if neg then !b else b)) M
  | none => ∃ x y, Deep d x ∧ Deep e y ∧ k (.bl (if neg then !(PyData.eqv x y) else PyData.eqv x y)) M
abbrev dEq := dEqB false
abbrev dNe := dEqB true
theorem eqS_of {K : PySem.W.Frag} {F : Hp} {d e : D} {x y : V} {b : Bool} (hd : DV K F d x) (he : DV K F e y) (h : eqS d e = some b) : scal x y = true ∧ decide (x = y) = b := by
  cases d <;> cases e <;> first
    | (cases h; done)
    | (rw [eqS] at h; cases h; simp only [dv_non, dv_bl, dv_int, dv_str] at hd he; subst hd he; exact ⟨rfl, by simp⟩)
theorem do_eq (hu : X.A.units + 64 < cLine) : OpR X (compareOp .Eq) (rL2 X.K dEq) := by
  refine OpR.sub (op_eq.or (op_eqD hu)) fun x y H Q ⟨M, S, d, e, k, r, hd, he, h, kv⟩ => ?_
  unfold dEq dEqB at h
  split at h
  · rename_i b q
    obtain ⟨h1, h2⟩ := eqS_of hd he q
    exact .inl ⟨h1, by rw [h2]; exact kv.now r h (dv_bl.mpr rfl)⟩
  · obtain ⟨u, w, ⟨h1, h2⟩, ⟨h3, h4⟩, h⟩ := h
    exact .inr ⟨u, w, dp_of (hid_le _ _ _) d hd h1, dp_of (hid_le _ _ _) e he h3, h2, h4, kv.now r h (dv_bl.mpr rfl)⟩
theorem do_ne (hu : X.A.units + 64 < cLine) : OpR X (compareOp .NotEq) (rL2 X.K dNe) := by
  refine OpR.sub (op_ne.or (op_neD hu)) fun x y H Q ⟨M, S, d, e, k, r, hd, he, h, kv⟩ => ?_
  unfold dNe dEqB at h
  split at h
  · rename_i b q
    obtain ⟨h1, h2⟩ := eqS_of hd he q
    exact .inl ⟨h1, by rw [h2]; exact kv.now r h (dv_bl.mpr rfl)⟩
  · obtain ⟨u, w, ⟨h1, h2⟩, ⟨h3, h4⟩, h⟩ := h
    exact .inr ⟨u, w, dp_of (hid_le _ _ _) d hd h1, dp_of (hid_le _ _ _) e he h3, h2, h4, kv.now r h (dv_bl.mpr rfl)⟩
/-! ### is -/
def isNon : D → Bool
  | .non => true
  | _ => false
def dIsB (neg : Bool) (d e : D) (M : Mh) (k : DK) : Prop := match e with
  | .non => k (.bl (if neg then !isNon d else isNon d)) M
  | .bl b => ∃ a, d = .bl a ∧ k (.bl (if neg then !decide (a = b) else decide (a = b))) M
  | _ => False
abbrev dIs := dIsB false
abbrev dIsNot := dIsB true
theorem non_iff {K : PySem.W.Frag} {F : Hp} {d : D} {x : V} (h : DV K F d x) : decide (x = .non) = isNon d := by
  cases d with
  | tup ds => obtain ⟨a, vs, rfl, _⟩ := dv_tup.mp h; simp [isNon]
  | lst ds => obtain ⟨a, vs, rfl, _⟩ := dv_lst.mp h; simp [isNon]
  | scr ds => obtain ⟨a, rfl, _⟩ := dv_scr.mp h; simp [isNon]
  | exc _ _ _ _ => obtain ⟨rfl, _⟩ := dv_exc.mp h; simp [isNon]
  | non => rw [dv_non] at h; subst h; simp [isNon]
  | bl _ => rw [dv_bl] at h; subst h; simp [isNon]
  | int _ => rw [dv_int] at h; subst h; simp [isNon]
  | str _ => rw [dv_str] at h; subst h; simp [isNon]
  | ty _ => rw [dv_ty] at h; subst h; simp [isNon]
  | ref _ => rw [dv_ref] at h; subst h; simp [isNon]
theorem do_is : OpR X (compareOp .Is) (rL2 X.K dIs) := by
  refine OpR.sub (op_isN.or op_isBl) fun x y H Q ⟨M, S, d, e, k, r, hd, he, h, kv⟩ => ?_
  unfold dIs dIsB at h
  split at h
  · exact .inl ⟨dv_non.mp he, by rw [non_iff hd]; exact kv.now r h (dv_bl.mpr rfl)⟩
  · obtain ⟨a, rfl, h⟩ := h
    exact .inr ⟨a, _, dv_bl.mp hd, dv_bl.mp he, kv.now r h (dv_bl.mpr rfl)⟩
  · exact h.elim
theorem do_isNot : OpR X (compareOp .IsNot) (rL2 X.K dIsNot) := by
  refine OpR.sub (op_notN.or op_notBl) fun x y H Q ⟨M, S, d, e, k, r, hd, he, h, kv⟩ => ?_
  unfold dIsNot dIsB at h
  split at h
  · exact .inl ⟨dv_non.mp he, by rw [non_iff hd]; exact kv.now r h (dv_bl.mpr rfl)⟩
  · obtain ⟨a, rfl, h⟩ := h
    exact .inr ⟨a, _, dv_bl.mp hd, dv_bl.mp he, kv.now r h (dv_bl.mpr rfl)⟩
  · exact h.elim
/-! ### in -/
def flat : D → Bool
  | .non => true | .bl _ => true | .int _ => true | .str _ => true | _ => false
/-- == of flat data -/
def eqF : D → D → Bool
  | .non, .non => true
  | .bl a, .bl b => a == b
  | .bl a, .int b => (if a then 1 else 0) == b
  | .int a, .bl b => a == (if b then 1 else 0)
  | .int a, .int b => a == b
  | .str a, .str b => a == b
  | _, _ => false
def inF (d : D) (ds : List D) : Bool := ds.any fun e => eqF e d
def sqOf (M : Mh) : D → Option (List D)
  | .tup ds => some ds
  | d => lsOf M d
def dInB (neg : Bool) (d e : D) (M : Mh) (k : DK) : Prop := match d, e with
  | .str s, .str z => ∃ c, s = ⟨#[c]⟩ ∧ k (.bl (if neg then !decide (c ∈ z.cps.toList) else decide (c ∈ z.cps.toList))) M
  | d, e => ∃ ds, sqOf M e = some ds ∧ flat d = true ∧ ds.all flat = true ∧ k (.bl (if neg then !inF d ds else inF d ds)) M
abbrev dIn := dInB false
abbrev dNotIn := dInB true
theorem sq_of {K : PySem.W.Frag} {M : Mh} {S H : Hp} {d : D} {v : V} {ds : List D} (r : R K M S H) (h : DV K (hid M S H) d v) (e : sqOf M d = some ds) : ∃ a vs, v = .ref a ∧ (SqL K H a vs ∨ SqT K H a vs) ∧ DVs K (hid M S H) ds vs := by
  cases d with
  | tup es =>
    cases e
    obtain ⟨a, vs, h1, h2, h3⟩ := tp_sq h
    exact ⟨a, vs, h1, .inr h2, h3⟩
  | lst es => obtain ⟨a, vs, h1, h2, h3⟩ := ls_sq r h e; exact ⟨a, vs, h1, .inl (SqL.of h2), h3⟩
  | ref es => obtain ⟨a, vs, h1, h2, h3⟩ := ls_sq r h e; exact ⟨a, vs, h1, .inl (SqL.of h2), h3⟩
  | non => cases e
  | bl _ => cases e
  | int _ => cases e
  | str _ => cases e
  | ty _ => cases e
  | scr _ => cases e
  | exc _ _ _ _ => cases e
theorem flat_of {K : PySem.W.Frag} {F : Hp} {d : D} {v : V} (h : DV K F d v) (f : flat d = true) : flatV v = true := by
  cases d <;> first
    | (exact absurd (show false = true from f) Bool.false_ne_true)
    | (simp only [dv_non, dv_bl, dv_int, dv_str] at h; subst h; rfl)
theorem eqF_of {K : PySem.W.Frag} {F : Hp} {d e : D} {v u : V} (h : DV K F d v) (g : DV K F e u) (f : flat d = true) (f' : flat e = true) : eqV v u = eqF d e := by
  cases d <;> first
    | (exact absurd (show false = true from f) Bool.false_ne_true)
    | (cases e <;> first
        | (exact absurd (show false = true from f') Bool.false_ne_true)
        | (simp only [dv_non, dv_bl, dv_int, dv_str] at h g; subst h g; rfl))
theorem inF_of {K : PySem.W.Frag} {F : Hp} {d : D} {v : V} (h : DV K F d v) (f : flat d = true) : ∀ {ds : List D} {vs : List V}, DVs K F ds vs → ds.all flat = true → vs.all flatV = true ∧ inV v vs = inF d ds
  | [], _, g, _ => by rw [dvs_nil] at g; subst g; exact ⟨rfl, rfl⟩
  | e :: es, _, g, q => by
    obtain ⟨u, r, rfl, h2, h3⟩ := dvs_cons.mp g
    rw [List.all_cons, Bool.and_eq_true] at q
    obtain ⟨i1, i2⟩ := inF_of h f h3 q.2
    refine ⟨by rw [List.all_cons, flat_of h2 q.1, i1]; rfl, ?_⟩
    unfold inV inF at i2 ⊢
    rw [List.any_cons, List.any_cons, eqF_of h2 h q.1 f, i2]
theorem do_in : OpR X (compareOp .In) (rL2 X.K dIn) := by
  refine OpR.sub (op_in_sign.or op_in_seq) fun x y H Q ⟨M, S, d, e, k, r, hd, he, h, kv⟩ => ?_
  unfold dIn dInB at h
  split at h
  · obtain ⟨c, rfl, h⟩ := h
    exact .inl ⟨c, _, dv_str.mp hd, dv_str.mp he, kv.now r h (dv_bl.mpr rfl)⟩
  · obtain ⟨ds, e1, f, fs, h⟩ := h
    obtain ⟨a, vs, rfl, h2, h3⟩ := sq_of r he e1
    obtain ⟨i1, i2⟩ := inF_of hd f h3 fs
    exact .inr ⟨a, vs, rfl, h2, flat_of hd f, i1, by rw [i2]; exact kv.now r h (dv_bl.mpr rfl)⟩
theorem do_notIn : OpR X (compareOp .NotIn) (rL2 X.K dNotIn) := by
  refine OpR.sub (op_notIn_sign.or op_notIn_seq) fun x y H Q ⟨M, S, d, e, k, r, hd, he, h, kv⟩ => ?_
  unfold dNotIn dInB at h
  split at h
  · obtain ⟨c, rfl, h⟩ := h
    exact .inl ⟨c, _, dv_str.mp hd, dv_str.mp he, kv.now r h (dv_bl.mpr rfl)⟩
  · obtain ⟨ds, e1, f, fs, h⟩ := h
    obtain ⟨a, vs, rfl, h2, h3⟩ := sq_of r he e1
    obtain ⟨i1, i2⟩ := inF_of hd f h3 fs
    exact .inr ⟨a, vs, rfl, h2, flat_of hd f, i1, by rw [i2]; exact kv.now r h (dv_bl.mpr rfl)⟩
/-! ### x[i], x[i:j] -/
def dIx (d e : D) (M : Mh) (k : DK) : Prop := match d with
  | .str z => ∃ i c, e = .int i ∧ z.length ≤ sizeLine ∧ atI z.cps.toList i = some c ∧ k (.str ⟨#[c]⟩) M
  | d => ∃ i ds x, e = .int i ∧ sqOf M d = some ds ∧ atI ds i = some x ∧ k x M
theorem atI_of {K : PySem.W.Frag} {F : Hp} {ds : List D} {vs : List V} {i : Int} {d : D} (h : DVs K F ds vs) (e : atI ds i = some d) : ∃ v, atI vs i = some v ∧ DV K F d v := by
  unfold atI at e ⊢
  rw [h.length] at e
  cases q : ixN vs.length i with
  | none => rw [q] at e; cases e
  | some j =>
    rw [q] at e
    exact h.get (i := j) e
theorem dx_seq : IxR X (rL2 X.K dIx) := by
  refine IxR.sub ix_seq fun x y H Q ⟨M, S, d, e, k, r, hd, he, h, kv⟩ => ?_
  unfold dIx at h
  split at h
  · obtain ⟨i, c, rfl, hz, h1, h⟩ := h
    exact .inr (.inr ⟨_, i, c, dv_str.mp hd, dv_int.mp he, hz, h1, kv.now r h (dv_str.mpr rfl)⟩)
  · obtain ⟨i, ds, z, rfl, e1, e2, h⟩ := h
    obtain ⟨a, vs, rfl, h2, h3⟩ := sq_of r hd e1
    obtain ⟨v, g1, g2⟩ := atI_of h3 e2
    rcases h2 with h2 | h2
    · exact .inl ⟨a, vs, i, v, rfl, dv_int.mp he, h2, g1, kv.now r h g2⟩
    · exact .inr (.inl ⟨a, vs, i, v, rfl, dv_int.mp he, h2, g1, kv.now r h g2⟩)
def cutD (xs : List D) (lo hi : Option Int) : List D := (xs.drop (HT.sIx xs.length 0 lo)).take (HT.sIx xs.length xs.length hi - HT.sIx xs.length 0 lo)
theorem cut_of {K : PySem.W.Frag} {F : Hp} {ds : List D} {vs : List V} (lo hi : Option Int) (h : DVs K F ds vs) : DVs K F (cutD ds lo hi) (cutV vs lo hi) := by
  unfold cutD cutV
  rw [h.length]
  exact (h.drop _).take _
theorem dvs_ints {K : PySem.W.Frag} {F : Hp} : ∀ ns : List Int, DVs K F (ns.map D.int) (ns.map V.int)
  | [] => dvs_nil.mpr rfl
  | n :: ns => dvs_cons.mpr ⟨.int n, _, rfl, dv_int.mpr rfl, dvs_ints ns⟩
def dSlice (d : D) (lo hi : Option Int) (M : Mh) (k : DK) : Prop := match d with
  | .str z => z.length ≤ sizeLine ∧ k (.str (cutS z lo hi)) M
  | .tup ds => k (.tup (cutD ds lo hi)) M
  | .scr ns => k (.lst (cutD (ns.map D.int) lo hi)) M
  | d => ∃ ds, lsOf M d = some ds ∧ k (.lst (cutD ds lo hi)) M
theorem ds_slice : SlR X (fun x l u H Q => ∃ M S d k, R X.K M S H ∧ DV X.K (hid M S H) d x ∧ dSlice d l u M k ∧ KeepV X.K S (hid M S H) k Q) := by
  refine SlR.sub (sl_str.or (sl_tupA.or sl_list)) fun x lo hi H Q ⟨M, S, d, k, r, hd, h, kv⟩ => ?_
  unfold dSlice at h
  split at h
  · exact .inl ⟨_, dv_str.mp hd, h.1, kv.now r h.2 (dv_str.mpr rfl)⟩
  · rename_i ds
    obtain ⟨a, vs, rfl, h2, h3⟩ := tp_sq hd
    refine .inr (.inl ⟨a, vs, rfl, h2, fun e => ?_, fun _ p hp => ?_⟩)
    · have e1 : cutD ds lo hi = ds := by
        unfold cutD
        rw [h3.length, e.1, e.2, List.drop_zero, Nat.sub_zero, ← h3.length, List.take_length]
      rw [e1] at h
      exact kv.now r h hd
    · obtain ⟨q1, q2, q3⟩ := new_tup r hp (cut_of lo hi h3)
      exact kv _ M h _ _ q1 q2 q3
  · obtain ⟨a, rfl, h2⟩ := dv_scr.mp hd
    refine .inr (.inr ⟨a, _, rfl, (hid_le _ _ _).sqL h2, fun p hp => ?_⟩)
    obtain ⟨q1, q2, q3⟩ := new_lst r hp (cut_of lo hi (dvs_ints _))
    exact kv _ M h _ _ q1 q2 q3
  · obtain ⟨ds, e1, h⟩ := h
    obtain ⟨a, vs, rfl, h2, h3⟩ := ls_sq r hd e1
    refine .inr (.inr ⟨a, vs, rfl, SqL.of h2, fun p hp => ?_⟩)
    obtain ⟨q1, q2, q3⟩ := new_lst r hp (cut_of lo hi h3)
    exact kv _ M h _ _ q1 q2 q3
/-! ### built-in calls -/
def cLen (ds : List D) (M : Mh) (k : DK) : Prop := ∃ d, ds = [d] ∧ match d with
  | .str z => z.length ≤ sizeLine ∧ k (.int z.length) M
  | d => ∃ es, sqOf M d = some es ∧ k (.int es.length) M
theorem dc_one {K : PySem.W.Frag} {F : Hp} {d : D} {vs : List V} (h : DVs K F [d] vs) : ∃ v, vs = [v] ∧ DV K F d v := by
  obtain ⟨v, r, rfl, h2, h3⟩ := dvs_cons.mp h
  rw [dvs_nil] at h3
  subst h3
  exact ⟨v, rfl, h2⟩
theorem dc_two {K : PySem.W.Frag} {F : Hp} {d e : D} {vs : List V} (h : DVs K F [d, e] vs) : ∃ v u, vs = [v, u] ∧ DV K F d v ∧ DV K F e u := by
  obtain ⟨v, r, rfl, h2, h3⟩ := dvs_cons.mp h
  obtain ⟨u, rfl, h4⟩ := dc_one h3
  exact ⟨v, u, rfl, h2, h4⟩
theorem dc_len : CallR X (.builtin "len") (rLc X.K cLen) := by
  refine CallR.sub (call_len_str.or call_len_seq) fun xs H Q ⟨M, S, ds, k, r, hd, ⟨d, e, h⟩, kv⟩ => ?_
  subst e
  obtain ⟨v, rfl, hv⟩ := dc_one hd
  split at h
  · exact .inl ⟨_, by rw [dv_str.mp hv], h.1, kv.now r h.2 (dv_int.mpr rfl)⟩
  · obtain ⟨es, e1, h⟩ := h
    obtain ⟨a, vs, rfl, h2, h3⟩ := sq_of r hv e1
    exact .inr ⟨a, vs, rfl, h2, by rw [← h3.length]; exact kv.now r h (dv_int.mpr rfl)⟩
def blsOf : List D → Option (List Bool)
  | [] => some []
  | .bl b :: r => (blsOf r).map (b :: ·)
  | _ => none
theorem bls_of {K : PySem.W.Frag} {F : Hp} : ∀ {ds : List D} {vs : List V} {bs : List Bool}, DVs K F ds vs → blsOf ds = some bs → vs = bs.map V.bl
  | [], _, _, h, e => by rw [dvs_nil] at h; subst h; cases e; rfl
  | d :: ds, _, _, h, e => by
    obtain ⟨v, r, rfl, h2, h3⟩ := dvs_cons.mp h
    cases d <;> first | (cases e; done) | skip
    rw [blsOf] at e
    cases q : blsOf ds with
    | none => rw [q] at e; cases e
    | some cs =>
      rw [q] at e
      cases e
      rw [dv_bl.mp h2, bls_of h3 q]
      rfl
def cAll (ds : List D) (M : Mh) (k : DK) : Prop := ∃ d es bs, ds = [d] ∧ lsOf M d = some es ∧ blsOf es = some bs ∧ k (.bl (bs.all id)) M
def cAny (ds : List D) (M : Mh) (k : DK) : Prop := ∃ d es bs, ds = [d] ∧ lsOf M d = some es ∧ blsOf es = some bs ∧ k (.bl (bs.any id)) M
theorem dc_all (hc : X.calm = true) : CallR X (.builtin "all") (rLc X.K cAll) := by
  refine CallR.sub (cr_all hc) fun xs H Q ⟨M, S, ds, k, r, hd, ⟨d, es, bs, e, e1, e2, h⟩, kv⟩ => ?_
  subst e
  obtain ⟨v, rfl, hv⟩ := dc_one hd
  obtain ⟨a, vs, rfl, h2, h3⟩ := ls_sq r hv e1
  exact ⟨a, bs, rfl, by rw [← bls_of h3 e2]; exact SqL.of h2, kv.now r h (dv_bl.mpr rfl)⟩
theorem dc_any (hc : X.calm = true) : CallR X (.builtin "any") (rLc X.K cAny) := by
  refine CallR.sub (cr_any hc) fun xs H Q ⟨M, S, ds, k, r, hd, ⟨d, es, bs, e, e1, e2, h⟩, kv⟩ => ?_
  subst e
  obtain ⟨v, rfl, hv⟩ := dc_one hd
  obtain ⟨a, vs, rfl, h2, h3⟩ := ls_sq r hv e1
  exact ⟨a, bs, rfl, by rw [← bls_of h3 e2]; exact SqL.of h2, kv.now r h (dv_bl.mpr rfl)⟩
def cInt (ds : List D) (M : Mh) (k : DK) : Prop := ∃ i, ds = [.int i] ∧ k (.int i) M
theorem dc_int : CallR X (.type "int") (rLc X.K cInt) := CallR.sub call_int1 fun xs H Q ⟨M, S, ds, k, r, hd, ⟨i, e, h⟩, kv⟩ => by
  subst e
  obtain ⟨v, rfl, hv⟩ := dc_one hd
  exact .inl ⟨i, by rw [dv_int.mp hv], kv.now r h (dv_int.mpr rfl)⟩
def cAbs (ds : List D) (M : Mh) (k : DK) : Prop := ∃ i, ds = [.int i] ∧ k (.int (if i < 0 then -i else i)) M
theorem dc_abs : CallR X (.builtin "abs") (rLc X.K cAbs) := CallR.sub call_abs fun xs H Q ⟨M, S, ds, k, r, hd, ⟨i, e, h⟩, kv⟩ => by
  subst e
  obtain ⟨v, rfl, hv⟩ := dc_one hd
  exact ⟨i, by rw [dv_int.mp hv], kv.now r h (dv_int.mpr rfl)⟩
def cMin (ds : List D) (M : Mh) (k : DK) : Prop := ∃ i j, ds = [.int i, .int j] ∧ k (.int (if j < i then j else i)) M
theorem dc_min (hc : X.calm = true) : CallR X (.builtin "min") (rLc X.K cMin) := CallR.sub (call_min2 hc) fun xs H Q ⟨M, S, ds, k, r, hd, ⟨i, j, e, h⟩, kv⟩ => by
  subst e
  obtain ⟨v, u, rfl, hv, he⟩ := dc_two hd
  exact ⟨i, j, by rw [dv_int.mp hv, dv_int.mp he], kv.now r h (dv_int.mpr rfl)⟩
def cList (ds : List D) (M : Mh) (k : DK) : Prop := ∃ d es, ds = [d] ∧ sqOf M d = some es ∧ k (.lst es) M
theorem dc_list : CallR X (.type "list") (rLc X.K cList) := CallR.sub call_list_of fun xs H Q ⟨M, S, ds, k, r, hd, ⟨d, es, e, e1, h⟩, kv⟩ => by
  subst e
  obtain ⟨v, rfl, hv⟩ := dc_one hd
  obtain ⟨a, vs, rfl, h2, h3⟩ := sq_of r hv e1
  refine ⟨a, vs, rfl, h2, fun p hp => ?_⟩
  obtain ⟨q1, q2, q3⟩ := new_lst r hp h3
  exact kv _ M h _ _ q1 q2 q3
def cTuple (ds : List D) (M : Mh) (k : DK) : Prop := ∃ d es, ds = [d] ∧ sqOf M d = some es ∧ k (.tup es) M
theorem dc_tuple : CallR X (.type "tuple") (rLc X.K cTuple) := CallR.sub call_tuple_of fun xs H Q ⟨M, S, ds, k, r, hd, ⟨d, es, e, e1, h⟩, kv⟩ => by
  subst e
  obtain ⟨v, rfl, hv⟩ := dc_one hd
  have g := hv
  obtain ⟨a, vs, rfl, h2, h3⟩ := sq_of r hv e1
  refine ⟨a, vs, rfl, ?_⟩
  rcases h2 with h2 | h2
  · refine .inl ⟨h2, fun p hp => ?_⟩
    obtain ⟨q1, q2, q3⟩ := new_tup r hp h3
    exact kv _ M h _ _ q1 q2 q3
  · refine .inr ⟨h2, ?_⟩
    cases d with
    | tup fs => cases e1; exact kv.now r h g
    | lst fs =>
      obtain ⟨b, us, eb, h4, h5⟩ := ls_sq r g e1
      cases eb
      rcases h2 with (h2 | ⟨o, h2⟩) | ⟨o, _, _, hk, _⟩
      · rw [h4] at h2; cases h2
      · rw [h4] at h2; cases h2
      · exact kv _ M h _ _ r (Ex.refl _) (dv_tup.mpr ⟨a, vs, rfl, .inr ⟨o, _, _, hk, ‹_›⟩, h3⟩)
    | ref fs =>
      obtain ⟨b, us, eb, h4, h5⟩ := ls_sq r g e1
      cases eb
      rcases h2 with (h2 | ⟨o, h2⟩) | ⟨o, _, _, hk, _⟩
      · rw [h4] at h2; cases h2
      · rw [h4] at h2; cases h2
      · exact kv _ M h _ _ r (Ex.refl _) (dv_tup.mpr ⟨a, vs, rfl, .inr ⟨o, _, _, hk, ‹_›⟩, h3⟩)
    | non => cases e1
    | bl _ => cases e1
    | int _ => cases e1
    | str _ => cases e1
    | ty _ => cases e1
    | scr _ => cases e1
    | exc _ _ _ _ => cases e1
end
end DL
namespace DL
open PySem L2
/-! ### isinstance -/
def tyM : Option MO → String
  | some .box => "list"
  | some (.lst _) => "list"
  | some (.dct _) => "dict"
  | some (.lck _ _ _) => "dict"
  | _ => "?"
def tyN (M : Mh) : D → String
  | .non => "NoneType" | .bl _ => "bool" | .int _ => "int" | .str _ => "str" | .tup _ => "tuple" | .lst _ => "list" | .ref a => tyM (M a) | .ty _ => "?" | .scr _ => "?" | .exc _ _ _ _ => "?"
def tys : List String := ["NoneType", "bool", "int", "str", "tuple", "list", "dict"]
def isiB (a b : String) : Bool := decide (a = b) || (decide (a = "bool") && decide (b = "int"))
theorem kit_tab : ∀ a ∈ tys, ∀ b ∈ tys, kitB a b = some (isiB a b) := by decide +kernel
theorem ty_of {K : PySem.W.Frag} {M : Mh} {S H : Hp} {d : D} {v : V} (r : R K M S H) (h : DV K (hid M S H) d v) (e : tyN M d ∈ tys) : TyX K H v (.type (tyN M d)) := by
  cases d with
  | non => rw [dv_non.mp h]; exact .base .non
  | bl _ => rw [dv_bl.mp h]; exact .base (.bl _)
  | int _ => rw [dv_int.mp h]; exact .base (.int _)
  | str _ => rw [dv_str.mp h]; exact .base (.str _)
  | ty _ => exact absurd e (by show ¬ "?" ∈ tys; decide)
  | scr _ => exact absurd e (by show ¬ "?" ∈ tys; decide)
  | exc _ _ _ _ => exact absurd e (by show ¬ "?" ∈ tys; decide)
  | tup ds =>
    obtain ⟨a, vs, rfl, h2, h3⟩ := tp_sq h
    rcases h2 with (h2 | ⟨o, h2⟩) | ⟨o, _, _, hk, hc, _⟩
    · exact .base (.tup h2)
    · exact .fTuple h2
    · exact .kTuple hk hc
  | lst ds =>
    obtain ⟨a, vs, rfl, h2, h3⟩ := dv_lst.mp h
    exact .base (.lst (hid_le _ _ _ _ _ h2))
  | ref a =>
    rw [dv_ref.mp h]
    have e' : tyM (M a) ∈ tys := e
    show TyX K H (.ref a) (.type (tyM (M a)))
    cases q : M a with
    | none => rw [q] at e'; exact absurd e' (by show ¬ "?" ∈ tys; decide)
    | some o =>
      obtain ⟨u, h1, h2⟩ := r.chg a o q
      cases o with
      | box => obtain ⟨vs, rfl, _⟩ := h2; exact .base (.lst h1)
      | lst _ => obtain ⟨vs, rfl, _⟩ := h2; exact .base (.lst h1)
      | dct _ => obtain ⟨vs, rfl, _⟩ := h2; exact .base (.dK h1)
      | lck _ _ _ => obtain ⟨rfl, _⟩ := h2; exact .fDict h1
      | exv _ _ _ _ => rw [q] at e'; exact absurd e' (by show ¬ "?" ∈ tys; decide)
      | ins _ _ => rw [q] at e'; exact absurd e' (by show ¬ "?" ∈ tys; decide)
      | tab _ => rw [q] at e'; exact absurd e' (by show ¬ "?" ∈ tys; decide)
section
variable {X : Cx} {E : XK} {a : Expr} {ma : ME} {pos p p2 : Pos}
def dIsi (n : String) (d : D) (M : Mh) (k : DK) : Prop := tyN M d ∈ tys ∧ k (.bl (isiB (tyN M d) n)) M
/-- isinstance(x, T), T a built-in class -/
theorem de_isi {T : Str} {n : String} (hg : Gl X "isinstance") (hm : X.mg "isinstance" = none) (ha : PE X a (tI X.K E ma)) (hgT : Gl X T) (hmT : X.mg T = none) (hv : bootBuiltins T = some (.type n)) (hn : n ∈ tys) (hnn : T ≠ "__name__" := by decide) (hd : (T == ("__debug__" : Str)) = false := by decide)
    (hs : starEach [a, .Name T p2] X.env = (false, eval a X.env) :: starEach [.Name T p2] X.env := by rfl) (hs2 : starEach [.Name T p2] X.env = [(false, eval (.Name T p2) X.env)] := by rfl) (hpl : (backTo pos (starEach [.Name T p2] X.env)).any (·.1) = false := by rfl) :
    PE X (.Call (.Name "isinstance" p) [a, .Name T p2] [] pos) (tI X.K E (mUn (dIsi n) ma)) := by
  refine pe_le (pe_callB call_isi hg hm (by decide +kernel) (pa_cons ha (pa_cons (pe_bltn (v := .ty n) hgT hmT hv rfl hnn hd) pa_nil (by exact hs2)) hs) (by decide) (by decide) hs hpl) fun σ H Q ⟨M, S, Γ, k, kx, hr, er, hm, kv, kxx⟩ => ?_
  refine ⟨M, S, Γ, _, kx, hr, er, hm, fun d M1 q1 H1 v1 r1 e1 d1 => ?_, kxx⟩
  exact ⟨v1, .ty n, _, _, _, rfl, .ty n, ty_of r1 d1 q1.1, kit_ty (kit_tab _ q1.1 _ hn), kv _ M1 q1.2 H1 _ r1 e1 (dv_bl.mpr rfl)⟩
def dIsi2 (n m : String) (d : D) (M : Mh) (k : DK) : Prop := tyN M d ∈ tys ∧ k (.bl (isiB (tyN M d) n || isiB (tyN M d) m)) M
/-- isinstance(x, (T, U)) -/
theorem de_isi2 {T U : Str} {n m : String} {p3 p4 : Pos} {kk : Nat} (hg : Gl X "isinstance") (hm : X.mg "isinstance" = none) (ha : PE X a (tI X.K E ma)) (hgT : Gl X T) (hmT : X.mg T = none) (hv : bootBuiltins T = some (.type n)) (hn : n ∈ tys)
    (hgU : Gl X U) (hmU : X.mg U = none) (hvU : bootBuiltins U = some (.type m)) (hnU : m ∈ tys) (hnn : T ≠ "__name__" := by decide) (hd : (T == ("__debug__" : Str)) = false := by decide) (hnn2 : U ≠ "__name__" := by decide) (hd2 : (U == ("__debug__" : Str)) = false := by decide)
    (ht2 : starEach [.Name U p3] X.env = [(false, eval (.Name U p3) X.env)] := by rfl) (ht1 : starEach [.Name T p2, .Name U p3] X.env = (false, eval (.Name T p2) X.env) :: starEach [.Name U p3] X.env := by rfl)
    (hs : starEach [a, .Tuple [.Name T p2, .Name U p3] kk p4] X.env = (false, eval a X.env) :: starEach [.Tuple [.Name T p2, .Name U p3] kk p4] X.env := by rfl)
    (hs2 : starEach [.Tuple [.Name T p2, .Name U p3] kk p4] X.env = [(false, eval (.Tuple [.Name T p2, .Name U p3] kk p4) X.env)] := by rfl) (hpl : (backTo pos (starEach [.Tuple [.Name T p2, .Name U p3] kk p4] X.env)).any (·.1) = false := by rfl) :
    PE X (.Call (.Name "isinstance" p) [a, .Tuple [.Name T p2, .Name U p3] kk p4] [] pos) (tI X.K E (mUn (dIsi2 n m) ma)) := by
  refine pe_le (pe_callB call_isiT hg hm (by decide +kernel) (pa_cons ha (pa_cons (pe_tup (pa_cons (pe_bltn (v := .ty n) hgT hmT hv rfl hnn hd) (pa_cons (pe_bltn (v := .ty m) hgU hmU hvU rfl hnn2 hd2) pa_nil (by exact ht2)) ht1)) pa_nil (by exact hs2)) hs) (by decide) (by decide) hs hpl) fun σ H Q ⟨M, S, Γ, k, kx, hr, er, hm, kv, kxx⟩ => ?_
  refine ⟨M, S, Γ, _, kx, hr, er, hm, fun d M1 q1 H1 v1 r1 e1 d1 => ?_, kxx⟩
  refine ⟨by show 2 ≤ sizeLine; decide, fun q hq => ?_⟩
  obtain ⟨g1, g2, g3⟩ := r1.new (o := .tup [.ty n, .ty m]) hq
  refine ⟨v1, q, [.ty n, .ty m], _, [.type n, .type m], _, rfl, upd_same, .cons (.ty n) (.cons (.ty m) .nil), ty_of g1 (d1.mono g2 _) q1.1, ?_, kv _ M1 q1.2 _ _ g1 (e1.trans g2) (dv_bl.mpr rfl)⟩
  refine kitAny_cons (kit_ty (kit_tab _ q1.1 _ hn)) (fun e => ?_) (fun e => by rw [e]; rfl)
  rw [e, Bool.false_or]
  exact kitAny_cons (kit_ty (kit_tab _ q1.1 _ hnU)) (fun e => by rw [e]; exact kitAny_nil) (fun e => e)
end
/-! ### statements -/
def mNext : MS := fun De Γ M _ => De.nx Γ M
def mSeq (m u : MS) : MS := fun De Γ M kx => m { De with nx := fun Γ' M' => u De Γ' M' kx } Γ M kx
def mBreak : MS := fun De Γ M _ => De.bk Γ M
def mCont : MS := fun De Γ M _ => De.ct Γ M
def mDrop (m : ME) : MS := fun De Γ M kx => m Γ M (fun _ M1 => De.nx Γ M1) kx
def mRet (m : ME) : MS := fun De Γ M kx => m Γ M De.rt kx
def mRetN : MS := fun De _ M _ => De.rt .non M
def mIfS (c : MT) (m u : MS) : MS := fun De Γ M kx => c Γ M (fun b M1 => if b = true then m De Γ M1 kx else u De Γ M1 kx) kx
def mNever : MS := fun _ _ _ _ => False
/-- targets: a name, a tuple of targets -/
inductive Tg where
  | nm (i : Nat) | tp (ts : List Tg)
mutual
def bindT : Tg → D → Env → Option Env
  | .nm i, d, Γ => some (Γ.set i (some d))
  | .tp ts, .tup ds, Γ => bindTs ts ds Γ
  | .tp _, _, _ => none
def bindTs : List Tg → List D → Env → Option Env
  | [], [], Γ => some Γ
  | t :: ts, d :: ds, Γ => match bindT t d Γ with
    | some Γ1 => bindTs ts ds Γ1
    | none => none
  | _, _, _ => none
end
mutual
def gOf (K : PySem.W.Frag) : Tg → TG
  | .nm i => gName i
  | .tp ts => gTup K ts.length (gsOf K ts)
def gsOf (K : PySem.W.Frag) : List Tg → TGs
  | [] => gNil
  | t :: ts => gCons (gOf K t) (gsOf K ts)
end
mutual
/-- the slots that a target stores to -/
def slotsT : Tg → List Nat
  | .nm i => [i]
  | .tp ts => slotsTs ts
def slotsTs : List Tg → List Nat
  | [] => []
  | t :: ts => slotsT t ++ slotsTs ts
end
theorem bindTs_len : ∀ {ts : List Tg} {ds : List D} {Γ Γ1 : Env}, bindTs ts ds Γ = some Γ1 → ds.length = ts.length
  | [], [], _, _, _ => rfl
  | [], _ :: _, _, _, h => by simp [bindTs] at h
  | _ :: _, [], _, _, h => by simp [bindTs] at h
  | t :: ts, d :: ds, Γ, Γ1, h => by
    rw [bindTs] at h
    cases q : bindT t d Γ with
    | none => rw [q] at h; cases h
    | some Γ2 =>
      rw [q] at h
      rw [List.length_cons, List.length_cons, bindTs_len h]
mutual
theorem g_ok {K : PySem.W.Frag} {M : Mh} {S H : Hp} : ∀ (t : Tg) {d : D} {v : V} {Γ Γ1 : Env} {σ : St} {Q : St → Hp → Prop}, DV K (hid M S H) d v → EnvR K (hid M S H) Γ σ → bindT t d Γ = some Γ1 →
    (∀ σ1, EnvR K (hid M S H) Γ1 σ1 → (∀ vs, (∀ i ∈ slotsT t, i ∈ vs) → wipe σ1 vs = wipe σ vs) → Q σ1 H) → gOf K t v σ H Q
  | .nm i, d, v, Γ, Γ1, σ, Q, hd, er, e, q => by
    rw [bindT] at e
    cases e
    rw [gOf]
    refine q _ (er.set hd) fun vs hv => ?_
    exact wipe_set (hv i (by rw [slotsT]; exact List.mem_singleton.mpr rfl))
  | .tp ts, d, v, Γ, Γ1, σ, Q, hd, er, e, q => by
    cases d with
    | tup ds =>
      rw [bindT] at e
      obtain ⟨a, vs, rfl, h2, h3⟩ := tp_sq hd
      rw [gOf]
      refine ⟨a, vs, rfl, h2, by rw [← h3.length]; exact bindTs_len e, ?_⟩
      exact gs_ok ts h3 er e fun σ1 e1 w => q σ1 e1 fun vs hv => w vs (fun i hi => hv i (by rw [slotsT]; exact hi))
    | _ => simp [bindT] at e
theorem gs_ok {K : PySem.W.Frag} {M : Mh} {S H : Hp} : ∀ (ts : List Tg) {ds : List D} {vs : List V} {Γ Γ1 : Env} {σ : St} {Q : St → Hp → Prop}, DVs K (hid M S H) ds vs → EnvR K (hid M S H) Γ σ → bindTs ts ds Γ = some Γ1 →
    (∀ σ1, EnvR K (hid M S H) Γ1 σ1 → (∀ vs, (∀ i ∈ slotsTs ts, i ∈ vs) → wipe σ1 vs = wipe σ vs) → Q σ1 H) → gsOf K ts vs σ H Q
  | [], [], vs, Γ, Γ1, σ, Q, hd, er, e, q => by
    rw [bindTs] at e
    cases e
    rw [gsOf]
    exact ⟨dvs_nil.mp hd, q _ er fun _ _ => rfl⟩
  | [], _ :: _, _, _, _, _, _, _, _, e, _ => by simp [bindTs] at e
  | _ :: _, [], _, _, _, _, _, _, _, e, _ => by simp [bindTs] at e
  | t :: ts, d :: ds, vs, Γ, Γ1, σ, Q, hd, er, e, q => by
    rw [bindTs] at e
    cases e2 : bindT t d Γ with
    | none => rw [e2] at e; cases e
    | some Γ2 =>
      rw [e2] at e
      obtain ⟨v, r, rfl, h2, h3⟩ := dvs_cons.mp hd
      rw [gsOf]
      refine ⟨v, r, rfl, ?_⟩
      refine g_ok t h2 er e2 fun σ2 r2 w2 => ?_
      refine gs_ok ts h3 r2 e fun σ3 r3 w3 => ?_
      refine q σ3 r3 fun vs hv => ?_
      rw [w3 vs fun i hi => hv i (by rw [slotsTs]; exact List.mem_append_right _ hi), w2 vs fun i hi => hv i (by rw [slotsTs]; exact List.mem_append_left _ hi)]
theorem wipe_set {σ : St} {i : Nat} {v : Option V} : ∀ {vs : List Nat}, i ∈ vs → wipe (σ.set i v) vs = wipe σ vs
  | [], h => by cases h
  | j :: vs, h => by
    show (wipe (σ.set i v) vs).set j none = (wipe σ vs).set j none
    rcases List.mem_cons.mp h with rfl | h
    · exact wipe_set2
    · rw [wipe_set h]
theorem wipe_set2 {σ : St} {i : Nat} {v : Option V} : ∀ {vs : List Nat}, (wipe (σ.set i v) vs).set i none = (wipe σ vs).set i none
  | [] => by
    show (σ.set i v).set i none = σ.set i none
    rw [List.set_set]
  | j :: vs => by
    show ((wipe (σ.set i v) vs).set j none).set i none = ((wipe σ vs).set j none).set i none
    by_cases e : i = j
    · subst e
      rw [List.set_set, List.set_set]
      exact wipe_set2
    · rw [List.set_comm _ _ (Ne.symm e), List.set_comm _ _ (Ne.symm e), wipe_set2]
end
def mAsg (m : ME) (t : Tg) : MS := fun De Γ M kx => m Γ M (fun d M1 => ∃ Γ1, bindT t d Γ = some Γ1 ∧ De.nx Γ1 M1) kx
def mPar (i j : Nat) (ma : MA) : MS := fun De Γ M kx => ma Γ M (fun ds M1 => ∃ d e, ds = [d, e] ∧ De.nx ((Γ.set i (some d)).set j (some e)) M1) kx
/-! ### walks -/
structure WalkD (K : PySem.W.Frag) (J : It) (ds : List D) (G : Mh → Prop) (F : Hp) : Prop where
  goes : ∀ i M S H, i < ds.length → R K M S H → Ex F (hid M S H) → G M → J.go i H
  stops : ∀ M S H, R K M S H → Ex F (hid M S H) → G M → J.stop ds.length H
  yields : ∀ (i : Nat) (d : D) M S H x H', ds[i]? = some d → R K M S H → Ex F (hid M S H) → G M → J.yld i H x H' → R K M S H' ∧ Ex (hid M S H) (hid M S H') ∧ DV K (hid M S H') d x
abbrev MI := Env → Mh → (List D → (Mh → Prop) → Mh → Prop) → XKd → Prop
def iI (K : PySem.W.Frag) (E : XK) (m : MI) : TI := fun σ H Rr => ∃ M S Γ k kx, R K M S H ∧ EnvR K (hid M S H) Γ σ ∧ m Γ M k kx ∧
  (∀ ds G M', k ds G M' → ∀ H' J, R K M' S H' → Ex (hid M S H) (hid M' S H') → WalkD K J ds G (hid M' S H') → Rr J H') ∧ KeepX K S (hid M S H) kx E
def loopFor (t : Tg) (G : Mh → Prop) (body : MS) (De : DEnds) (kx : XKd) : List D → Env → Mh → Prop
  | [], Γ, M => G M ∧ De.nx Γ M
  | d :: ds, Γ, M => G M ∧ ∃ Γ1, bindT t d Γ = some Γ1 ∧ body { De with nx := loopFor t G body De kx ds, ct := loopFor t G body De kx ds, bk := De.nx } Γ1 M kx
def mFor (t : Tg) (mi : MI) (body : MS) : MS := fun De Γ M kx => mi Γ M (fun ds G M1 => loopFor t G body De kx ds Γ M1) kx
def loopLc (t : Tg) (G : Mh → Prop) (tt : MT) (te : ME) (Γ : Env) (k : List D → Mh → Prop) (kx : XKd) : List D → List D → Mh → Prop
  | acc, [], M => G M ∧ k acc M
  | acc, d :: ds, M => G M ∧ ∃ Γ1, bindT t d Γ = some Γ1 ∧ tt Γ1 M (fun b M1 => if b = true then te Γ1 M1 (fun y M2 => loopLc t G tt te Γ k kx (acc ++ [y]) ds M2) kx else loopLc t G tt te Γ k kx acc ds M1) kx
def noX : XKd := fun _ _ => False
def mYes : MT := fun _ M k _ => k true M
def mLc (t : Tg) (mi : MI) (tt : MT) (te : ME) (vs : List Nat) : ME := fun Γ M k kx => mi Γ M (fun ds G M1 => ds.length ≤ sizeLine ∧ loopLc t G tt te (wipeD Γ vs) (fun acc M2 => k (.lst acc) M2) noX [] ds M1) kx
section
variable {X : Cx} {E : XK} {pos : Pos} {e : Expr} {m : ME} {st : Stmt} {rest : List Stmt} {ms mu : MS}
theorem KeepE.seq {K : PySem.W.Frag} {S F : Hp} {u : MS} {De : DEnds} {kx : XKd} {D : Ends} (h1 : KeepE K S F De.nx D.nx) (h2 : KeepV K S F De.rt D.rt) (h3 : KeepE K S F De.bk D.bk) (h4 : KeepE K S F De.ct D.ct) (h5 : KeepX K S F kx E) :
    KeepE K S F (fun Γ' M' => u De Γ' M' kx) (tSt K E u D) := fun Γ' M' q H' σ' r e er => ⟨M', S, Γ', De, kx, r, er, q, h1.ex e, h2.ex e, h3.ex e, h4.ex e, h5.ex e⟩
theorem dss_nil : PSs X [] (tSt X.K E mNext) := pss_le pss_nil fun D σ H ⟨M, S, Γ, De, kx, r, er, h, h1, h2, h3, h4, h5⟩ => h1 Γ M h H σ r (Ex.refl _) er
theorem dss_cons (h1 : PS X st (tSt X.K E ms)) (h2 : PSs X rest (tSt X.K E mu)) : PSs X (st :: rest) (tSt X.K E (mSeq ms mu)) :=
  pss_le (pss_cons h1 h2) fun D σ H ⟨M, S, Γ, De, kx, r, er, h, k1, k2, k3, k4, k5⟩ => ⟨M, S, Γ, _, kx, r, er, h, KeepE.seq k1 k2 k3 k4 k5, k2, k3, k4, k5⟩
theorem dss_one (h1 : PS X st (tSt X.K E ms)) : PSs X [st] (tSt X.K E ms) := pss_one h1
theorem ds_pass : PS X (.Pass pos) (tSt X.K E mNext) := ps_le ps_pass fun D σ H ⟨M, S, Γ, De, kx, r, er, h, h1, h2, h3, h4, h5⟩ => h1 Γ M h H σ r (Ex.refl _) er
theorem ds_break : PS X (.Break pos) (tSt X.K E mBreak) := ps_le ps_break fun D σ H ⟨M, S, Γ, De, kx, r, er, h, h1, h2, h3, h4, h5⟩ => h3 Γ M h H σ r (Ex.refl _) er
theorem ds_cont : PS X (.Continue pos) (tSt X.K E mCont) := ps_le ps_continue fun D σ H ⟨M, S, Γ, De, kx, r, er, h, h1, h2, h3, h4, h5⟩ => h4 Γ M h H σ r (Ex.refl _) er
theorem ds_expr (he : PE X e (tI X.K E m)) (hs : swapsWith e none pos.line X.env = pure false := by rfl) : PS X (.Expr e pos) (tSt X.K E (mDrop m)) :=
  ps_le (ps_expr he hs) fun D σ H ⟨M, S, Γ, De, kx, r, er, h, h1, h2, h3, h4, h5⟩ => ⟨M, S, Γ, _, kx, r, er, h, fun d M1 q H1 v r1 e1 d1 => h1 Γ M1 q H1 σ r1 e1 (er.mono e1), h5⟩
theorem ds_ret (he : PE X e (tI X.K E m)) : PS X (.Return (some e) pos) (tSt X.K E (mRet m)) :=
  ps_le (ps_ret he) fun D σ H ⟨M, S, Γ, De, kx, r, er, h, h1, h2, h3, h4, h5⟩ => ⟨M, S, Γ, _, kx, r, er, h, h2, h5⟩
theorem ds_retN : PS X (.Return none pos) (tSt X.K E mRetN) := ps_le ps_retN fun D σ H ⟨M, S, Γ, De, kx, r, er, h, h1, h2, h3, h4, h5⟩ => h2 _ M h H _ r (Ex.refl _) (dv_non.mpr rfl)
theorem ds_never : PS X st (tSt X.K E mNever) := ps_le ps_never fun D σ H ⟨M, S, Γ, De, kx, r, er, h, h1, h2, h3, h4, h5⟩ => h
theorem ds_if {c : Expr} {a b : List Stmt} {mc : MT} (hc : PT X c (tT X.K E mc)) (ha : PSs X a (tSt X.K E ms)) (hb : PSs X b (tSt X.K E mu)) : PS X (.If c a b pos) (tSt X.K E (mIfS mc ms mu)) := by
  refine ps_le (ps_if hc ha hb) fun D σ H ⟨M, S, Γ, De, kx, r, er, h, h1, h2, h3, h4, h5⟩ => ?_
  refine ⟨M, S, Γ, _, kx, r, er, h, fun c M1 q1 H1 r1 e1 => ?_, h5⟩
  cases c with
  | true => exact ⟨M1, S, Γ, De, kx, r1, er.mono e1, q1, h1.ex e1, h2.ex e1, h3.ex e1, h4.ex e1, h5.ex e1⟩
  | false => exact ⟨M1, S, Γ, De, kx, r1, er.mono e1, q1, h1.ex e1, h2.ex e1, h3.ex e1, h4.ex e1, h5.ex e1⟩
theorem ds_asg {tg : Expr} {t : Tg} (he : PE X e (tI X.K E m)) (hg : PG X tg (gOf X.K t)) (hs : swapsWithSole [tg] e pos.line X.env = pure false := by rfl) (hw : swappedStores [tg] e X.env = pure none := by rfl)
    (h1 : (assignEach [tg] X.env).map (·.2) = [assign tg X.env] := by rfl) : PS X (.Assign [tg] e pos) (tSt X.K E (mAsg m t)) := by
  refine ps_le (ps_asg he hg hs hw h1) fun D σ H ⟨M, S, Γ, De, kx, r, er, h, h1, h2, h3, h4, h5⟩ => ?_
  refine ⟨M, S, Γ, _, kx, r, er, h, fun d M1 ⟨Γ1, eb, q⟩ H1 v r1 e1 d1 => ?_, h5⟩
  exact g_ok t d1 (er.mono e1) eb fun σ1 e2 _ => h1 Γ1 M1 q H1 σ1 r1 e1 e2
theorem ds_set {i : Nat} {x : Str} {pos' : Pos} (hN : X.N.Nodup) (hi : X.N[i]? = some x) (hx : Loc X.env.scope x) (he : PE X e (tI X.K E m)) (hs : swapsWith e (some (.Name x pos')) pos.line X.env = pure false := by rfl) (hf : X.fn x = true ∨ X.env.scope.names.lookup x = some .local := by first | exact .inl rfl | exact .inr rfl | assumption) :
    PS X (.Assign [.Name x pos'] e pos) (tSt X.K E (mAsg m (.nm i))) := by
  refine ps_le (ps_set hN hi hx he hs hf) fun D σ H ⟨M, S, Γ, De, kx, r, er, h, h1, h2, h3, h4, h5⟩ => ?_
  refine ⟨M, S, Γ, _, kx, r, er, h, fun d M1 ⟨Γ1, eb, q⟩ H1 v r1 e1 d1 => ?_, h5⟩
  rw [bindT] at eb
  cases eb
  exact h1 _ M1 q H1 _ r1 e1 ((er.mono e1).set d1)
theorem ds_par {i j : Nat} {x y : Str} {a b : Expr} {ma : MA} {px py pt : Pos} {kt k2 pt2} (hc : X.calm = true) (hN : X.N.Nodup) (hi : X.N[i]? = some x) (hj : X.N[j]? = some y) (hij : i ≠ j)
    (hx : X.env.scope.names.lookup x = some .local) (hy : X.env.scope.names.lookup y = some .local) (ha : PA X [a, b] (tA X.K E ma))
    (hw : PS X (.Assign [.Tuple [.Name x px, .Name y py] kt pt] (.Tuple [a, b] k2 pt2) pos) (tPar i j (tA X.K E ma))) :
    PS X (.Assign [.Tuple [.Name x px, .Name y py] kt pt] (.Tuple [a, b] k2 pt2) pos) (tSt X.K E (mPar i j ma)) := by
  refine ps_le hw fun D σ H ⟨M, S, Γ, De, kx, r, er, h, h1, h2, h3, h4, h5⟩ => ?_
  refine ⟨M, S, Γ, _, kx, r, er, h, fun ds M1 ⟨d, e, eq, q⟩ H1 vs r1 e1 d1 => ?_, h5⟩
  subst eq
  obtain ⟨v, u, rfl, g1, g2⟩ := dc_two d1
  exact ⟨v, u, rfl, h1 _ M1 q H1 _ r1 e1 (((er.mono e1).set g1).set g2)⟩
/-! for -/
theorem ds_for {tg iter : Expr} {body : List Stmt} {t : Tg} {mi : MI} (hp : PassesOwn (model X.prog X.w) X.A X.env X.xe) (hc : X.calm = true) (hi : PI X tg iter (iI X.K E mi)) (hg : PG X tg (gOf X.K t)) (hb : PSs X body (tSt X.K E ms))
    (hs : ∀ x, foldedSetIterable iter X.env x = pure x := by intro _; rfl) : PS X (.For tg iter body [] pos) (tSt X.K E (mFor t mi ms)) := by
  refine ps_le (ps_for hp hc hi hg hb hs) fun D σ H ⟨M, S, Γ, De, kx, r, er, h, h1, h2, h3, h4, h5⟩ => ?_
  refine ⟨M, S, Γ, _, kx, r, er, h, fun ds G M1 q H1 J r1 e1 w => ?_, h5⟩
  refine ⟨fun i n σ' H' => n = ds.length - i ∧ i ≤ ds.length ∧ ∃ Γ' M', R X.K M' S H' ∧ EnvR X.K (hid M' S H') Γ' σ' ∧ Ex (hid M1 S H1) (hid M' S H') ∧ loopFor t G ms De kx (ds.drop i) Γ' M',
    ⟨ds.length, by omega, Nat.zero_le _, Γ, M1, r1, er.mono e1, Ex.refl _, q⟩, ?_⟩
  rintro i n σ' H' ⟨rfl, hi, Γ', M', r', er', ee, hl⟩
  by_cases hlt : i < ds.length
  · have hd : ds.drop i = ds[i] :: ds.drop (i + 1) := List.drop_eq_getElem_cons hlt
    rw [hd] at hl
    obtain ⟨hG, Γ1, eb, hbody⟩ := hl
    refine .inr ⟨w.goes i M' S H' hlt r' ee hG, fun σ2 H2 => ∃ Γ2 M2, R X.K M2 S H2 ∧ EnvR X.K (hid M2 S H2) Γ2 σ2 ∧ Ex (hid M1 S H1) (hid M2 S H2) ∧ loopFor t G ms De kx (ds.drop (i + 1)) Γ2 M2,
      fun σ2 H2 ⟨Γ2, M2, a, b, c, d⟩ => ⟨ds.length - (i + 1), by omega, rfl, hlt, Γ2, M2, a, b, c, d⟩, fun x H2 y => ?_⟩
    obtain ⟨r2, e2, d2⟩ := w.yields i ds[i] M' S H' x H2 (List.getElem?_eq_getElem hlt) r' ee hG y
    refine g_ok t d2 (er'.mono e2) eb fun σ3 er3 _ => ?_
    have e3 := ee.trans e2
    refine ⟨M', S, Γ1, _, kx, r2, er3, hbody, ?_, h2.ex (e1.trans e3), h1.ex (e1.trans e3), ?_, h5.ex (e1.trans e3)⟩
    · exact fun Γ4 M4 q4 H4 σ4 r4 e4 er4 => ⟨Γ4, M4, r4, er4, e3.trans e4, q4⟩
    · exact fun Γ4 M4 q4 H4 σ4 r4 e4 er4 => ⟨Γ4, M4, r4, er4, e3.trans e4, q4⟩
  · have hd : ds.drop i = [] := List.drop_eq_nil_of_le (by omega)
    rw [hd] at hl
    obtain ⟨hG, hn⟩ := hl
    have ei : i = ds.length := by omega
    subst ei
    exact .inl ⟨w.stops M' S H' r' ee hG, h1 Γ' M' hn H' σ' r' (e1.trans ee) er'⟩
/-! comprehensions -/
theorem pts_le {X : Cx} {e : List Expr} {t t' : TT} (h : PTs X e t) (i : ∀ σ H Q, t' σ H Q → t σ H Q) : PTs X e t' := ⟨fun pins s σ H Q I q => h.run pins s σ H Q I (i σ H Q q)⟩
theorem dts_nil : PTs X [] (tT X.K E mYes) := pts_le pts_nil fun σ H Q ⟨M, S, Γ, k, kx, r, er, h, h1, h2⟩ => h1 _ M h H r (Ex.refl _)
theorem dts_one {c : Expr} {mt : MT} (h : PT X c (tT X.K E mt)) : PTs X [c] (tT X.K E mt) := pts_one h
def addS (S : Hp) (D : Addr) (o : HO) : Hp := fun a => if a = D then some o else S a
theorem hid_addS {M : Mh} {S H : Hp} {D : Addr} {o : HO} : hid M (addS S D o) (upd H D o) = fun a => if a = D then none else hid M S H a := by
  funext a
  unfold hid addS
  by_cases e : a = D
  · subst e
    simp
  · rw [if_neg e, if_neg e, upd_ne e]
theorem XR.mono {K : PySem.W.Frag} {F F' : Hp} (e : Ex F F') {x : XD} {c : Value} {o : Option Addr} (h : XR K F x c o) : XR K F' x c o := by
  obtain ⟨h1, h2⟩ := h
  refine ⟨h1, ?_⟩
  cases q : x.fs with
  | none => rw [q] at h2; exact h2
  | some fs =>
    rw [q] at h2
    obtain ⟨d, ps, g1, g2, g3⟩ := h2
    exact ⟨d, ps, g1, e _ _ g2, KVD.mono e g3⟩
theorem wipe_wipe {σ : St} : ∀ {vs : List Nat}, wipe (wipe σ vs) vs = wipe σ vs := by
  intro vs
  have key : ∀ (us : List Nat), (∀ i ∈ us, i ∈ vs) → wipe (wipe σ us) vs = wipe σ vs := by
    intro us
    induction us with
    | nil => intro _; rfl
    | cons j us ih =>
      intro h
      show wipe ((wipe σ us).set j none) vs = wipe σ vs
      rw [wipe_set (h j (List.mem_cons_self)), ih fun i hi => h i (List.mem_cons_of_mem _ hi)]
  exact key vs fun _ h => h
theorem lc_ok {K : PySem.W.Frag} {E' : XK} {t : Tg} {tt : MT} {te : ME} {vs : List Nat} {mi : MI} (hv : ∀ i ∈ slotsT t, i ∈ vs) {σ : St} {H : Hp} {Q : VK} (h : tI K E (mLc t mi tt te vs) σ H Q) : tLc (iI K E mi) (gOf K t) (tT K E' tt) (tI K E' te) vs σ H Q := by
  obtain ⟨M, S, Γ, k, kx, r, er, h, h1, h5⟩ := h
  refine ⟨M, S, Γ, _, kx, r, er, h, fun ds G M1 ⟨hz, q⟩ H1 J r1 e1 w => ?_, h5⟩
  intro D hD
  have hM1 : M1 D = none := r1.freeM hD
  have hS : S D = none := r1.freeS hD
  -- with the new list hidden
  have hid1 : ∀ (M' : Mh) (H' : Hp) (o : HO), M' D = none → H' D = some o → hid M' (addS S D o) H' = fun a => if a = D then none else hid M' S H' a := fun M' H' o hm hh => by
    funext a
    unfold hid addS
    by_cases e : a = D
    · subst e; simp
    · rw [if_neg e, if_neg e]
  refine ⟨fun i n H' => n = ds.length - i ∧ i ≤ ds.length ∧ ∃ M' acc us, R K M' (addS S D (.lst us)) H' ∧ DVs K (hid M' (addS S D (.lst us)) H') acc us ∧ us.length ≤ i ∧ Ex (hid M1 S H1) (hid M' (addS S D (.lst us)) H') ∧ loopLc t G tt te (wipeD Γ vs) (fun acc M2 => k (.lst acc) M2) noX acc (ds.drop i) M', ⟨ds.length, by omega, Nat.zero_le _, M1, [], [], ?_, dvs_nil.mpr rfl, Nat.le_refl _, ?_, q⟩, ?_⟩
  · have rn := (r1.new (o := .lst []) hD).1
    refine ⟨fun a u e => ?_, fun a u e => ?_⟩
    · unfold addS at e
      by_cases c : a = D
      · subst c
        rw [if_pos rfl] at e
        cases e
        exact ⟨upd_same, hM1⟩
      · rw [if_neg c] at e
        exact rn.hidden a u e
    · obtain ⟨y, g1, g2⟩ := r1.chg a u e
      refine ⟨y, by rw [upd_ne (ne_of_none g1 hD)]; exact g1, g2.mono ?_⟩
      rw [hid_addS]
      intro b z hb
      have nb : b ≠ D := fun c => by subst c; rw [(hid_some.mp hb).2.2] at hD; cases hD
      show (if b = D then none else hid M1 S H1 b) = some z
      rw [if_neg nb]
      exact hb
  · rw [hid_addS]
    intro b z hb
    have nb : b ≠ D := fun c => by subst c; rw [(hid_some.mp hb).2.2] at hD; cases hD
    show (if b = D then none else hid M1 S H1 b) = some z
    rw [if_neg nb]
    exact hb
  · rintro i n H' ⟨rfl, hi, M', acc, us, r', da, hu, ee, hl⟩
    have hHD : H' D = some (.lst us) := (r'.hidden D (.lst us) (by unfold addS; rw [if_pos rfl])).1
    have hMD : M' D = none := (r'.hidden D (.lst us) (by unfold addS; rw [if_pos rfl])).2
    -- the same without hiding it
    have unh : ∀ {M'' : Mh} {H'' : Hp} {us' : List V}, R K M'' (addS S D (.lst us')) H'' → R K M'' S H'' ∧ Ex (hid M'' (addS S D (.lst us')) H'') (hid M'' S H'') := fun {M'' H'' us'} rr => by
      have ex : Ex (hid M'' (addS S D (.lst us')) H'') (hid M'' S H'') := fun b z hb => by
        obtain ⟨g1, g2, g3⟩ := hid_some.mp hb
        refine hid_some.mpr ⟨g1, ?_, g3⟩
        unfold addS at g2
        split at g2
        · cases g2
        · exact g2
      refine ⟨⟨fun a u e => rr.hidden a u ?_, fun a u e => ?_⟩, ex⟩
      · unfold addS
        have : a ≠ D := fun c => by subst c; rw [hS] at e; cases e
        rw [if_neg this]
        exact e
      · obtain ⟨y, g1, g2⟩ := rr.chg a u e
        exact ⟨y, g1, g2.mono ex⟩
    obtain ⟨ru, eu⟩ := unh r'
    by_cases hlt : i < ds.length
    · have hd : ds.drop i = ds[i] :: ds.drop (i + 1) := List.drop_eq_getElem_cons hlt
      rw [hd] at hl
      obtain ⟨hG, Γ1, eb, htest⟩ := hl
      refine .inr ⟨w.goes i M' _ H' hlt r' ee hG, fun H2 => ∃ M2 acc us, R K M2 (addS S D (.lst us)) H2 ∧ DVs K (hid M2 (addS S D (.lst us)) H2) acc us ∧ us.length ≤ i + 1 ∧ Ex (hid M1 S H1) (hid M2 (addS S D (.lst us)) H2) ∧ loopLc t G tt te (wipeD Γ vs) (fun acc M2 => k (.lst acc) M2) noX acc (ds.drop (i + 1)) M2,
        fun H2 ⟨M2, acc, us, a, b, c, d, e⟩ => ⟨ds.length - (i + 1), by omega, rfl, hlt, M2, acc, us, a, b, c, d, e⟩, fun x H2 y => ?_⟩
      -- the item, the list hidden
      obtain ⟨r2, e2, d2⟩ := w.yields i ds[i] M' _ H' x H2 (List.getElem?_eq_getElem hlt) r' ee hG y
      have e02 : Ex (hid M S H) (hid M' (addS S D (.lst us)) H2) := e1.trans (ee.trans e2)
      have kxS : ∀ {F' : Hp}, KeepX K (addS S D (.lst us)) F' noX E' := fun {F'} _ _ z => z.elim
      refine g_ok t d2 ((er.wipe vs).mono e02) eb fun σ1 er1 hw => ⟨by rw [hw vs hv, wipe_wipe], ?_⟩
      refine ⟨M', addS S D (.lst us), Γ1, _, noX, r2, er1, htest, fun b M3 q3 H3 r3 e3 => ?_, kxS⟩
      cases b with
      | false => exact ⟨M3, acc, us, r3, da.mono (e2.trans e3) _, by omega, ee.trans (e2.trans e3), q3⟩
      | true =>
        refine ⟨M3, addS S D (.lst us), Γ1, _, noX, r3, er1.mono e3, q3, fun y4 M4 q4 H4 v4 r4 e4 d4 => ?_, kxS⟩
        have hHD4 : H4 D = some (.lst us) := (r4.hidden D (.lst us) (by unfold addS; rw [if_pos rfl])).1
        have hMD4 : M4 D = none := (r4.hidden D (.lst us) (by unfold addS; rw [if_pos rfl])).2
        have eh : hid M4 (addS S D (.lst (us ++ [v4]))) (upd H4 D (.lst (us ++ [v4]))) = hid M4 (addS S D (.lst us)) H4 := by
          funext b
          unfold hid addS
          by_cases c : b = D
          · subst c; simp
          · rw [if_neg c, if_neg c, upd_ne c]
        refine ⟨us, hHD4, by omega, M4, acc ++ [y4], us ++ [v4], ⟨fun b u e => ?_, fun b u e => ?_⟩, ?_, by rw [List.length_append, List.length_singleton]; omega, ?_, q4⟩
        · unfold addS at e
          by_cases c : b = D
          · subst c
            rw [if_pos rfl] at e
            cases e
            exact ⟨upd_same, hMD4⟩
          · rw [if_neg c] at e
            rw [upd_ne c]
            exact r4.hidden b u (by unfold addS; rw [if_neg c]; exact e)
        · obtain ⟨y, g1, g2⟩ := r4.chg b u e
          have nb : b ≠ D := fun c => by subst c; rw [hMD4] at e; cases e
          exact ⟨y, by rw [upd_ne nb]; exact g1, by rw [eh]; exact g2⟩
        · rw [eh]
          exact (da.mono (e2.trans (e3.trans e4)) _).append (DVs.one d4)
        · rw [eh]
          exact ee.trans (e2.trans (e3.trans e4))
    · have hd : ds.drop i = [] := List.drop_eq_nil_of_le (by omega)
      rw [hd] at hl
      obtain ⟨hG, hn⟩ := hl
      have ei : i = ds.length := by omega
      subst ei
      refine .inl ⟨w.stops M' _ H' r' ee hG, ?_⟩
      refine h1 _ M' hn H' _ ru (e1.trans (ee.trans eu)) (dv_lst.mpr ⟨D, us, rfl, hid_some.mpr ⟨hMD, hS, hHD⟩, da.mono eu _⟩)
end
end DL
namespace DL
open PySem L2 PySem.Spec PyProof.Rows
section
variable {X : Cx} {E E' : XK} {tg iter elt : Expr} {pos : Pos} {t : Tg} {mi : MI} {tt : MT} {te : ME} {ifs : List Expr} {scope : Scope} {own : List (Str × Nat)}
theorem de_lc (hc : X.calm = true) (hN : X.N.Nodup) (hi : PI X tg iter (iI X.K E mi)) (ok : BlkOk X.N X.env.scope scope own) (hv : ∀ i ∈ slotsT t, i ∈ own.map (·.2))
    (hg : ∀ (s : Shared) (H : Hp) (C : Addr) (cl : List (Str × Addr)) (fp : List Addr), PG (X.blk s H scope (compEnvC scope cl C X.env) fp) tg (gOf X.K t))
    (ht : ∀ (s : Shared) (H : Hp) (C : Addr) (cl : List (Str × Addr)) (fp : List Addr), PTs (X.blk s H scope (compEnvC scope cl C X.env) fp) ifs (tT X.K E' tt))
    (he : ∀ (s : Shared) (H : Hp) (C : Addr) (cl : List (Str × Addr)) (fp : List Addr), PE (X.blk s H scope (compEnvC scope cl C X.env) fp) elt (tI X.K E' te)) (hs : ∀ x, foldedSetIterable iter X.env x = pure x := by intro _; rfl) :
    PE X (.ListComp elt [⟨tg, iter, ifs, 0⟩] scope pos) (tI X.K E (mLc t mi tt te (own.map (·.2)))) :=
  pe_le (pe_lc hc hN hi ok hg ht he hs) fun _ _ _ h => lc_ok hv h
theorem ds_setLc {i : Nat} {y : Str} {py spos : Pos} (hc : X.calm = true) (hN : X.N.Nodup) (hy : X.N[i]? = some y) (hyl : X.env.scope.names.lookup y = some .local)
    (hsw : swapsWith (.ListComp elt [⟨tg, iter, ifs, 0⟩] scope pos) (some (.Name y py)) spos.line X.env = pure true) (hi : PI X tg iter (iI X.K E mi)) (ok : BlkOk X.N X.env.scope scope own) (hv : ∀ i ∈ slotsT t, i ∈ own.map (·.2))
    (hg : ∀ (s : Shared) (H : Hp) (C : Addr) (cl : List (Str × Addr)) (fp : List Addr), PG (X.blk s H scope (compEnvC scope cl C X.env) fp) tg (gOf X.K t))
    (ht : ∀ (s : Shared) (H : Hp) (C : Addr) (cl : List (Str × Addr)) (fp : List Addr), PTs (X.blk s H scope (compEnvC scope cl C X.env) fp) ifs (tT X.K E' tt))
    (he : ∀ (s : Shared) (H : Hp) (C : Addr) (cl : List (Str × Addr)) (fp : List Addr), PE (X.blk s H scope (compEnvC scope cl C X.env) fp) elt (tI X.K E' te)) (hs : ∀ x, foldedSetIterable iter X.env x = pure x := by intro _; rfl) :
    PS X (.Assign [.Name y py] (.ListComp elt [⟨tg, iter, ifs, 0⟩] scope pos) spos) (tSt X.K E (mAsg (mLc t mi tt te (own.map (·.2))) (.nm i))) := by
  refine ps_le (ps_setLc hc hN hy hyl hsw hi ok hg ht he hs) fun D σ H ⟨M, S, Γ, De, kx, r, er, h, h1, h2, h3, h4, h5⟩ => ?_
  refine lc_ok hv ⟨M, S, Γ, _, kx, r, er, h, fun d M1 ⟨Γ1, eb, q⟩ H1 v r1 e1 d1 => ?_, h5⟩
  rw [bindT] at eb
  cases eb
  exact h1 _ M1 q H1 _ r1 e1 ((er.mono e1).set d1)
end
/-! ### what is walked -/
def anyG : Mh → Prop := fun _ => True
def signs (z : Str) : List D := z.cps.toList.map fun c => .str ⟨#[c]⟩
def mSeqI (m : ME) : MI := fun Γ M k kx => m Γ M (fun d M1 => match d with
  | .str z => k (signs z) anyG M1
  | .tup ds => k ds anyG M1
  | .lst ds => k ds anyG M1
  | .ref a => ∃ ds, M1 a = some (.lst ds) ∧ k ds (fun M => M a = some (.lst ds)) M1
  | _ => False) kx
def intsD (lo : Int) (n : Nat) : List D := (List.range n).map fun (i : Nat) => D.int (lo + (i : Int))
def mRange1 (ma : ME) : MI := fun Γ M k kx => ma Γ M (fun d M1 => ∃ j : Int, d = .int j ∧ -(2 ^ 62) ≤ j ∧ j < 2 ^ 62 ∧ k (intsD 0 j.toNat) anyG M1) kx
def pairs (xs ys : List D) : List D := (xs.zip ys).map fun p => .tup [p.1, p.2]
def mZip (ma mb : ME) : MI := fun Γ M k kx => ma Γ M (fun d M1 => mb Γ M1 (fun e M2 => match d, e with
  | .tup xs, .tup ys => k (pairs xs ys) anyG M2
  | d, e => ∃ xs ys, lsOf M2 d = some xs ∧ lsOf M2 e = some ys ∧ k (pairs xs ys) (fun M => lsOf M d = some xs ∧ lsOf M e = some ys) M2) kx) kx
section
variable {K : PySem.W.Frag}
theorem walkD_list {a : Addr} {vs : List V} {ds : List D} {F : Hp} (h : F a = some (.lst vs)) (hd : DVs K F ds vs) : WalkD K (Itl K a) ds anyG F := by
  have sq : ∀ {M : Mh} {S H : Hp}, Ex F (hid M S H) → SqL K H a vs := fun e => SqL.of (hid_le _ _ _ _ _ (e _ _ h))
  refine ⟨fun i M S H hi _ e _ => ?_, fun M S H _ e _ => ⟨vs, sq e, by rw [hd.length]; exact Nat.le_refl _⟩, fun i d M S H x H' q r e _ y => ?_⟩
  · rw [hd.length] at hi
    exact ⟨vs, vs[i], sq e, List.getElem?_eq_getElem hi⟩
  · obtain ⟨rfl, y⟩ := y
    obtain ⟨v, g1, g2⟩ := hd.get q
    have g3 := y vs (sq e)
    rw [g1] at g3
    cases g3
    exact ⟨r, Ex.refl _, g2.mono e _⟩
theorem walkD_mut {a : Addr} {ds : List D} {F : Hp} : WalkD K (Itl K a) ds (fun M => M a = some (.lst ds)) F := by
  have sq : ∀ {M : Mh} {S H : Hp}, R K M S H → M a = some (.lst ds) → ∃ vs, SqL K H a vs ∧ DVs K (hid M S H) ds vs := fun r g => by
    obtain ⟨u, h1, vs, rfl, h2⟩ := r.chg a _ g
    exact ⟨vs, SqL.of h1, h2⟩
  refine ⟨fun i M S H hi r _ g => ?_, fun M S H r _ g => ?_, fun i d M S H x H' q r e g y => ?_⟩
  · obtain ⟨vs, h1, h2⟩ := sq r g
    rw [h2.length] at hi
    exact ⟨vs, vs[i], h1, List.getElem?_eq_getElem hi⟩
  · obtain ⟨vs, h1, h2⟩ := sq r g
    exact ⟨vs, h1, by rw [h2.length]; exact Nat.le_refl _⟩
  · obtain ⟨vs, h1, h2⟩ := sq r g
    obtain ⟨rfl, y⟩ := y
    obtain ⟨v, g1, g2⟩ := h2.get q
    have g3 := y vs h1
    rw [g1] at g3
    cases g3
    exact ⟨r, Ex.refl _, g2⟩
theorem walkD_tup {a : Addr} {vs : List V} {ds : List D} {F : Hp} (h : SqT K F a vs) (hd : DVs K F ds vs) : WalkD K (Itt K a) ds anyG F := by
  have sq : ∀ {M : Mh} {S H : Hp}, Ex F (hid M S H) → SqT K H a vs := fun e => (e.trans (hid_le _ _ _)).sqT h
  refine ⟨fun i M S H hi _ e _ => ?_, fun M S H _ e _ => ⟨vs, sq e, by rw [hd.length]; exact Nat.le_refl _⟩, fun i d M S H x H' q r e _ y => ?_⟩
  · rw [hd.length] at hi
    exact ⟨vs, vs[i], sq e, List.getElem?_eq_getElem hi⟩
  · obtain ⟨rfl, y⟩ := y
    obtain ⟨v, g1, g2⟩ := hd.get q
    have g3 := y vs (sq e)
    rw [g1] at g3
    cases g3
    exact ⟨r, Ex.refl _, g2.mono e _⟩
theorem walkD_str {z : Str} {F : Hp} : WalkD K (Its z) (signs z) anyG F := by
  have hl : (signs z).length = z.cps.size := by unfold signs; simp
  refine ⟨fun i M S H hi _ _ _ => ?_, fun M S H _ _ _ => ?_, fun i d M S H x H' q r e _ y => ?_⟩
  · rw [hl] at hi
    exact walk_str.goes i H hi trivial
  · rw [hl]
    exact walk_str.stops H trivial
  · have hi : i < z.cps.size := by
      rw [← hl]
      exact (List.getElem?_eq_some_iff.mp q).1
    obtain ⟨rfl, c, g1, rfl⟩ := walk_str.yields i H x H' hi trivial y
    refine ⟨r, Ex.refl _, ?_⟩
    unfold signs at q
    rw [List.getElem?_map] at q
    have g2 : z.cps.toList[i]? = some c := by simpa using g1
    rw [g2] at q
    cases q
    exact dv_str.mpr rfl
theorem walkD_range {lo : Int} {n : Nat} {F : Hp} : WalkD K (Itr lo n) (intsD lo n) anyG F := by
  have hl : (intsD lo n).length = n := by unfold intsD; simp
  refine ⟨fun i M S H hi _ _ _ => by rw [hl] at hi; exact hi, fun M S H _ _ _ => by rw [hl]; exact Nat.le_refl _, fun i d M S H x H' q r e _ y => ?_⟩
  obtain ⟨rfl, rfl⟩ := y
  refine ⟨r, Ex.refl _, ?_⟩
  unfold intsD at q
  rw [List.getElem?_map] at q
  have hi : i < n := by
    cases c : (List.range n)[i]? with
    | none => rw [c] at q; cases q
    | some j => have := (List.getElem?_eq_some_iff.mp c).1; simpa using this
  rw [List.getElem?_range hi] at q
  cases q
  exact dv_int.mpr rfl
theorem pairs_get {xs ys : List D} {i : Nat} {d : D} (h : (pairs xs ys)[i]? = some d) : ∃ x y, xs[i]? = some x ∧ ys[i]? = some y ∧ d = .tup [x, y] := by
  unfold pairs at h
  rw [List.getElem?_map] at h
  cases c : (xs.zip ys)[i]? with
  | none => rw [c] at h; cases h
  | some p =>
    rw [c] at h
    cases h
    obtain ⟨h1, h2⟩ := List.getElem?_zip_eq_some.mp c
    exact ⟨p.1, p.2, h1, h2, rfl⟩
theorem pairs_len (xs ys : List D) : (pairs xs ys).length = min xs.length ys.length := by unfold pairs; simp
/-- the pair that a walk lays anew -/
theorem pair_new {M : Mh} {S H : Hp} {T : Addr} {v u : V} {d e : D} (r : R K M S H) (hT : H T = none) (h1 : DV K (hid M S H) d v) (h2 : DV K (hid M S H) e u) :
    R K M S (upd H T (.tup [v, u])) ∧ Ex (hid M S H) (hid M S (upd H T (.tup [v, u]))) ∧ DV K (hid M S (upd H T (.tup [v, u]))) (.tup [d, e]) (.ref T) := new_tup r hT (DVs.two h1 h2)
theorem walkD_zipT {a b : Addr} {vs us : List V} {xs ys : List D} {F : Hp} (h : SqT K F a vs) (hx : DVs K F xs vs) (h' : SqT K F b us) (hy : DVs K F ys us) : WalkD K (RZ.ItzT K a b) (pairs xs ys) anyG F := by
  have sq1 : ∀ {M : Mh} {S H : Hp}, Ex F (hid M S H) → SqT K H a vs := fun e => (e.trans (hid_le _ _ _)).sqT h
  have sq2 : ∀ {M : Mh} {S H : Hp}, Ex F (hid M S H) → SqT K H b us := fun e => (e.trans (hid_le _ _ _)).sqT h'
  have hl : (pairs xs ys).length = min vs.length us.length := by rw [pairs_len, hx.length, hy.length]
  refine ⟨fun i M S H hi _ e _ => ?_, fun M S H _ e _ => ?_, fun i d M S H x H' q r e _ y => ?_⟩
  · rw [hl] at hi
    exact ⟨vs, us, vs[i]'(by omega), us[i]'(by omega), sq1 e, sq2 e, List.getElem?_eq_getElem (by omega), List.getElem?_eq_getElem (by omega)⟩
  · exact ⟨vs, us, sq1 e, sq2 e, by rw [hl]; omega⟩
  · obtain ⟨d1, d2, q1, q2, rfl⟩ := pairs_get q
    obtain ⟨T, x1, x2, rfl, hT, rfl, g1, g2⟩ := y
    obtain ⟨w1, k1, k2⟩ := hx.get q1
    obtain ⟨w2, k3, k4⟩ := hy.get q2
    cases k1.symm.trans (g1 vs (sq1 e))
    cases k3.symm.trans (g2 us (sq2 e))
    exact pair_new r hT (k2.mono e _) (k4.mono e _)
theorem walkD_zipL {a b : Addr} {d e : D} {va vb : V} {xs ys : List D} {F : Hp} (ha : DV K F d (.ref a)) (hb : DV K F e (.ref b)) :
    WalkD K (Itz K a b) (pairs xs ys) (fun M => lsOf M d = some xs ∧ lsOf M e = some ys) F := by
  have sq : ∀ {M : Mh} {S H : Hp}, R K M S H → Ex F (hid M S H) → (lsOf M d = some xs ∧ lsOf M e = some ys) → ∃ vs us, (SqL K H a vs ∧ SqL K H b us) ∧ DVs K (hid M S H) xs vs ∧ DVs K (hid M S H) ys us := fun r ex g => by
    obtain ⟨a', vs, e1, h1, h2⟩ := ls_sq r (ha.mono ex _) g.1
    obtain ⟨b', us, e2, h3, h4⟩ := ls_sq r (hb.mono ex _) g.2
    cases e1
    cases e2
    exact ⟨vs, us, ⟨SqL.of h1, SqL.of h3⟩, h2, h4⟩
  refine ⟨fun i M S H hi r ex g => ?_, fun M S H r ex g => ?_, fun i dd M S H x H' q r ex g y => ?_⟩
  · obtain ⟨vs, us, h1, h2, h3⟩ := sq r ex g
    rw [pairs_len, h2.length, h3.length] at hi
    exact (walk_zip rfl).goes i H hi h1
  · obtain ⟨vs, us, h1, h2, h3⟩ := sq r ex g
    rw [pairs_len, h2.length, h3.length]
    exact (walk_zip rfl).stops H h1
  · obtain ⟨vs, us, h1, h2, h3⟩ := sq r ex g
    have hi := (List.getElem?_eq_some_iff.mp q).1
    rw [pairs_len, h2.length, h3.length] at hi
    obtain ⟨d1, d2, q1, q2, rfl⟩ := pairs_get q
    obtain ⟨T, x1, x2, rfl, hT, rfl, g1, g2⟩ := (walk_zip rfl).yields i H x H' hi h1 y
    obtain ⟨w1, k1, k2⟩ := h2.get q1
    obtain ⟨w2, k3, k4⟩ := h3.get q2
    cases k1.symm.trans g1
    cases k3.symm.trans g2
    exact pair_new r hT k2 k4
end
section
variable {X : Cx} {E : XK} {tg l e1 e2 : Expr} {m ma mb : ME} {p pos tpos : Pos}
theorem pi_le {X : Cx} {tg iter : Expr} {w w' : TI} (h : PI X tg iter w) (i : ∀ σ H R, w' σ H R → w σ H R) : PI X tg iter w' := ⟨fun pins s σ H R I q => h.run pins s σ H R I (i σ H R q)⟩
/-- a text, a tuple, a list, whichever it is -/
def iAny (K : PySem.W.Frag) (tl : TE) : TI := fun σ H Rr => tl σ H fun x H1 => (∃ z, x = .str z ∧ Rr (Its z) H1) ∨ (∃ a xs, x = .ref a ∧ SqT K H1 a xs ∧ Rr (Itt K a) H1) ∨ ∃ a xs, x = .ref a ∧ SqL K H1 a xs ∧ Rr (Itl K a) H1
theorem pi_any {tl : TE} (hl : PE X l tl) : PI X tg l (iAny X.K tl) := by
  refine ⟨fun pins s σ H Rr I hq => thn (hl.run pins s σ H _ I hq) fun u s1 ⟨x, H1, I1, r1, q1⟩ => ?_⟩
  rcases q1 with ⟨z, ex, q⟩ | ⟨a, xs, ex, hx, q⟩ | ⟨a, xs, ex, hx, q⟩
  · subst ex
    obtain ⟨tk, rfl⟩ := r1
    cases hz : z.cps.all (· < 128) with
    | false => exact wpAny_pyIter_wide hz (pi_one (tk := s1.toks) I1 _ (turn_str _ z tk "str_iterator" (.inr rfl)) ⟨_, Heap.get?_push_size _ rfl, rfl, rfl⟩ q)
    | true => exact wpAny_pyIter_ascii hz (pi_one (tk := s1.toks) I1 _ (turn_str _ z tk "str_ascii_iterator" (.inl rfl)) ⟨_, Heap.get?_push_size _ rfl, rfl, rfl⟩ q)
  · subst ex
    cases r1
    obtain ⟨its, _, hT, _⟩ := I1.tuple hx
    exact wpAny_pyIter_tuple (show s1.heap.IsTuple a its.toArray from hT) (pi_one (tk := s1.toks) I1 _ (turn_tuple a _) ⟨_, Heap.get?_push_size _ rfl, rfl, rfl⟩ q)
  · subst ex
    cases r1
    obtain ⟨its, _, hT, _⟩ := I1.list hx
    exact wpAny_pyIter_list hT.isList (pi_one (tk := s1.toks) I1 _ (turn_list a _) ⟨_, Heap.get?_push_size _ rfl, rfl, rfl⟩ q)
theorem di_seq (hl : PE X l (tI X.K E m)) : PI X tg l (iI X.K E (mSeqI m)) := by
  refine pi_le (pi_any hl) fun σ H Rr ⟨M, S, Γ, k, kx, r, er, h, h1, h5⟩ => ?_
  refine ⟨M, S, Γ, _, kx, r, er, h, fun d M1 q H1 v r1 e1 d1 => ?_, h5⟩
  cases d with
  | str z => exact .inl ⟨z, dv_str.mp d1, h1 _ _ M1 q H1 _ r1 e1 walkD_str⟩
  | tup ds =>
    obtain ⟨a, vs, rfl, g1, g2⟩ := dv_tup.mp d1
    exact .inr (.inl ⟨a, vs, rfl, (hid_le _ _ _).sqT g1, h1 _ _ M1 q H1 _ r1 e1 (walkD_tup g1 g2)⟩)
  | lst ds =>
    obtain ⟨a, vs, rfl, g1, g2⟩ := dv_lst.mp d1
    exact .inr (.inr ⟨a, vs, rfl, SqL.of (hid_le _ _ _ _ _ g1), h1 _ _ M1 q H1 _ r1 e1 (walkD_list g1 g2)⟩)
  | ref a =>
    obtain ⟨ds, q0, q⟩ := q
    obtain ⟨u, g1, vs, rfl, g2⟩ := r1.chg a _ q0
    exact .inr (.inr ⟨a, vs, dv_ref.mp d1, SqL.of g1, h1 _ _ M1 q H1 _ r1 e1 walkD_mut⟩)
  | non => exact q.elim
  | bl _ => exact q.elim
  | int _ => exact q.elim
  | ty _ => exact q.elim
  | scr _ => exact q.elim
  | exc _ _ _ _ => exact q.elim
theorem di_range1 (hg : Gl X "range") (hm : X.mg "range" = none) (ha : PE X l (tI X.K E m)) (hs : starEach [l] X.env = [(false, eval l X.env)] := by rfl) : PI X tg (.Call (.Name "range" p) [l] [] pos) (iI X.K E (mRange1 m)) := by
  refine pi_le (pi_range1 hg hm (pa_cons ha pa_nil hs) hs) fun σ H Rr ⟨M, S, Γ, k, kx, r, er, h, h1, h5⟩ => ?_
  refine ⟨M, S, Γ, _, kx, r, er, h, fun d M1 ⟨j, ej, q1, q2, q⟩ H1 v r1 e1 d1 => ?_, h5⟩
  subst ej
  refine ⟨j, by rw [dv_int.mp d1], q1, q2, h1 _ _ M1 q H1 _ r1 e1 walkD_range⟩
theorem di_zip {elts : List Expr} {kk : Nat} (hg : Gl X "zip") (hm : X.mg "zip" = none) (ha : PE X e1 (tI X.K E ma)) (hb : PE X e2 (tI X.K E mb)) (hs2 : starEach [e2] X.env = [(false, eval e2 X.env)] := by rfl)
    (hs : starEach [e1, e2] X.env = (false, eval e1 X.env) :: starEach [e2] X.env := by rfl) (hpl : (backTo pos (starEach [e2] X.env)).any (·.1) = false := by rfl) :
    PI X (.Tuple elts kk tpos) (.Call (.Name "zip" p) [e1, e2] [] pos) (iI X.K E (mZip ma mb)) := by
  refine pi_le (RZ.pi_zipA hg hm (pa_cons ha (pa_cons hb pa_nil hs2) hs) hs hpl) fun σ H Rr ⟨M, S, Γ, k, kx, r, er, h, h1, h5⟩ => ?_
  refine ⟨M, S, Γ, _, kx, r, er, h, fun d M1 q H1 v r1 e1 d1 => ?_, h5⟩
  refine ⟨M1, S, Γ, _, kx, r1, er.mono e1, q, fun e M2 q2 H2 u r2 e2 d2 => ?_, h5.ex e1⟩
  have d1' := d1.mono e2 _
  dsimp only at q2
  split at q2
  · obtain ⟨a, vs, rfl, g1, g2⟩ := dv_tup.mp d1'
    obtain ⟨b, us, rfl, g3, g4⟩ := dv_tup.mp d2
    exact ⟨a, b, vs, us, rfl, .inr ⟨(hid_le _ _ _).sqT g1, (hid_le _ _ _).sqT g3, h1 _ _ M2 q2 H2 _ r2 (e1.trans e2) (walkD_zipT g1 g2 g3 g4)⟩⟩
  · obtain ⟨xs, ys, l1, l2, q2⟩ := q2
    obtain ⟨a, vs, rfl, g1, g2⟩ := ls_sq r2 d1' l1
    obtain ⟨b, us, rfl, g3, g4⟩ := ls_sq r2 d2 l2
    exact ⟨a, b, vs, us, rfl, .inl ⟨SqL.of g1, SqL.of g3, h1 _ _ M2 q2 H2 _ r2 (e1.trans e2) (walkD_zipL (va := .non) (vb := .non) d1' d2)⟩⟩
end
end DL
namespace DL
open PySem L2 PySem.Spec PyProof.Rows
/-! ### o[i] = e, for a list that may change -/
def mSetIx (me mo mi : ME) : MS := fun De Γ M kx => me Γ M (fun d M1 => mo Γ M1 (fun o M2 => mi Γ M2 (fun i M3 => ∃ a ds j n, o = .ref a ∧ M3 a = some (.lst ds) ∧ i = .int n ∧ ixN ds.length n = some j ∧ De.nx Γ (setM M3 a (.lst (ds.set j d)))) kx) kx) kx
section
variable {X : Cx} {E : XK} {e o i : Expr} {me mo mi : ME} {pos p2 : Pos}
theorem ds_setIx (he : PE X e (tI X.K E me)) (ho : PE X o (tI X.K E mo)) (hi : PE X i (tI X.K E mi))
    (ha : ∀ v, assign (.Subscript o i p2) X.env v = (do
      let ov ← holding [v] (eval o X.env)
      let iv ← holding [v, ov] (eval i X.env)
      standAt p2
      holding [v, ov, iv] (setItem ov iv v)
      release [v, ov, iv] []) := by intro _; rfl)
    (hs : swapsWithSole [.Subscript o i p2] e pos.line X.env = pure false := by rfl) (hw : swappedStores [.Subscript o i p2] e X.env = pure none := by rfl)
    (h1 : (assignEach [.Subscript o i p2] X.env).map (·.2) = [assign (.Subscript o i p2) X.env] := by rfl) : PS X (.Assign [.Subscript o i p2] e pos) (tSt X.K E (mSetIx me mo mi)) := by
  refine ps_le (ps_asg he (pg_sub ho hi set_list ha) hs hw h1) fun D σ H ⟨M, S, Γ, De, kx, r, er, h, h1, h2, h3, h4, h5⟩ => ?_
  refine ⟨M, S, Γ, _, kx, r, er, h, fun d M1 q1 H1 v1 r1 e1 d1 => ?_, h5⟩
  refine ⟨M1, S, Γ, _, kx, r1, er.mono e1, q1, fun oo M2 q2 H2 v2 r2 e2 d2 => ?_, h5.ex e1⟩
  refine ⟨M2, S, Γ, _, kx, r2, er.mono (e1.trans e2), q2, fun ii M3 q3 H3 v3 r3 e3 d3 => ?_, h5.ex (e1.trans e2)⟩
  obtain ⟨a, ds, j, n, rfl, g1, rfl, g2, q⟩ := q3
  obtain ⟨u, g3, vs, rfl, g4⟩ := r3.chg a _ g1
  have d1' := d1.mono (e2.trans e3) _
  have hs : (M3 a).isSome = true := by rw [g1]; rfl
  refine ⟨a, vs, n, j, dv_ref.mp d2, dv_int.mp d3, g3, by rw [← g4.length]; exact g2, ?_⟩
  refine h1 Γ _ q _ σ (r3.put (.inl hs) ⟨_, rfl, g4.set d1' j⟩) ?_ ?_
  · rw [hid_set _ _ _ _ _ _ (.inl hs)]
    exact (e1.trans e2).trans e3
  · rw [hid_set _ _ _ _ _ _ (.inl hs)]
    exact er.mono ((e1.trans e2).trans e3)
end
/-! ### a def -/
def startD (n : Nat) (ds : List D) : Env := ds.map some ++ List.replicate (n - ds.length) none
theorem start_ok {K : PySem.W.Frag} {F : Hp} {N : List Str} {ds : List D} {vs : List V} (h : DVs K F ds vs) : EnvR K F (startD N.length ds) (L2.start N vs) := by
  unfold startD L2.start
  refine ⟨by simp [h.length], fun i d q => ?_⟩
  rw [h.length] at q
  by_cases hi : i < ds.length
  · rw [List.getElem?_append_left (by simpa using hi), List.getElem?_map] at q
    cases c : ds[i]? with
    | none => rw [c] at q; cases q
    | some e =>
      rw [c] at q
      cases q
      obtain ⟨v, g1, g2⟩ := h.get c
      refine ⟨v, ?_, g2⟩
      rw [List.getElem?_append_left (by rw [List.length_map, ← h.length]; exact hi), List.getElem?_map, g1]
      rfl
  · rw [List.getElem?_append_right (by simpa using hi), List.getElem?_replicate] at q
    split at q
    · cases q
    · cases q
theorem passN {X : Cx} {E : XK} : Passes CX0 X E := fun _ _ _ _ _ _ _ h => h.elim
section
variable {P : Program} {w : World} {K : PySem.W.Frag} {mg : Str → Option Value} {base : Heap} {x qual : Str} {params : Arguments} {body : List Stmt} {scope : Scope} {dvs : List V} {kws : List (Str × V)} {f : Addr} {fd : FuncData}
/-- a def that lets no exception out -/
theorem d_ok0 {N ps : List Str} {k : Nat} {m : MS} {s : MF} (F : FunD K x qual params body scope dvs kws f fd) (S : FnScope N ps scope)
    (hb : ∀ (cdv : Value) (A : Around) (outer : List PySem.Env) (sh : Shared) (H : Hp) (E : XK), Room k (A.deeper (envOfC qual scope sh.heap.objs.size f cdv)) → PSs (cxOf CX0 P w K mg base N qual scope f cdv A outer sh H E).nox body (tSt K E0 m))
    (len : ∀ ds M k kx, s ds M k kx → ds.length = ps.length)
    (hs : ∀ ds M k kx, s ds M k kx → m { nx := fun _ M' => k .non M', rt := k } (startD N.length ds) M noX) : FnOk P w K mg base CX0 (k + 1) f fd ps (spI K s) := by
  refine F.ok S (fun vs H Q E ⟨M, S, ds, k, kx, r, hd, h, _⟩ => by rw [← hd.length]; exact len _ _ _ _ h) fun cdv A outer sh H vs Q E hr ⟨M, S, ds, k, kx, r, hd, h, kv, kxx⟩ => ⟨_, PSs.nox (hb cdv A outer sh H E hr), ?_⟩
  refine ⟨M, S, _, _, noX, r, start_ok hd, hs _ _ _ _ h, fun Γ' M' q H' σ' r' e' er' => kv _ M' q H' _ r' e' (dv_non.mpr rfl), kv, fun Γ' M' q => q.elim, fun Γ' M' q => q.elim, fun _ _ q => q.elim⟩
theorem FnOk.spec {CX : CXT} {ps : List Str} {k : Nat} {s s' : MF} (F : FnOk P w K mg base CX k f fd ps (spI K s)) (h : ∀ ds M k kx, s' ds M k kx → s ds M k kx) : FnOk P w K mg base CX k f fd ps (spI K s') :=
  F.imp fun vs H Q E ⟨M, S, ds, k, kx, r, hd, q, kv, kxx⟩ => ⟨M, S, ds, k, kx, r, hd, h _ _ _ _ q, kv, kxx⟩
end
/-! ### the box -/
def BoxD (ds : List D) : Prop := ∃ (ns : List Int) (i big mix cnt : Int), ds = [.lst (ns.map D.int), .int i, .int big, .int mix, .int cnt] ∧ 0 ≤ i ∧ 0 ≤ big ∧ 0 ≤ mix ∧ mix < 2147483648
section
variable {K : PySem.W.Frag} {M : Mh} {S H : Hp} {b : Addr}
theorem hid_dom {M M' : Mh} {S H : Hp} (h : ∀ a, (M a).isSome = (M' a).isSome) : hid M S H = hid M' S H := by
  funext a
  unfold hid
  rw [h a]
theorem setM_dom {m : MO} (h : (M b).isSome = true) : ∀ a, (setM M b m a).isSome = (M a).isSome := fun a => by
  unfold setM
  split
  · rename_i e; rw [e, h]; rfl
  · rfl
theorem R.view {m m' : MO} (r : R K M S H) (h : M b = some m) (hm : ∀ u, H b = some u → MOR K (hid M S H) m u → MOR K (hid M S H) m' u) : R K (setM M b m') S H ∧ hid (setM M b m') S H = hid M S H := by
  have eh : hid (setM M b m') S H = hid M S H := hid_dom (setM_dom (by rw [h]; rfl))
  refine ⟨⟨fun a u e => ?_, fun a u e => ?_⟩, eh⟩
  · obtain ⟨h1, h2⟩ := r.hidden a u e
    refine ⟨h1, ?_⟩
    unfold setM
    rw [if_neg fun c => by rw [c, h] at h2; cases h2]
    exact h2
  · rw [eh]
    unfold setM at e
    split at e
    · rename_i c
      cases e
      obtain ⟨y, g1, g2⟩ := r.chg b m h
      rw [c]
      exact ⟨y, g1, hm y g1 g2⟩
    · exact r.chg a u e
theorem ints_back {F : Hp} : ∀ {ns : List Int} {vs : List V}, DVs K F (ns.map D.int) vs → vs = ns.map V.int
  | [], _, h => dvs_nil.mp h
  | n :: ns, _, h => by
    obtain ⟨v, r, rfl, h1, h2⟩ := dvs_cons.mp h
    rw [dv_int.mp h1, ints_back h2]
    rfl
theorem box_in (r : R K M S H) (h : M b = some .box) : ∃ ds, BoxD ds ∧ R K (setM M b (.lst ds)) S H ∧ hid (setM M b (.lst ds)) S H = hid M S H := by
  obtain ⟨u, g1, vs, rfl, l, i, big, mix, cnt, ns, rfl, g2, g3⟩ := r.chg b _ h
  refine ⟨[.lst (ns.map D.int), .int i, .int big, .int mix, .int cnt], ⟨ns, i, big, mix, cnt, rfl, g3⟩, r.view h fun u q _ => ?_⟩
  rw [g1] at q
  cases q
  refine ⟨_, rfl, ?_⟩
  exact dvs_cons.mpr ⟨_, _, rfl, dv_lst.mpr ⟨l, _, rfl, g2, dvs_ints ns⟩, dvs_cons.mpr ⟨_, _, rfl, dv_int.mpr rfl, dvs_cons.mpr ⟨_, _, rfl, dv_int.mpr rfl, DVs.two (dv_int.mpr rfl) (dv_int.mpr rfl)⟩⟩⟩
theorem box_out {ds : List D} (r : R K M S H) (h : M b = some (.lst ds)) (hb : BoxD ds) : R K (setM M b .box) S H ∧ hid (setM M b .box) S H = hid M S H := by
  refine r.view h fun u _ hm => ?_
  obtain ⟨vs, rfl, hd⟩ := hm
  obtain ⟨ns, i, big, mix, cnt, rfl, g⟩ := hb
  obtain ⟨v1, r1, rfl, h1, hd⟩ := dvs_cons.mp hd
  obtain ⟨v2, r2, rfl, h2, hd⟩ := dvs_cons.mp hd
  obtain ⟨v3, r3, rfl, h3, hd⟩ := dvs_cons.mp hd
  obtain ⟨v4, v5, rfl, h4, h5⟩ := dc_two hd
  obtain ⟨l, ws, rfl, g1, g2⟩ := dv_lst.mp h1
  refine ⟨_, rfl, l, i, big, mix, cnt, ns, ?_, ?_, g⟩
  · rw [dv_int.mp h2, dv_int.mp h3, dv_int.mp h4, dv_int.mp h5]
  · rw [g1, ints_back g2]
end
theorem setM_at {M : Mh} {a : Addr} {o : MO} : setM M a o a = some o := by unfold setM; rw [if_pos rfl]
theorem setM_ne {M : Mh} {a b : Addr} {o : MO} (h : b ≠ a) : setM M a o b = M b := by unfold setM; rw [if_neg h]
theorem setM_setM {M : Mh} {a : Addr} {o u : MO} : setM (setM M a o) a u = setM M a u := by funext b; unfold setM; split <;> rfl
theorem setM_same {M : Mh} {a : Addr} {o : MO} (h : M a = some o) : setM M a o = M := by
  funext b
  unfold setM
  split
  · rename_i e; rw [e, h]
  · rfl
section
variable {P : Program} {w : World} {K : PySem.W.Frag} {mg : Str → Option Value} {base : Heap} {f : Addr} {fd : FuncData}
/-- what pulling does, the box a thing of its own -/
def sPull : MF := fun ds M k _ => ∃ b n, ds = [.ref b, .int n] ∧ M b = some .box ∧ 0 < n ∧ n < 1073741824 ∧ ∀ r, 0 ≤ r → r < n → k (.int r) M
theorem pull_box {CX : CXT} {k : Nat} {ps : List Str} {m : MF} (F : FnOk P w K mg base CX k f fd ps (spI K m))
    (h : ∀ (b : Addr) (n : Int) (ds : List D) (M : Mh) (k : DK), BoxD ds → 0 < n → n < 1073741824 → M b = some (.lst ds) → (∀ r ds', 0 ≤ r → r < n → BoxD ds' → k (.int r) (setM M b (.lst ds'))) → m [.ref b, .int n] M k noX) : FnOk P w K mg base CX k f fd ps (spI K sPull) := by
  refine F.imp fun vs H Q E ⟨M, S, ds, k, kx, r, hd, ⟨b, n, e, hb, h1, h2, q⟩, kv, kxx⟩ => ?_
  subst e
  obtain ⟨es, be, r', eh⟩ := box_in r hb
  refine ⟨_, S, _, fun d M' => ∃ ds', BoxD ds' ∧ M' b = some (.lst ds') ∧ k d (setM M' b .box), noX, r', by rw [eh]; exact hd, h b n es _ _ be h1 h2 setM_at fun z ds' z1 z2 bd => ⟨ds', bd, setM_at, ?_⟩, fun d M' ⟨ds', bd, g1, g2⟩ H' v rr ee dd => ?_, fun _ _ z => z.elim⟩
  · rw [setM_setM, setM_setM, setM_same hb]
    exact q z z1 z2
  · obtain ⟨r2, e2⟩ := box_out rr g1 bd
    refine kv d _ g2 H' v r2 ?_ ?_
    · rw [e2, ← eh]
      exact ee
    · rw [e2]
      exact dd
def sBox : MF := fun ds M k _ => ∃ ns : List Int, ds = [.scr ns] ∧ ns.length ≤ 63 ∧ ∀ p, M p = none → k (.ref p) (setM M p .box)
theorem box_box {CX : CXT} {k : Nat} {ps : List Str} {m : MF} (F : FnOk P w K mg base CX k f fd ps (spI K m))
    (h : ∀ (ns : List Int) (M : Mh) (k : DK), ns.length ≤ 63 → (∀ p ds, M p = none → BoxD ds → k (.ref p) (setM M p (.lst ds))) → m [.scr ns] M k noX) : FnOk P w K mg base CX k f fd ps (spI K sBox) := by
  refine F.imp fun vs H Q E ⟨M, S, ds, k, kx, r, hd, ⟨ns, e, hl, q⟩, kv, kxx⟩ => ?_
  subst e
  refine ⟨M, S, _, fun d M' => ∃ p ds, M p = none ∧ d = .ref p ∧ BoxD ds ∧ M' = setM M p (.lst ds), noX, r, hd, h ns M _ hl fun p ds hp bd => ⟨p, ds, hp, rfl, bd, rfl⟩, fun d M' ⟨p, ds, hp, e1, bd, e2⟩ H' v rr ee dd => ?_, fun _ _ z => z.elim⟩
  subst e1 e2
  obtain ⟨r2, e2⟩ := box_out rr setM_at bd
  rw [setM_setM] at r2 e2
  refine kv _ _ (q p hp) H' v r2 ?_ ?_
  · rw [e2]
    exact ee
  · rw [e2]
    exact dd
end
end DL
namespace DL
open PySem L2 PySem.Spec PyProof.Rows
section
variable {X : Cx} {E : XK} {x : Str} {pos p : Pos}
/-! ### the module's constants -/
theorem de_gstr {z : Str} (hg : Gl X x) (hm : ∃ t, X.mg x = some (.str z t)) (hd : (x == ("__debug__" : Str)) = false := by decide) : PE X (.Name x pos) (tI X.K E (mC (.str z))) := by
  obtain ⟨t, hm⟩ := hm
  exact de_c (pe_glob hg hm (v := .str z) ⟨t, rfl⟩ hd) fun _ => dv_str.mpr rfl
theorem de_gint {i : Int} (hg : Gl X x) (hm : ∃ t, X.mg x = some (.int i t)) (hd : (x == ("__debug__" : Str)) = false := by decide) : PE X (.Name x pos) (tI X.K E (mC (.int i))) := by
  obtain ⟨t, hm⟩ := hm
  exact de_c (pe_glob hg hm (v := .int i) ⟨t, rfl⟩ hd) fun _ => dv_int.mpr rfl
theorem de_gref {a : Addr} {d : D} (hg : Gl X x) (hm : X.mg x = some (.ref a)) (g : ∀ F, DV X.K F d (.ref a)) (hd : (x == ("__debug__" : Str)) = false := by decide) : PE X (.Name x pos) (tI X.K E (mC d)) :=
  de_c (pe_glob hg hm (v := .ref a) rfl hd) g
/-! ### targets -/
theorem dg_nm {i : Nat} {K : PySem.W.Frag} (hN : X.N.Nodup) (hi : X.N[i]? = some x) (hx : Loc X.env.scope x := by first | exact Or.inl rfl | exact Or.inr rfl) (hf : X.fn x = true ∨ X.env.scope.names.lookup x = some .local := by first | exact .inl rfl | exact .inr rfl) : PG X (.Name x pos) (gOf K (.nm i)) := by
  rw [gOf]
  exact pg_name hN hi hx hf
theorem dg_tp {es : List Expr} {k : Nat} {ts : List Tg} {K : PySem.W.Frag} (hK : X.K = K) (hc : X.calm = true) (h : PGs X es (gsOf K ts)) (hn : (assignEach es X.env).length = ts.length := by rfl) (hst : (assignEach es X.env).findIdx? (·.1) = none := by rfl) : PG X (.Tuple es k pos) (gOf K (.tp ts)) := by
  subst hK
  rw [gOf]
  exact pg_tup hc h hn hst
theorem dgs_nil {K : PySem.W.Frag} : PGs X [] (gsOf K []) := by
  rw [gsOf]
  exact pgs_nil
theorem dgs_cons {e : Expr} {es : List Expr} {t : Tg} {ts : List Tg} {K : PySem.W.Frag} (h1 : PG X e (gOf K t)) (h2 : PGs X es (gsOf K ts)) (hs : (assignEach (e :: es) X.env).map (·.2) = assign e X.env :: (assignEach es X.env).map (·.2) := by rfl) : PGs X (e :: es) (gsOf K (t :: ts)) := by
  rw [gsOf]
  exact pgs_cons h1 h2 hs
/-! ### own defs -/
/-- the def called x keeps the promise s -/
structure Df (P : Program) (w : World) (K : PySem.W.Frag) (mg : Str → Option Value) (base : Heap) (CX : CXT) (k : Nat) (f : Addr) (fd : FuncData) (x : Str) (ps : List Str) (s : MF) : Prop where
  ok : FnOk P w K mg base CX k f fd ps (spI K s)
  gl : mg x = some (.ref f)
  kp : PySem.W.keepIn K (.ref f) = true
variable {CX : CXT} {k : Nat} {f : Addr} {fd : FuncData} {ps : List Str} {s : MF} {e : Expr} {es : List Expr} {mA mB : MA} {kws : List Keyword}
theorem de_callD (F : Df X.prog X.w X.K X.mg X.base CX k f fd x ps s) (hr : Room k X.A) (hg : Gl X x) (hb : Binds X.K fd ps []) (hx : Passes CX X E)
    (ha : PA X (e :: es) (tA X.K E mA)) (hdb : (x == ("__debug__" : Str)) = false := by decide) (he : starEach (e :: es) X.env = (false, eval e X.env) :: starEach es X.env := by rfl) (hpl : (backTo pos (starEach es X.env)).any (·.1) = false := by rfl) :
    PE X (.Call (.Name x p) (e :: es) [] pos) (tI X.K E (mCall s mA)) := de_call F.ok hr hg F.gl F.kp hb hx ha hdb he hpl
/-- a call's form: n values by place, the keywords ks; g puts them in the parameters' order -/
def Shape (K : PySem.W.Frag) (fd : FuncData) (ps : List Str) (n : Nat) (ks : List Str) (gD : List D → List D → List D) : Prop :=
  ∃ g gV, KBn K fd ps n ks g gV ∧ ∀ (F : Hp) (ds es : List D) (vs zs : List V), DVs K F ds vs → DVs K F es zs → ds.length = n → es.length = ks.length → DVs K F (gD ds es) (gV vs zs)
def mCallN (n m : Nat) (s : MF) (gD : List D → List D → List D) (ma mk : MA) : ME := fun Γ M k kx => ma Γ M (fun ds M1 => mk Γ M1 (fun es M2 => ds.length = n ∧ es.length = m ∧ s (gD ds es) M2 k kx) kx) kx
theorem pk_le {X : Cx} {kws : List Keyword} {t t' : TA} (h : PK X kws t) (i : ∀ σ H Q, t' σ H Q → t σ H Q) : PK X kws t' := ⟨fun pos pins s σ H Q I q => h.run pos pins s σ H Q I (i σ H Q q)⟩
theorem dk_nil : PK X [] (tA X.K E mNil) := pk_le pk_nil fun σ H Q ⟨M, S, Γ, k, kx, hr, er, hm, kv, kxx⟩ => kv [] M hm H [] hr (Ex.refl _) (dvs_nil.mpr rfl)
theorem dk_cons {nm : Option Str} {kpos : Pos} {ma : ME} (ha : PE X e (tI X.K E ma)) (hr : PK X kws (tA X.K E mA)) : PK X (⟨nm, e, kpos⟩ :: kws) (tA X.K E (mCons ma mA)) := pk_le (pk_cons ha hr) fun _ _ _ h => tA_cons h
theorem tI_callN {K : PySem.W.Frag} {n m : Nat} {gD : List D → List D → List D} {gV : List V → List V → List V} (hd : ∀ (F : Hp) (ds es : List D) (vs zs : List V), DVs K F ds vs → DVs K F es zs → ds.length = n → es.length = m → DVs K F (gD ds es) (gV vs zs))
    {σ : L2.St} {H : Hp} {Q : VK} (h : tI K E (mCallN n m s gD mA mB) σ H Q) : tCallN n m (spI K s) gV E (tA K E mA) (tA K E mB) σ H Q := by
  obtain ⟨M, S, Γ, k, kx, hr, er, hm, kv, kxx⟩ := h
  refine ⟨M, S, Γ, _, kx, hr, er, hm, fun ds M1 q1 H1 v1 r1 e1 d1 => ?_, kxx⟩
  refine ⟨M1, S, Γ, _, kx, r1, er.mono e1, q1, fun es M2 ⟨l1, l2, q2⟩ H2 v2 r2 e2 d2 => ?_, kxx.ex e1⟩
  exact ⟨by rw [← d1.length]; exact l1, by rw [← d2.length]; exact l2, M2, S, _, k, kx, r2, hd _ _ _ _ _ (d1.mono e2 _) d2 l1 l2, q2, kv.ex (e1.trans e2), kxx.ex (e1.trans e2)⟩
theorem de_callN {n : Nat} {ks : List Str} {gD : List D → List D → List D} (F : Df X.prog X.w X.K X.mg X.base CX k f fd x ps s) (hr : Room k X.A) (hg : Gl X x) (hb : Shape X.K fd ps n ks gD) (hx : Passes CX X E)
    (ha : PA X (e :: es) (tA X.K E mA)) (hkw : PK X kws (tA X.K E mB)) (hall : (backToKw pos (keywordEach kws X.env)).all (·.1.isSome) = true := by rfl) (hks : (backToKw pos (keywordEach kws X.env)).filterMap (·.1) = ks := by rfl)
    (hdb : (x == ("__debug__" : Str)) = false := by decide) (he : starEach (e :: es) X.env = (false, eval e X.env) :: starEach es X.env := by rfl)
    (hpl : ((backTo pos (starEach (e :: es) X.env)).any (·.1) || (backToKw pos (keywordEach kws X.env)).any (·.1.isNone)) = false := by rfl) :
    PE X (.Call (.Name x p) (e :: es) kws pos) (tI X.K E (mCallN n ks.length s gD mA mB)) := by
  obtain ⟨g, gV, hb, hd⟩ := hb
  exact pe_le (pe_callN F.ok hr hg F.gl F.kp hb hx ha hkw hall hks hdb he hpl) fun _ _ _ h => tI_callN hd h
/-- f(k = v, ..), keywords alone -/
theorem de_callN0 {ks : List Str} {gD : List D → List D → List D} (F : Df X.prog X.w X.K X.mg X.base CX k f fd x ps s) (hr : Room k X.A) (hg : Gl X x) (hb : Shape X.K fd ps 0 ks gD) (hx : Passes CX X E)
    (hkw : PK X kws (tA X.K E mB)) (hall : (backToKw pos (keywordEach kws X.env)).all (·.1.isSome) = true := by rfl) (hks : (backToKw pos (keywordEach kws X.env)).filterMap (·.1) = ks := by rfl)
    (hdb : (x == ("__debug__" : Str)) = false := by decide)
    (hpl : ((backTo pos (starEach [] X.env)).any (·.1) || (backToKw pos (keywordEach kws X.env)).any (·.1.isNone)) = false := by rfl) :
    PE X (.Call (.Name x p) [] kws pos) (tI X.K E (mCallN 0 ks.length s gD mNil mB)) := by
  obtain ⟨g, gV, hb, hd⟩ := hb
  have hp : PE X (.Call (.Name x p) [] kws pos) (tCallN 0 ks.length (spI X.K s) gV E tNil (tA X.K E mB)) := by
    refine ⟨fun pins sh σ H Q I hq => wpAny_Call_Name_kw (ld_glob I hg F.gl ?_ hdb)⟩
    refine PySem.W.callWith_KW0 (h₀ := X.base) I.ok.mod.kin F.kp hall (thn (hkw.run pos pins sh σ H _ I hq) fun ws s2 ⟨zs, H2, I2, rz, l1, l2, q2⟩ => ⟨I2.kIn, ?_⟩) hpl
    rw [hks]
    exact run_fnN (us := []) (vs := []) F.ok hr hb hx I2 .nil rz rfl l2 q2
  refine pe_le hp fun σ H Q h => ?_
  obtain ⟨M, S, Γ, k, kx, hr, er, hm, kv, kxx⟩ := tI_callN hd h
  exact kv [] M hm H [] hr (Ex.refl _) (dvs_nil.mpr rfl)
end
section
variable {K : PySem.W.Frag} {x qual : Str} {params : Arguments} {body : List Stmt} {scope : Scope} {kws : List (Str × V)} {f : Addr} {fd : FuncData} {ps : List Str}
theorem shape_of {n : Nat} {ks : List Str} (g : {α : Type} → List α → List α → List α) (F : FunD K x qual params body scope [] [] f fd)
    (h : ∀ (kV doc pm : Value) (an : Option Addr) (cdv ct : Value) (us ws : List Value), us.length = n → ws.length = ks.length → bindArgs (PySem.W.fnOf x qual params body scope .none kV doc pm an cdv ct) ⟨us, ks.zip ws⟩ = pure (ps.zip (g us ws)))
    (hv : ∀ {vs : List V} {us : List Value} {zs : List V} {ws : List Value}, Vals vs us → Vals zs ws → Vals (g vs zs) (g us ws))
    (hd : ∀ (F : Hp) (ds es : List D) (vs zs : List V), DVs K F ds vs → DVs K F es zs → ds.length = n → es.length = ks.length → DVs K F (g ds es) (g vs zs)) : Shape K fd ps n ks g := by
  obtain ⟨oc, od, dV, kV, doc, pm, an, cdv, ct, osl, rfl, lk, hcd, hD, hK⟩ := F.ex
  rcases hD with ⟨_, rfl⟩ | ⟨e, _⟩
  · exact ⟨g, g, ⟨fun sh us ws _ l1 l2 => .of_eq (h kV doc pm an cdv ct us ws l1 l2), hv⟩, hd⟩
  · exact absurd rfl e
end
/-! ### texts -/
def txOf : List D → Option (List Str)
  | [] => some []
  | .str z :: r => (txOf r).map (z :: ·)
  | _ => none
theorem tx_of {K : PySem.W.Frag} {F : Hp} : ∀ {ds : List D} {vs : List V} {zs : List Str}, DVs K F ds vs → txOf ds = some zs → vs = zs.map V.str
  | [], _, _, h, e => by rw [dvs_nil] at h; subst h; cases e; rfl
  | d :: ds, _, _, h, e => by
    obtain ⟨v, r, rfl, h2, h3⟩ := dvs_cons.mp h
    cases d <;> first | (cases e; done) | skip
    rw [txOf] at e
    cases q : txOf ds with
    | none => rw [q] at e; cases e
    | some cs =>
      rw [q] at e
      cases e
      rw [dv_str.mp h2, tx_of h3 q]
      rfl
theorem dvs_strs {K : PySem.W.Frag} {F : Hp} : ∀ zs : List Str, DVs K F (zs.map D.str) (zs.map V.str)
  | [] => dvs_nil.mpr rfl
  | n :: ns => dvs_cons.mpr ⟨.str n, _, rfl, dv_str.mpr rfl, dvs_strs ns⟩
def mJoin (ms mx : ME) : ME := fun Γ M k kx => ms Γ M (fun d M1 => ∃ a, d = .str a ∧ mx Γ M1 (fun e M2 => ∃ es zs, sqOf M2 e = some es ∧ txOf es = some zs ∧ (zs.map (·.length)).sum + zs.length * a.length ≤ 16777216 ∧ k (.str (Txt.join a zs)) M2) kx) kx
def mSplit (ms mx : ME) : ME := fun Γ M k kx => ms Γ M (fun d M1 => ∃ a, d = .str a ∧ mx Γ M1 (fun e M2 => ∃ b, e = .str b ∧ (b.length == 0) = false ∧ a.length + 2 ≤ sizeLine ∧ k (.lst ((Txt.split a b).map D.str)) M2) kx) kx
section
variable {X : Cx} {E : XK} {apos pos : Pos} {o e : Expr} {mo me : ME}
theorem de_join (ho : PE X o (tI X.K E mo)) (he : PE X e (tI X.K E me)) (hs : starEach [e] X.env = [(false, eval e X.env)] := by rfl) (hbase : attributeBase o "join" X.env (eval o X.env) = eval o X.env := by rfl) (hline : (apos.endLine == pos.line) = true := by rfl) :
    PE X (.Call (.Attribute o "join" apos) [e] [] pos) (tI X.K E (mJoin mo me)) := by
  refine pe_le (pe_join ho he hs hbase hline) fun σ H Q ⟨M, S, Γ, k, kx, hr, er, hm, kv, kxx⟩ => ?_
  refine ⟨M, S, Γ, _, kx, hr, er, hm, fun d M1 ⟨a, ea, q1⟩ H1 v1 r1 e1 d1 => ?_, kxx⟩
  subst ea
  refine ⟨⟨a, dv_str.mp d1⟩, M1, S, Γ, _, kx, r1, er.mono e1, q1, fun y M2 ⟨es, zs, h1, h2, h3, q2⟩ H2 v2 r2 e2 d2 => ?_, kxx.ex e1⟩
  obtain ⟨p, vs, rfl, g1, g2⟩ := sq_of r2 d2 h1
  rw [tx_of g2 h2] at g1
  exact ⟨a, p, zs, dv_str.mp d1, rfl, g1, h3, kv _ M2 q2 H2 _ r2 (e1.trans e2) (dv_str.mpr rfl)⟩
theorem de_split (ho : PE X o (tI X.K E mo)) (he : PE X e (tI X.K E me)) (hs : starEach [e] X.env = [(false, eval e X.env)] := by rfl) (hbase : attributeBase o "split" X.env (eval o X.env) = eval o X.env := by rfl) (hline : (apos.endLine == pos.line) = true := by rfl) :
    PE X (.Call (.Attribute o "split" apos) [e] [] pos) (tI X.K E (mSplit mo me)) := by
  refine pe_le (pe_split ho he hs hbase hline) fun σ H Q ⟨M, S, Γ, k, kx, hr, er, hm, kv, kxx⟩ => ?_
  refine ⟨M, S, Γ, _, kx, hr, er, hm, fun d M1 ⟨a, ea, q1⟩ H1 v1 r1 e1 d1 => ?_, kxx⟩
  subst ea
  refine ⟨⟨a, dv_str.mp d1⟩, M1, S, Γ, _, kx, r1, er.mono e1, q1, fun y M2 ⟨b, eb, h1, h2, q2⟩ H2 v2 r2 e2 d2 => ?_, kxx.ex e1⟩
  subst eb
  refine ⟨a, b, dv_str.mp d1, by rw [dv_str.mp d2], h1, h2, fun p hp => ?_⟩
  obtain ⟨w1, w2, w3⟩ := new_lst r2 hp (dvs_strs (Txt.split a b))
  exact kv _ M2 q2 _ _ w1 ((e1.trans e2).trans w2) w3
end
theorem bt_str : bootBuiltins "str" = some (.type "str") := by decide +kernel
theorem bt_int : bootBuiltins "int" = some (.type "int") := by decide +kernel
theorem bt_bool : bootBuiltins "bool" = some (.type "bool") := by decide +kernel
theorem bt_list : bootBuiltins "list" = some (.type "list") := by decide +kernel
theorem bt_tuple : bootBuiltins "tuple" = some (.type "tuple") := by decide +kernel
theorem bt_dict : bootBuiltins "dict" = some (.type "dict") := by decide +kernel
theorem bb_len : bootBuiltins "len" = some (.builtin "len") := by decide +kernel
theorem bb_all : bootBuiltins "all" = some (.builtin "all") := by decide +kernel
theorem bb_any : bootBuiltins "any" = some (.builtin "any") := by decide +kernel
theorem bb_abs : bootBuiltins "abs" = some (.builtin "abs") := by decide +kernel
theorem bb_min : bootBuiltins "min" = some (.builtin "min") := by decide +kernel
theorem bb_max : bootBuiltins "max" = some (.builtin "max") := by decide +kernel
end DL
namespace DL
open PySem L2 PySem.Spec PyProof.Rows
/-! ### arguments picked by place and by keyword -/
def pick {α : Type} (is : List (Bool × Nat)) (us ws : List α) : List α := is.filterMap fun q => if q.1 then us[q.2]? else ws[q.2]?
theorem Vals.iff_none {vs : List V} {us : List Value} (r : Vals vs us) (i : Nat) : vs[i]? = none ↔ us[i]? = none := by
  rw [List.getElem?_eq_none_iff, List.getElem?_eq_none_iff, r.length]
theorem pick_vals {vs zs : List V} {us ws : List Value} (r : Vals vs us) (q : Vals zs ws) : ∀ is : List (Bool × Nat), Vals (pick is vs zs) (pick is us ws)
  | [] => .nil
  | (b, i) :: is => by
    unfold pick
    rw [List.filterMap_cons, List.filterMap_cons]
    have ih := pick_vals r q is
    unfold pick at ih
    cases b with
    | true =>
      simp only [if_true, Bool.false_eq_true, if_false]
      cases e : vs[i]? with
      | none => rw [(Vals.iff_none r i).mp e]; exact ih
      | some v =>
        obtain ⟨u, e1, e2⟩ := r.get e
        rw [e1]
        exact .cons e2 ih
    | false =>
      simp only [if_true, Bool.false_eq_true, if_false]
      cases e : zs[i]? with
      | none => rw [(Vals.iff_none q i).mp e]; exact ih
      | some v =>
        obtain ⟨u, e1, e2⟩ := q.get e
        rw [e1]
        exact .cons e2 ih
theorem DVs.iff_none {K : PySem.W.Frag} {F : Hp} {ds : List D} {vs : List V} (r : DVs K F ds vs) (i : Nat) : ds[i]? = none ↔ vs[i]? = none := by
  rw [List.getElem?_eq_none_iff, List.getElem?_eq_none_iff, r.length]
theorem pick_dvs {K : PySem.W.Frag} {F : Hp} {ds es : List D} {vs zs : List V} (r : DVs K F ds vs) (q : DVs K F es zs) : ∀ is : List (Bool × Nat), DVs K F (pick is ds es) (pick is vs zs)
  | [] => dvs_nil.mpr rfl
  | (b, i) :: is => by
    unfold pick
    rw [List.filterMap_cons, List.filterMap_cons]
    have ih := pick_dvs r q is
    unfold pick at ih
    cases b with
    | true =>
      simp only [if_true, Bool.false_eq_true, if_false]
      cases e : ds[i]? with
      | none => rw [(DVs.iff_none r i).mp e]; exact ih
      | some v =>
        obtain ⟨u, e1, e2⟩ := r.get e
        rw [e1]
        exact dvs_cons.mpr ⟨u, _, rfl, e2, ih⟩
    | false =>
      simp only [if_true, Bool.false_eq_true, if_false]
      cases e : es[i]? with
      | none => rw [(DVs.iff_none q i).mp e]; exact ih
      | some v =>
        obtain ⟨u, e1, e2⟩ := q.get e
        rw [e1]
        exact dvs_cons.mpr ⟨u, _, rfl, e2, ih⟩
section
variable {K : PySem.W.Frag} {x qual : Str} {params : Arguments} {body : List Stmt} {scope : Scope} {f : Addr} {fd : FuncData} {ps : List Str}
theorem shape_pick {n : Nat} {ks : List Str} (is : List (Bool × Nat)) (F : FunD K x qual params body scope [] [] f fd)
    (h : ∀ (kV doc pm : Value) (an : Option Addr) (cdv ct : Value) (us ws : List Value), us.length = n → ws.length = ks.length → bindArgs (PySem.W.fnOf x qual params body scope .none kV doc pm an cdv ct) ⟨us, ks.zip ws⟩ = pure (ps.zip (pick is us ws))) : Shape K fd ps n ks (pick is) :=
  shape_of (fun us ws => pick is us ws) F h (fun r q => pick_vals r q is) fun _ _ _ _ _ r q _ _ => pick_dvs r q is
end
/-- a def of which nothing is promised -/
theorem fn_false {P : Program} {w : World} {K : PySem.W.Frag} {mg : Str → Option Value} {base : Heap} {CX : CXT} {k : Nat} {f : Addr} {fd : FuncData} {ps : List Str} {s : MF} (h : ∀ ds M k kx, ¬ s ds M k kx) : FnOk P w K mg base CX k f fd ps (spI K s) :=
  ⟨fun _ _ _ _ ⟨_, _, _, _, _, _, _, q, _⟩ => (h _ _ _ _ q).elim, fun _ _ _ _ _ _ _ _ _ _ _ _ _ ⟨_, _, _, _, _, _, _, q, _⟩ => (h _ _ _ _ q).elim⟩
/-- a tuple of plain things of the top -/
def dvD : He.Dv → D
  | .non => .non | .bl b => .bl b | .int i => .int i | .str x => .str x | .ty n => .ty n | _ => .non
def dvOk : He.Dv → Bool
  | .non => true | .bl _ => true | .int _ => true | .str _ => true | .ty _ => true | _ => false
theorem dv_dv {K : PySem.W.Frag} {F : Hp} {v : He.Dv} (h : dvOk v = true) : DV K F (dvD v) (v.v K) := by
  cases v <;> first
    | exact dv_non.mpr rfl
    | exact dv_bl.mpr rfl
    | exact dv_int.mpr rfl
    | exact dv_str.mpr rfl
    | exact dv_ty.mpr rfl
    | (exact absurd (show false = true from h) Bool.false_ne_true)
theorem dvs_dv {K : PySem.W.Frag} {F : Hp} : ∀ {vs : List He.Dv}, vs.all dvOk = true → DVs K F (vs.map dvD) (vs.map (He.Dv.v K))
  | [], _ => dvs_nil.mpr rfl
  | v :: vs, h => by
    rw [List.all_cons, Bool.and_eq_true] at h
    exact dvs_cons.mpr ⟨_, _, rfl, dv_dv h.1, dvs_dv h.2⟩
theorem tup_top {K : PySem.W.Frag} {x : Str} {vs : List He.Dv} (h : He.tupB K x vs = true) (hv : vs.all dvOk = true) (F : Hp) : DV K F (.tup (vs.map dvD)) (.ref (He.ga K x)) :=
  dv_tup.mpr ⟨_, _, rfl, He.tupB_ok h F, dvs_dv hv⟩
/-- where a law begins: nothing may change, nothing is hidden -/
theorem law_start {K : PySem.W.Frag} {H : Hp} {a : Addr} {ns : List Int} {s : MF} (hS : SqL K H a (ns.map V.int)) (h : ∀ M : Mh, s [.scr ns] M (fun d _ => d = .bl true) noX) : spI K s [.ref a] H (fun v _ => v = .bl true) (fun _ _ _ => False) := by
  have e : hid (fun _ => none) (fun _ => none) H = H := by
    funext b
    unfold hid
    simp
  refine ⟨fun _ => none, fun _ => none, [.scr ns], _, noX, ⟨fun a o q => (by cases q), fun a o q => (by cases q)⟩, DVs.one (dv_scr.mpr ⟨a, rfl, by rw [e]; exact hS⟩), h _, fun d M' q H' v r ex dv => ?_, fun _ _ z => z.elim⟩
  subst q
  exact dv_bl.mp dv
end DL
namespace DL
open PySem L2 PySem.Spec PyProof.Rows
/-! ### a dict of the top with text keys -/
abbrev TabD := List (Str × D)
/-- at a stands a dict of the top that shows tab -/
def TabOk (K : PySem.W.Frag) (w : World) (a : Addr) (tab : TabD) : Prop :=
  (∃ es n, KDict K w a es n) ∧ ∀ z : Str, ∃ r, PySem.W.nsIn K a z = some r ∧ match tab.lookup z with
    | none => r = none
    | some d => ∃ u v, r = some u ∧ RelV v u ∧ ∀ F, DV K F d v
section
variable {K : PySem.W.Frag} {w : World} {a : Addr}
theorem find_keys {P : Params} {z : Str} : ∀ {l : List DictEntry} {ks : List Str}, l.map He.keyOf = He.keysIn P ks → z ∉ ks → l.find? (·.key.isStr z) = none
  | [], _, _, _ => rfl
  | e :: r, [], h, _ => by cases h
  | e :: r, k :: ks, h, hz => by
    have h1 : He.keyOf e :: r.map He.keyOf = some (k, PyData.keyHash P k) :: He.keysIn P ks := h
    injection h1 with h2 h3
    have hne : e.key.isStr z = false := by
      unfold He.keyOf at h2
      split at h2
      · rename_i x t q
        have h4 := (Prod.mk.inj (Option.some.inj h2)).1
        subst h4
        rw [q]
        unfold Value.isStr
        have : ¬ x = z := fun c => hz (by rw [c]; exact List.mem_cons_self)
        simp [this]
      · cases h2
    rw [List.find?_cons_of_neg (by rw [hne]; decide)]
    exact find_keys h3 fun c => hz (List.mem_cons_of_mem _ c)
theorem refKey_keys {P : Params} : ∀ {l : List DictEntry} {ks : List Str}, l.map He.keyOf = He.keysIn P ks → l.any (·.refKey) = false
  | [], _, _ => rfl
  | e :: r, [], h => by cases h
  | e :: r, k :: ks, h => by
    have h1 : He.keyOf e :: r.map He.keyOf = some (k, PyData.keyHash P k) :: He.keysIn P ks := h
    injection h1 with h2 h3
    rw [List.any_cons, refKey_keys h3, Bool.or_false]
    unfold He.keyOf at h2
    split at h2
    · rename_i x t q
      unfold DictEntry.refKey
      rw [q]
    · cases h2
theorem ns_out {ks : List Str} {z : Str} (h : He.dicW K a = some (He.keysIn w.params ks)) (hz : z ∉ ks) : PySem.W.nsIn K a z = some none := by
  unfold He.dicW at h
  unfold PySem.W.nsIn
  split at h
  · rename_i c es n sl q
    rw [q]
    split at h
    · have e := Option.some.inj h
      dsimp only
      rw [find_keys e hz]
      dsimp only
      rw [refKey_keys e]
      rfl
    · cases h
  · cases h
/-- from the head's facts: the keys, and the values by key -/
theorem tab_ok {kvs : List (Str × He.Dv)} (hk : He.dicW K a = some (He.keysIn w.params (kvs.map (·.1)))) (hv : He.valsB K a kvs = true) (ho : (kvs.map (·.2)).all dvOk = true) : TabOk K w a (kvs.map fun q => (q.1, dvD q.2)) := by
  refine ⟨He.dicW_ok hk, fun z => ?_⟩
  by_cases hz : z ∈ kvs.map (·.1)
  · have key : ∀ (l : List (Str × He.Dv)), (∀ q ∈ l, q ∈ kvs) → z ∈ l.map (·.1) → ∃ r, PySem.W.nsIn K a z = some r ∧ match (l.map fun q => (q.1, dvD q.2)).lookup z with
        | none => r = none
        | some d => ∃ u v, r = some u ∧ RelV v u ∧ ∀ F, DV K F d v := by
      intro l
      induction l with
      | nil => intro _ h; cases h
      | cons q l ih =>
        intro hs hm
        rw [List.map_cons]
        by_cases e : z = q.1
        · obtain ⟨u, e1, e2⟩ := He.valsB_ok hv (hs q List.mem_cons_self)
          refine ⟨some u, by rw [e]; exact e1, ?_⟩
          rw [List.lookup_cons, show (z == q.1) = true from beq_iff_eq.mpr e]
          refine ⟨u, _, rfl, e2, fun F => dv_dv ?_⟩
          have := List.all_eq_true.mp ho q.2 (List.mem_map.mpr ⟨q, hs q List.mem_cons_self, rfl⟩)
          exact this
        · rw [List.lookup_cons, show (z == q.1) = false from beq_eq_false_iff_ne.mpr e]
          refine ih (fun p hp => hs p (List.mem_cons_of_mem _ hp)) ?_
          rcases List.mem_cons.mp hm with h | h
          · exact absurd h e
          · exact h
    exact key kvs (fun _ h => h) hz
  · refine ⟨none, ns_out hk hz, ?_⟩
    have : (kvs.map fun q => (q.1, dvD q.2)).lookup z = none := by
      clear hv ho hk
      induction kvs with
      | nil => rfl
      | cons q l ih =>
        rw [List.map_cons, List.lookup_cons, show (z == q.1) = false from beq_eq_false_iff_ne.mpr fun c => hz (by rw [c]; exact List.mem_cons_self)]
        exact ih fun c => hz (List.mem_cons_of_mem _ c)
    rw [this]
end
def dTabIn (neg : Bool) (tab : TabD) (d : D) (M : Mh) (k : DK) : Prop := ∃ z, d = .str z ∧ k (.bl (if neg then !(tab.lookup z).isSome else (tab.lookup z).isSome)) M
def dTabAt (tab : TabD) (d : D) (M : Mh) (k : DK) : Prop := ∃ z x, d = .str z ∧ tab.lookup z = some x ∧ k x M
def mTabGet (tab : TabD) (me mf : ME) : ME := fun Γ M k kx => me Γ M (fun d M1 => ∃ z, d = .str z ∧ mf Γ M1 (fun e M2 => k ((tab.lookup z).getD e) M2) kx) kx
section
variable {X : Cx} {E : XK} {e f : Expr} {me mf : ME} {t : Str} {p pos apos cpos : Pos} {a : Addr} {tab : TabD}
/-- t.get(e, f), by values -/
def tKGet (K : PySem.W.Frag) (a : Addr) (te tf : TE) : TE := fun σ H Q => te σ H fun y H1 => tf σ H1 fun v H2 => ∃ (z : Str) (r : Option Value), y = .str z ∧ PySem.W.nsIn K a z = some r ∧ (r = none → Q v H2) ∧ ∀ u, r = some u → ∃ v', RelV v' u ∧ Q v' H2
theorem pe_kget {te tf : TE} {es : Array DictEntry} {n : Nat} (hg : Gl X t) (hm : X.mg t = some (.ref a)) (kd : KDict X.K X.w a es n) (he : PE X e te) (hf : PE X f tf) (m : M2 X (.Name t p) "get" apos e f cpos) (hd : (t == ("__debug__" : Str)) = false := by decide) :
    PE X (.Call (.Attribute (.Name t p) "get" apos) [e, f] [] cpos) (tKGet X.K a te tf) := by
  refine ⟨fun pins s σ H Q I hq => ?_⟩
  refine wpAny_Call_method m.base m.few m.line PySem.F.plainAttrs_dict PySem.F.slot_dict_get PySem.F.type_dict_get (ld_glob I hg hm ?_ hd)
  refine ⟨kd_type kd I, fun b q => ?_, ?_⟩
  · cases q
    exact ⟨_, I.kIn _ _ kd.at_, rfl⟩
  rw [m.trees]
  refine Calls.callWith_builtin rfl (Calls.evalArgs_plain (Calls.spliced_cons (thn (he.run pins s σ H _ I hq) fun iv s2 ⟨y, H2, I2, ry, q2⟩ => ?_)))
  refine Calls.spliced_cons (thn (hf.run pins s2 σ H2 _ I2 q2) fun fv s3 ⟨v, H3, I3, rz, z, r, ey, ns, q3, q4⟩ => Calls.spliced_nil ?_)
  subst ey
  obtain ⟨tz, rfl⟩ := ry
  refine call_meetsIn PySem.F.slot_dict_get (kd_type kd I3) PySem.F.entry_dict_get (PySem.F.args_dict_get_3 _ _ _) (meets_dict_get_default (strKind X.prog X.w) a (PySem.strKind_is X.prog X.w z tz) kd.low fv) ⟨_, PySem.W.mapOf_K (prog := X.prog) I3.kIn kd.at_ kd.lit, ?_⟩
  rw [PySem.W.find_K kd.at_ ns]
  cases r with
  | none => exact ⟨v, H3, I3.tok _, rz, q3 rfl⟩
  | some u =>
    obtain ⟨v', rv, q⟩ := q4 u rfl
    exact ⟨v', H3, I3.tok _, rv, q⟩
theorem de_tabGet (hg : Gl X t) (hm : X.mg t = some (.ref a)) (T : TabOk X.K X.w a tab) (he : PE X e (tI X.K E me)) (hf : PE X f (tI X.K E mf)) (m : M2 X (.Name t p) "get" apos e f cpos) (hd : (t == ("__debug__" : Str)) = false := by decide) :
    PE X (.Call (.Attribute (.Name t p) "get" apos) [e, f] [] cpos) (tI X.K E (mTabGet tab me mf)) := by
  obtain ⟨⟨es, n, kd⟩, hT⟩ := T
  refine pe_le (pe_kget hg hm kd he hf m hd) fun σ H Q ⟨M, S, Γ, k, kx, r, er, h, kv, kxx⟩ => ?_
  refine ⟨M, S, Γ, _, kx, r, er, h, fun d M1 ⟨z, ez, q1⟩ H1 v1 r1 e1 d1 => ?_, kxx⟩
  subst ez
  refine ⟨M1, S, Γ, _, kx, r1, er.mono e1, q1, fun d2 M2 q2 H2 v2 r2 e2 d2' => ?_, kxx.ex e1⟩
  obtain ⟨rr, ns, hr⟩ := hT z
  refine ⟨z, rr, dv_str.mp d1, ns, fun e => ?_, fun u e => ?_⟩
  · subst e
    cases q : tab.lookup z with
    | none => rw [q] at q2; exact kv _ M2 q2 H2 v2 r2 (e1.trans e2) d2'
    | some x => rw [q] at hr; obtain ⟨_, _, h, _⟩ := hr; cases h
  · subst e
    cases q : tab.lookup z with
    | none => rw [q] at hr; cases hr
    | some x =>
      rw [q] at hr q2
      obtain ⟨u', v, h, rv, hv⟩ := hr
      cases h
      exact ⟨v, rv, kv _ M2 q2 H2 v r2 (e1.trans e2) (hv _)⟩
/-- t[e], by values -/
theorem ix_kd {es : Array DictEntry} {n : Nat} (kd : KDict X.K X.w a es n) : IxR X (fun x y H Q => ∃ (z : Str) (u0 : Value) (v0 : V), x = .ref a ∧ y = .str z ∧ PySem.W.nsIn X.K a z = some (some u0) ∧ RelV v0 u0 ∧ Q v0 H) := by
  intro value slice pins s σ H x y v u Q I rx ry hq hs
  obtain ⟨z, u0, v0, ex, ey, e, r0, q⟩ := hq
  subst ex ey
  have hv : v = .ref a := rx
  rw [hv] at hs ⊢
  exact tail_any (kd_type kd I) PySem.F.slot_dict_getitem.lookup (op_item_kd kd pins s σ H (.ref a) _ _ _ Q I rfl ry ⟨z, u0, v0, rfl, rfl, e, r0, q⟩) hs
/-- t[e] -/
theorem de_tabAt (hg : Gl X t) (hm : X.mg t = some (.ref a)) (T : TabOk X.K X.w a tab) (he : PE X e (tI X.K E me)) (hs : PlainIx e) (hd : (t == ("__debug__" : Str)) = false := by decide) : PE X (.Subscript (.Name t p) e pos) (tI X.K E (mUn (dTabAt tab) me)) := by
  obtain ⟨⟨es, n, kd⟩, hT⟩ := T
  refine pe_le (pe_ix (ix_kd kd) (pe_glob hg hm (v := .ref a) rfl hd) he hs) fun σ H Q ⟨M, S, Γ, k, kx, r, er, h, kv, kxx⟩ => ?_
  refine ⟨M, S, Γ, _, kx, r, er, h, fun d M1 ⟨z, x, ez, el, q1⟩ H1 v1 r1 e1 d1 => ?_, kxx⟩
  subst ez
  obtain ⟨rr, ns, hr⟩ := hT z
  rw [el] at hr
  obtain ⟨u, v, rfl, rv, hv⟩ := hr
  exact ⟨z, u, v, rfl, dv_str.mp d1, ns, rv, kv _ M1 q1 H1 v r1 e1 (hv _)⟩
/-- e in t, e not in t -/
theorem tI_in {neg : Bool} {σ : L2.St} {H : Hp} {Q : VK} (hT : ∀ z : Str, ∃ r, PySem.W.nsIn X.K a z = some r ∧ match tab.lookup z with
    | none => r = none
    | some d => ∃ u v, r = some u ∧ RelV v u ∧ ∀ F, DV X.K F d v) (h : tI X.K E (mUn (dTabIn neg tab) me) σ H Q) :
    tOp (fun x y H Q => ∃ (z : Str) (r : Option Value), x = .str z ∧ y = .ref a ∧ PySem.W.nsIn X.K a z = some r ∧ Q (.bl (if neg then !r.isSome else r.isSome)) H) (tI X.K E me) (tC (.ref a)) σ H Q := by
  obtain ⟨M, S, Γ, k, kx, r, er, h, kv, kxx⟩ := h
  refine ⟨M, S, Γ, _, kx, r, er, h, fun d M1 ⟨z, ez, q1⟩ H1 v1 r1 e1 d1 => ?_, kxx⟩
  subst ez
  obtain ⟨rr, ns, hr⟩ := hT z
  have e : rr.isSome = (tab.lookup z).isSome := by
    cases q : tab.lookup z with
    | none => rw [q] at hr; rw [hr]; rfl
    | some x =>
      rw [q] at hr
      obtain ⟨u, v, rfl, _⟩ := hr
      rfl
  exact ⟨z, rr, dv_str.mp d1, rfl, ns, by rw [e]; exact kv _ M1 q1 H1 _ r1 e1 (dv_bl.mpr rfl)⟩
theorem dt_tabIn (hg : Gl X t) (hm : X.mg t = some (.ref a)) (T : TabOk X.K X.w a tab) (he : PE X e (tI X.K E me)) (hb : behindInMarks .In (.Name t p) = false := by rfl) (hd : (t == ("__debug__" : Str)) = false := by decide) : PT X (.Compare e [.In] [.Name t p] pos) (tT X.K E (mTest (mUn (dTabIn false tab) me))) := by
  obtain ⟨⟨es, n, kd⟩, hT⟩ := T
  exact pt_le (pt_cmpR (op_in_kd kd) he (pe_glob hg hm (v := .ref a) rfl hd) hb) fun _ _ _ h => tI_in (neg := false) hT (tT_test h)
theorem dt_tabNotIn (hg : Gl X t) (hm : X.mg t = some (.ref a)) (T : TabOk X.K X.w a tab) (he : PE X e (tI X.K E me)) (hb : behindInMarks .NotIn (.Name t p) = false := by rfl) (hd : (t == ("__debug__" : Str)) = false := by decide) : PT X (.Compare e [.NotIn] [.Name t p] pos) (tT X.K E (mTest (mUn (dTabIn true tab) me))) := by
  obtain ⟨⟨es, n, kd⟩, hT⟩ := T
  exact pt_le (pt_cmpR (op_notIn_kd kd) he (pe_glob hg hm (v := .ref a) rfl hd) hb) fun _ _ _ h => tI_in (neg := true) hT (tT_test h)
end
theorem tab_eq {fa : List He.Fa} {fn : List He.DefD} {ts : List He.Tab} {w : World} {K : PySem.W.Frag} (c : He.SaysT fa fn ts w K) (i : Nat) {t : He.Tab} (h : ts[i]? = some t := by rfl) : He.dicW K (t.1 K) = some (He.keysIn w.params t.2) := by
  have e : ts.map (fun t => He.dicW K (t.1 K)) = ts.map fun t => some (He.keysIn w.params t.2) := congrArg (fun z : He.AlT => z.2) c
  have e2 := congrArg (fun l : List (Option (List (Option (Str × Int)))) => l[i]?) e
  simp only [List.getElem?_map, h, Option.map_some] at e2
  exact Option.some.inj e2
/-! ### calls that leave defaults out -/
def Tail (K : PySem.W.Frag) (fd : FuncData) (ps : List Str) (t : List D) : Prop := ∃ dvs ds, Vals dvs ds ∧ Binds K fd ps ds ∧ ∀ F, DVs K F t dvs
def mCallT (s : MF) (t : List D) (ma : MA) : ME := fun Γ M k kx => ma Γ M (fun ds M1 => s (ds ++ t) M1 k kx) kx
section
variable {X : Cx} {E : XK} {CX : CXT} {k : Nat} {f : Addr} {fd : FuncData} {ps : List Str} {s : MF} {e : Expr} {es : List Expr} {mA : MA} {x : Str} {p pos : Pos} {t : List D}
theorem de_callT (F : Df X.prog X.w X.K X.mg X.base CX k f fd x ps s) (hr : Room k X.A) (hg : Gl X x) (hb : Tail X.K fd ps t) (hx : Passes CX X E)
    (ha : PA X (e :: es) (tA X.K E mA)) (hdb : (x == ("__debug__" : Str)) = false := by decide) (he : starEach (e :: es) X.env = (false, eval e X.env) :: starEach es X.env := by rfl) (hpl : (backTo pos (starEach es X.env)).any (·.1) = false := by rfl) :
    PE X (.Call (.Name x p) (e :: es) [] pos) (tI X.K E (mCallT s t mA)) := by
  obtain ⟨dvs, dl, hv, hb, hd⟩ := hb
  refine pe_le (pe_call F.ok hr hg F.gl F.kp hb hv hx ha hdb he hpl) fun σ H Q ⟨M, S, Γ, k, kx, r, er, h, kv, kxx⟩ => ?_
  refine ⟨M, S, Γ, _, kx, r, er, h, fun ds M1 q1 H1 v1 r1 e1 d1 => ?_, kxx⟩
  exact ⟨M1, S, _, k, kx, r1, d1.append (hd _), q1, kv.ex e1, kxx.ex e1⟩
end
/-- arguments by place (0), defaults (1), keywords (2) -/
def sel3 {α : Type} (q : Nat × Nat) (us ms ws : List α) : List α := if q.1 = 0 then us[q.2]?.toList else if q.1 = 1 then ms[q.2]?.toList else ws[q.2]?.toList
def pick3 {α : Type} (is : List (Nat × Nat)) (us ms ws : List α) : List α := is.flatMap fun q => sel3 q us ms ws
theorem Vals.at1 {vs : List V} {us : List Value} (r : Vals vs us) (i : Nat) : Vals vs[i]?.toList us[i]?.toList := by
  cases e : vs[i]? with
  | none => rw [(Vals.iff_none r i).mp e]; exact .nil
  | some v =>
    obtain ⟨u, e1, e2⟩ := r.get e
    rw [e1]
    exact .cons e2 .nil
theorem DVs.at1 {K : PySem.W.Frag} {F : Hp} {ds : List D} {vs : List V} (r : DVs K F ds vs) (i : Nat) : DVs K F ds[i]?.toList vs[i]?.toList := by
  cases e : ds[i]? with
  | none => rw [(DVs.iff_none r i).mp e]; exact dvs_nil.mpr rfl
  | some v =>
    obtain ⟨u, e1, e2⟩ := r.get e
    rw [e1]
    exact DVs.one e2
theorem pick3_vals {vs mz zs : List V} {us mv ws : List Value} (r : Vals vs us) (o : Vals mz mv) (q : Vals zs ws) : ∀ is : List (Nat × Nat), Vals (pick3 is vs mz zs) (pick3 is us mv ws)
  | [] => .nil
  | (b, i) :: is => by
    have ih := pick3_vals r o q is
    unfold pick3 at ih ⊢
    rw [List.flatMap_cons, List.flatMap_cons]
    refine L2.Vals.append ?_ ih
    unfold sel3
    split
    · exact Vals.at1 r i
    · split
      · exact Vals.at1 o i
      · exact Vals.at1 q i
theorem pick3_dvs {K : PySem.W.Frag} {F : Hp} {ds ts es : List D} {vs mz zs : List V} (r : DVs K F ds vs) (o : DVs K F ts mz) (q : DVs K F es zs) : ∀ is : List (Nat × Nat), DVs K F (pick3 is ds ts es) (pick3 is vs mz zs)
  | [] => dvs_nil.mpr rfl
  | (b, i) :: is => by
    have ih := pick3_dvs r o q is
    unfold pick3 at ih ⊢
    rw [List.flatMap_cons, List.flatMap_cons]
    refine DVs.append ?_ ih
    unfold sel3
    split
    · exact DVs.at1 r i
    · split
      · exact DVs.at1 o i
      · exact DVs.at1 q i
section
variable {K : PySem.W.Frag} {x qual : Str} {params : Arguments} {body : List Stmt} {scope : Scope} {kws : List (Str × V)} {f : Addr} {fd : FuncData} {ps : List Str}
/-- keyword-only parameters with defaults ms that are left out -/
theorem shape_pick3 {n : Nat} {ks : List Str} (is : List (Nat × Nat)) (ms : List (Str × V)) (ts : List D) (F : FunD K x qual params body scope [] kws f fd) (hk : kws ≠ []) (hms : ∀ q ∈ ms, q ∈ kws) (ht : ∀ F, DVs K F ts (ms.map (·.2)))
    (h : ∀ (D : Addr) (doc pm : Value) (an : Option Addr) (cdv ct : Value) (us mv ws : List Value), us.length = n → mv.length = ms.length → ws.length = ks.length →
      KwChain D ((ms.map (·.1)).zip mv) (bindArgs (PySem.W.fnOf x qual params body scope .none (.ref D) doc pm an cdv ct) ⟨us, ks.zip ws⟩) (ps.zip (pick3 is us mv ws))) : Shape K fd ps n ks (fun us ws => pick3 is us ts ws) := by
  obtain ⟨mv, hb⟩ := FunD.kbinds0 F n ks ms (fun us mv ws => pick3 is us mv ws) hk hms (fun r o q => pick3_vals r o q is) h
  exact ⟨_, _, hb, fun F' ds es vs zs r q _ _ => pick3_dvs r (ht F') q is⟩
theorem tail_of (F : FunD K x qual params body scope [] kws f fd) (n : Nat) (hk : kws ≠ []) (hn : n + kws.length = ps.length) (ts : List D) (ht : ∀ F, DVs K F ts (kws.map (·.2)))
    (h : ∀ (D : Addr) (doc pm : Value) (an : Option Addr) (cdv ct : Value) (us ks : List Value), us.length = n → ks.length = kws.length →
      KwChain D ((kws.map (·.1)).zip ks) (bindArgs (PySem.W.fnOf x qual params body scope .none (.ref D) doc pm an cdv ct) ⟨us, []⟩) (ps.zip (us ++ ks))) : Tail K fd ps ts := by
  obtain ⟨ds, hv, hb⟩ := F.binds0 (ps := ps) n hk hn h
  exact ⟨_, ds, hv, hb, ht⟩
end
end DL
namespace DL
open PySem L2
/-! ### dicts that may change: keys ints and texts -/
def keyD : D → Option Key
  | .int i => some (.inl i)
  | .str z => some (.inr z)
  | _ => none
theorem key_dv {K : PySem.W.Frag} {F : Hp} {d : D} {v : V} {k : Key} (h : DV K F d v) (e : keyD d = some k) : v = kV k := by
  cases d with
  | int i => cases e; exact dv_int.mp h
  | str z => cases e; exact dv_str.mp h
  | _ => cases e
def getG (kvs : List (Key × D)) (k : Key) : Option D := (kvs.find? fun kv => decide (kv.1 = k)).map (·.2)
def putG (kvs : List (Key × D)) (k : Key) (d : D) : List (Key × D) :=
  if (kvs.any fun kv => decide (kv.1 = k)) = true then kvs.map (fun kv => if kv.1 = k then (kv.1, d) else kv) else kvs ++ [(k, d)]
theorem getG_pos {p : Key × D} {r : List (Key × D)} {k : Key} (e : p.1 = k) : getG (p :: r) k = some p.2 := by simp [getG, List.find?_cons, e]
theorem getG_neg {p : Key × D} {r : List (Key × D)} {k : Key} (e : ¬ p.1 = k) : getG (p :: r) k = getG r k := by simp [getG, List.find?_cons, e]
section
variable {K : PySem.W.Frag} {F : Hp}
theorem kvd_get (k : Key) : ∀ {kvs : List (Key × D)} {ps : List (Key × V)}, KVD K F kvs ps → (getG kvs k = none ∧ valV ps k = none) ∨ ∃ d v, getG kvs k = some d ∧ valV ps k = some v ∧ DV K F d v
  | [], ps, h => by
    have h : ps = [] := h
    subst h
    exact .inl ⟨rfl, rfl⟩
  | (j, d) :: r, ps, h => by
    obtain ⟨v, t, rfl, h2, h3⟩ := h
    by_cases e : j = k
    · exact .inr ⟨d, v, getG_pos e, valV_pos (p := (j, v)) e, h2⟩
    · rw [getG_neg (p := (j, d)) e, valV_neg (p := (j, v)) e]
      exact kvd_get k h3
theorem kvd_len : ∀ {kvs : List (Key × D)} {ps : List (Key × V)}, KVD K F kvs ps → kvs.length = ps.length
  | [], ps, h => by
    have h : ps = [] := h
    subst h
    rfl
  | (j, d) :: r, ps, h => by
    obtain ⟨v, t, rfl, h2, h3⟩ := h
    rw [List.length_cons, List.length_cons, kvd_len h3]
theorem kvd_any (k : Key) : ∀ {kvs : List (Key × D)} {ps : List (Key × V)}, KVD K F kvs ps → (kvs.any fun kv => decide (kv.1 = k)) = (ps.any fun kv => decide (kv.1 = k))
  | [], ps, h => by
    have h : ps = [] := h
    subst h
    rfl
  | (j, d) :: r, ps, h => by
    obtain ⟨v, t, rfl, h2, h3⟩ := h
    rw [List.any_cons, List.any_cons, kvd_any k h3]
theorem kvd_map {k : Key} {d : D} {v : V} (hd : DV K F d v) : ∀ {kvs : List (Key × D)} {ps : List (Key × V)}, KVD K F kvs ps → KVD K F (kvs.map fun kv => if kv.1 = k then (kv.1, d) else kv) (ps.map fun kv => if kv.1 = k then (kv.1, v) else kv)
  | [], ps, h => by
    have h : ps = [] := h
    subst h
    rfl
  | (j, e) :: r, ps, h => by
    obtain ⟨u, t, rfl, h2, h3⟩ := h
    rw [List.map_cons, List.map_cons]
    by_cases c : j = k
    · rw [if_pos c, if_pos c]
      exact ⟨v, _, rfl, hd, kvd_map hd h3⟩
    · rw [if_neg c, if_neg c]
      exact ⟨u, _, rfl, h2, kvd_map hd h3⟩
theorem kvd_snoc {k : Key} {d : D} {v : V} (hd : DV K F d v) : ∀ {kvs : List (Key × D)} {ps : List (Key × V)}, KVD K F kvs ps → KVD K F (kvs ++ [(k, d)]) (ps ++ [(k, v)])
  | [], ps, h => by
    have h : ps = [] := h
    subst h
    exact ⟨v, [], rfl, hd, rfl⟩
  | (j, e) :: r, ps, h => by
    obtain ⟨u, t, rfl, h2, h3⟩ := h
    exact ⟨u, _, rfl, h2, kvd_snoc hd h3⟩
theorem kvd_put {k : Key} {d : D} {v : V} (hd : DV K F d v) {kvs : List (Key × D)} {ps : List (Key × V)} (h : KVD K F kvs ps) : KVD K F (putG kvs k d) (putK ps k v) := by
  unfold putG putK
  rw [kvd_any k h]
  split
  · exact kvd_map hd h
  · exact kvd_snoc hd h
/-- flat data is one value -/
theorem flat_eq {d : D} {v u : V} (h : flat d = true) (h1 : DV K F d v) (h2 : DV K F d u) : v = u := by
  cases d with
  | non => rw [dv_non.mp h1, dv_non.mp h2]
  | bl _ => rw [dv_bl.mp h1, dv_bl.mp h2]
  | int _ => rw [dv_int.mp h1, dv_int.mp h2]
  | str _ => rw [dv_str.mp h1, dv_str.mp h2]
  | _ => cases h
theorem flat_b {d : D} {v : V} (h : flat d = true) (h1 : DV K F d v) : flatB v = true := by
  cases d with
  | non => rw [dv_non.mp h1]; rfl
  | bl _ => rw [dv_bl.mp h1]; rfl
  | int _ => rw [dv_int.mp h1]; rfl
  | str _ => rw [dv_str.mp h1]; rfl
  | _ => cases h
theorem kvd_same : ∀ {kvs : List (Key × D)} {ps qs : List (Key × V)}, (∀ p ∈ kvs, flat p.2 = true) → KVD K F kvs ps → KVD K F kvs qs → ps = qs ∧ ∀ p ∈ ps, flatB p.2 = true
  | [], ps, qs, _, h1, h2 => by
    have h1 : ps = [] := h1
    have h2 : qs = [] := h2
    subst h1 h2
    exact ⟨rfl, fun p hp => by cases hp⟩
  | (j, d) :: r, ps, qs, hf, h1, h2 => by
    obtain ⟨v, t, rfl, g2, g3⟩ := h1
    obtain ⟨u, t', rfl, g4, g5⟩ := h2
    obtain ⟨e1, e2⟩ := kvd_same (fun p hp => hf p (List.mem_cons_of_mem _ hp)) g3 g5
    have hd := hf (j, d) List.mem_cons_self
    rw [flat_eq hd g2 g4, e1]
    refine ⟨rfl, fun p hp => ?_⟩
    rcases List.mem_cons.mp hp with rfl | hp
    · exact flat_b hd g4
    · rw [← e1] at hp
      exact e2 p hp
theorem kvd_keys : ∀ {kvs : List (Key × D)} {ps : List (Key × V)}, KVD K F kvs ps → kvs.map (·.1) = ps.map (·.1)
  | [], ps, h => by
    have h : ps = [] := h
    subst h
    rfl
  | (j, d) :: r, ps, h => by
    obtain ⟨v, t, rfl, h2, h3⟩ := h
    rw [List.map_cons, List.map_cons, kvd_keys h3]
theorem valV_mem : ∀ {ps : List (Key × V)}, (ps.map (·.1)).Nodup → ∀ p ∈ ps, valV ps p.1 = some p.2
  | [], _, p, hp => by cases hp
  | q :: r, nd, p, hp => by
    rw [List.map_cons, List.nodup_cons] at nd
    rcases List.mem_cons.mp hp with rfl | hp
    · exact valV_pos rfl
    · rw [valV_neg fun e => nd.1 (by rw [e]; exact List.mem_map.mpr ⟨p, hp, rfl⟩)]
      exact valV_mem nd.2 p hp
end
def mDNew : ME := fun _ M k _ => ∀ p, M p = none → k (.ref p) (setM M p (.dct []))
def dDIx (d e : D) (M : Mh) (k : DK) : Prop := ∃ a kvs j x, d = .ref a ∧ M a = some (.dct kvs) ∧ keyD e = some j ∧ getG kvs j = some x ∧ k x M
def dDInB (neg : Bool) (e d : D) (M : Mh) (k : DK) : Prop := ∃ a kvs j, d = .ref a ∧ M a = some (.dct kvs) ∧ keyD e = some j ∧ k (.bl (if neg then !(getG kvs j).isSome else (getG kvs j).isSome)) M
def mDGet2 (md mk mx : ME) : ME := fun Γ M k kx => md Γ M (fun d M1 => ∃ a, d = .ref a ∧ (∃ kvs, M1 a = some (.dct kvs)) ∧ mk Γ M1 (fun e M2 => mx Γ M2 (fun z M3 => ∃ kvs j, M3 a = some (.dct kvs) ∧ keyD e = some j ∧ k ((getG kvs j).getD z) M3) kx) kx) kx
def mDPut (mv md mk : ME) : MS := fun De Γ M kx => mv Γ M (fun v M1 => md Γ M1 (fun d M2 => mk Γ M2 (fun e M3 => ∃ a kvs j, d = .ref a ∧ M3 a = some (.dct kvs) ∧ keyD e = some j ∧ kvs.length < sizeLine ∧ De.nx Γ (setM M3 a (.dct (putG kvs j v)))) kx) kx) kx
def cDictD (ds : List D) (M : Mh) (k : DK) : Prop := ∃ a kvs, ds = [.ref a] ∧ M a = some (.dct kvs) ∧ ∀ p, M p = none → k (.ref p) (setM M p (.dct kvs))
/-- two dicts that hold the same -/
def dSameD (neg : Bool) (d e : D) (M : Mh) (k : DK) : Prop := ∃ a b kvs, d = .ref a ∧ e = .ref b ∧ M a = some (.dct kvs) ∧ M b = some (.dct kvs) ∧ (kvs.map (·.1)).Nodup ∧ (∀ p ∈ kvs, flat p.2 = true) ∧ k (.bl (!neg)) M
section
variable {X : Cx} {E : XK} {a b e f o i v : Expr} {ma mb me mf : ME} {pos p p2 apos cpos : Pos}
theorem R.dct {K : PySem.W.Frag} {M : Mh} {S H : Hp} {q : Addr} {kvs : List (Key × D)} (r : R K M S H) (h : M q = some (.dct kvs)) : ∃ ps, H q = some (.dK ps) ∧ KVD K (hid M S H) kvs ps := by
  obtain ⟨u, h1, ps, rfl, h2⟩ := r.chg q _ h
  exact ⟨ps, h1, h2⟩
theorem dget_of {K : PySem.W.Frag} {M : Mh} {S H : Hp} {q : Addr} {kvs : List (Key × D)} {d : D} {y : V} {j : Key} (r : R K M S H) (h : M q = some (.dct kvs)) (hy : DV K (hid M S H) d y) (hj : keyD d = some j) : (getG kvs j = none ∧ DGet H q y none) ∨ ∃ x w, getG kvs j = some x ∧ DGet H q y (some w) ∧ DV K (hid M S H) x w := by
  obtain ⟨ps, h1, h2⟩ := r.dct h
  rw [key_dv hy hj]
  rcases kvd_get j h2 with ⟨g1, g2⟩ | ⟨x, w, g1, g2, g3⟩
  · exact .inl ⟨g1, by rw [← g2]; exact DGet.k h1⟩
  · exact .inr ⟨x, w, g1, by rw [← g2]; exact DGet.k h1, g3⟩
theorem de_dnew : PE X (.Dict [] [] pos) (tI X.K E mDNew) := by
  refine pe_le pe_dnewK fun σ H Q ⟨M, S, Γ, k, kx, r, er, h, kv, kxx⟩ p hp => ?_
  have hM := r.freeM hp
  refine kv _ _ (h p hM) _ _ (r.put (.inr hp) ⟨[], rfl, rfl⟩) ?_ (dv_ref.mpr rfl)
  rw [hid_set _ _ _ _ _ _ (.inr hp)]
  exact Ex.refl _
theorem de_dix (hu : X.A.units + 1 < cLine) (ho : PE X o (tI X.K E ma)) (hi : PE X i (tI X.K E mb)) (hs : NoSl i) : PE X (.Subscript o i pos) (tI X.K E (mOp dDIx ma mb)) := by
  refine pe_le (pe_dget hu ho hi hs) fun σ H Q h => ?_
  obtain ⟨M, S, Γ, k, kx, r, er, h, kv, kxx⟩ := h
  refine ⟨M, S, Γ, _, kx, r, er, h, fun d M1 q1 H1 v1 r1 e1 d1 => ?_, kxx⟩
  refine ⟨M1, S, Γ, _, kx, r1, er.mono e1, q1, fun y M2 q2 H2 v2 r2 e2 d2 => ?_, kxx.ex e1⟩
  obtain ⟨q, kvs, j, x, rfl, g1, g2, g3, g4⟩ := q2
  rcases dget_of r2 g1 d2 g2 with ⟨c, _⟩ | ⟨x', w, c1, c2, c3⟩
  · rw [g3] at c; cases c
  · rw [g3] at c1
    cases c1
    exact ⟨q, w, dv_ref.mp d1, c2, kv _ M2 g4 H2 w r2 (e1.trans e2) c3⟩
theorem tI_din {neg : Bool} {σ : L2.St} {H : Hp} {Q : VK} (h : tI X.K E (mOp (dDInB neg) ma mb) σ H Q) : (tI X.K E ma) σ H fun y H1 => (tI X.K E mb) σ H1 fun x H2 => ∃ q ov, x = .ref q ∧ DGet H2 q y ov ∧ Q (.bl (if neg then !ov.isSome else ov.isSome)) H2 := by
  obtain ⟨M, S, Γ, k, kx, r, er, h, kv, kxx⟩ := h
  refine ⟨M, S, Γ, _, kx, r, er, h, fun d M1 q1 H1 v1 r1 e1 d1 => ?_, kxx⟩
  refine ⟨M1, S, Γ, _, kx, r1, er.mono e1, q1, fun y M2 q2 H2 v2 r2 e2 d2 => ?_, kxx.ex e1⟩
  obtain ⟨q, kvs, j, rfl, g1, g2, g4⟩ := q2
  rcases dget_of r2 g1 (d1.mono e2 _) g2 with ⟨c, c2⟩ | ⟨x', w, c1, c2, c3⟩
  · rw [c] at g4
    exact ⟨q, none, dv_ref.mp d2, c2, kv _ M2 g4 H2 _ r2 (e1.trans e2) (dv_bl.mpr rfl)⟩
  · rw [c1] at g4
    exact ⟨q, some w, dv_ref.mp d2, c2, kv _ M2 g4 H2 _ r2 (e1.trans e2) (dv_bl.mpr rfl)⟩
theorem de_din (hu : X.A.units + 1 < cLine) (ha : PE X a (tI X.K E ma)) (hb : PE X b (tI X.K E mb)) (hm : behindInMarks .In b = false := by rfl) : PE X (.Compare a [.In] [b] pos) (tI X.K E (mOp (dDInB false) ma mb)) :=
  pe_le (pe_cmp (pc_din hu ha hb) hm) fun _ _ _ h => tI_din h
theorem de_dnotin (hu : X.A.units + 1 < cLine) (ha : PE X a (tI X.K E ma)) (hb : PE X b (tI X.K E mb)) (hm : behindInMarks .NotIn b = false := by rfl) : PE X (.Compare a [.NotIn] [b] pos) (tI X.K E (mOp (dDInB true) ma mb)) :=
  pe_le (pe_cmp (pc_dnotin hu ha hb) hm) fun _ _ _ h => tI_din h
theorem de_dget2 (hu : X.A.units + 1 < cLine) (ho : PE X o (tI X.K E ma)) (he : PE X e (tI X.K E me)) (hf : PE X f (tI X.K E mf)) (m : M2 X o "get" apos e f cpos) : PE X (.Call (.Attribute o "get" apos) [e, f] [] cpos) (tI X.K E (mDGet2 ma me mf)) := by
  refine pe_le (pe_dget2 hu ho he hf m) fun σ H Q ⟨M, S, Γ, k, kx, r, er, h, kv, kxx⟩ => ?_
  refine ⟨M, S, Γ, _, kx, r, er, h, fun d M1 q1 H1 v1 r1 e1 d1 => ?_, kxx⟩
  obtain ⟨q, rfl, ⟨kvs, g1⟩, q1⟩ := q1
  obtain ⟨ps, g2, _⟩ := r1.dct g1
  refine ⟨q, dv_ref.mp d1, .inl ⟨ps, .inl g2⟩, M1, S, Γ, _, kx, r1, er.mono e1, q1, fun y M2 q2 H2 v2 r2 e2 d2 => ?_, kxx.ex e1⟩
  refine ⟨M2, S, Γ, _, kx, r2, er.mono (e1.trans e2), q2, fun z M3 q3 H3 v3 r3 e3 d3 => ?_, kxx.ex (e1.trans e2)⟩
  obtain ⟨kvs', j, g3, g4, g5⟩ := q3
  rcases dget_of r3 g3 (d2.mono e3 _) g4 with ⟨c, c2⟩ | ⟨x', w, c1, c2, c3⟩
  · rw [c] at g5
    exact ⟨none, c2, kv _ M3 g5 H3 _ r3 ((e1.trans e2).trans e3) d3⟩
  · rw [c1] at g5
    exact ⟨some w, c2, kv _ M3 g5 H3 _ r3 ((e1.trans e2).trans e3) c3⟩
theorem ds_dput (hu : X.A.units + 1 < cLine) (hv : PE X v (tI X.K E me)) (ho : PE X o (tI X.K E ma)) (hi : PE X i (tI X.K E mb)) (hs : swapsWith v (some (.Subscript o i p2)) pos.line X.env = pure false := by rfl) : PS X (.Assign [.Subscript o i p2] v pos) (tSt X.K E (mDPut me ma mb)) := by
  refine ps_le (ps_dput hu ho hi hv hs) fun D σ H ⟨M, S, Γ, De, kx, r, er, h, h1, h2, h3, h4, h5⟩ => ?_
  refine ⟨M, S, Γ, _, kx, r, er, h, fun d M1 q1 H1 v1 r1 e1 d1 => ?_, h5⟩
  refine ⟨M1, S, Γ, _, kx, r1, er.mono e1, q1, fun oo M2 q2 H2 v2 r2 e2 d2 => ?_, h5.ex e1⟩
  refine ⟨M2, S, Γ, _, kx, r2, er.mono (e1.trans e2), q2, fun ii M3 q3 H3 v3 r3 e3 d3 => ?_, h5.ex (e1.trans e2)⟩
  obtain ⟨q, kvs, j, rfl, g1, g2, g3, g4⟩ := q3
  obtain ⟨ps, g5, g6⟩ := r3.dct g1
  have hs : (M3 q).isSome = true := by rw [g1]; rfl
  have d1' := d1.mono (e2.trans e3) _
  refine ⟨q, _, dv_ref.mp d2, by rw [key_dv d3 g2]; exact DPut.k g5 (by rw [← kvd_len g6]; exact g3), ?_⟩
  refine h1 Γ _ g4 _ σ (r3.put (.inl hs) ⟨_, rfl, kvd_put d1' g6⟩) ?_ ?_
  · rw [hid_set _ _ _ _ _ _ (.inl hs)]
    exact (e1.trans e2).trans e3
  · rw [hid_set _ _ _ _ _ _ (.inl hs)]
    exact er.mono ((e1.trans e2).trans e3)
theorem dc_dictD : CallR X (.type "dict") (rLc X.K cDictD) := by
  refine CallR.sub call_dictD fun xs H Q ⟨M, S, ds, k, r, hd, ⟨q, kvs, eds, g1, g2⟩, kv⟩ => ?_
  subst eds
  obtain ⟨v, rfl, hv⟩ := dc_one hd
  obtain ⟨ps, g5, g6⟩ := r.dct g1
  refine ⟨q, ps, by rw [dv_ref.mp hv], .inl g5, fun p hp => ?_⟩
  have hM := r.freeM hp
  refine kv _ _ (g2 p hM) _ _ (r.put (.inr hp) ⟨ps, rfl, g6⟩) ?_ (dv_ref.mpr rfl)
  rw [hid_set _ _ _ _ _ _ (.inr hp)]
  exact Ex.refl _
theorem do_neD (hu : X.A.units < cLine) : OpR X (compareOp .NotEq) (rL2 X.K (dSameD true)) := by
  refine OpR.sub (op_ne_dictA hu) fun x y H Q ⟨M, S, d, e, k, r, hd, he, ⟨a, b, kvs, ed, ee, g1, g2, nd, fl, q⟩, kv⟩ => ?_
  subst ed ee
  obtain ⟨ps, h1, h2⟩ := r.dct g1
  obtain ⟨qs, h3, h4⟩ := r.dct g2
  obtain ⟨e1, e2⟩ := kvd_same fl h2 h4
  subst e1
  rw [kvd_keys h2] at nd
  exact ⟨a, b, ps, ps, dv_ref.mp hd, dv_ref.mp he, h1, h3, rfl, fun p hp => ⟨valV_mem nd p hp, e2 p hp⟩, kv.now r q (dv_bl.mpr rfl)⟩
theorem do_eqD (hu : X.A.units < cLine) : OpR X (compareOp .Eq) (rL2 X.K (dSameD false)) := by
  refine OpR.sub (op_eq_dictA hu) fun x y H Q ⟨M, S, d, e, k, r, hd, he, ⟨a, b, kvs, ed, ee, g1, g2, nd, fl, q⟩, kv⟩ => ?_
  subst ed ee
  obtain ⟨ps, h1, h2⟩ := r.dct g1
  obtain ⟨qs, h3, h4⟩ := r.dct g2
  obtain ⟨e1, e2⟩ := kvd_same fl h2 h4
  subst e1
  rw [kvd_keys h2] at nd
  exact ⟨a, b, ps, ps, dv_ref.mp hd, dv_ref.mp he, h1, h3, rfl, fun p hp => ⟨valV_mem nd p hp, e2 p hp⟩, kv.now r q (dv_bl.mpr rfl)⟩
end
end DL
set_option maxHeartbeats 4000000
namespace DL
open PySem PySem.Spec PyProof.Rows L2 StX
section
variable {X : Cx} {E : XK} {o e : Expr} {es : List Expr} {mo me : ME} {mA : MA} {p apos pos : Pos}
/-! ### *e in a display -/
def mStar (me : ME) (mA : MA) : MA := fun Γ M k kx => me Γ M (fun d M1 => ∃ ds, sqOf M1 d = some ds ∧ mA Γ M1 (fun es M2 => k (ds ++ es) M2) kx) kx
theorem da_star (he : PE X e (tI X.K E me)) (hr : PA X es (tA X.K E mA)) (hs : starEach (.Starred e p :: es) X.env = (true, eval e X.env) :: starEach es X.env := by rfl) : PA X (.Starred e p :: es) (tA X.K E (mStar me mA)) := by
  refine pa_le (pa_star he hr hs) fun σ H Q ⟨M, S, Γ, k, kx, r, er, h, kv, kxx⟩ => ?_
  refine ⟨M, S, Γ, _, kx, r, er, h, fun d M1 ⟨ds, hd, q⟩ H1 v r1 e1 d1 => ?_, kxx⟩
  obtain ⟨a, vs, rfl, g1, g2⟩ := sq_of r1 d1 hd
  refine ⟨a, vs, rfl, g1.symm, M1, S, Γ, _, kx, r1, er.mono e1, q, fun es M2 q2 H2 ws r2 e2 d2 => ?_, kxx.ex e1⟩
  exact kv _ M2 q2 H2 _ r2 (e1.trans e2) (DVs.append (DVs.mono e2 _ g2) d2)
/-! ### xs.append(e), xs a list that may change -/
def mAppend (mo me : ME) : ME := fun Γ M k kx => mo Γ M (fun d M1 => ∃ a ds0, d = .ref a ∧ M1 a = some (.lst ds0) ∧ me Γ M1 (fun x M2 => ∃ ds, M2 a = some (.lst ds) ∧ ds.length < sizeLine ∧ k .non (setM M2 a (.lst (ds ++ [x])))) kx) kx
theorem de_append (ho : PE X o (tI X.K E mo)) (he : PE X e (tI X.K E me)) (hbase : attributeBase o "append" X.env (eval o X.env) = eval o X.env := by rfl)
    (hfew : ((backTo pos (starEach [e] X.env)).all (fun x => !x.1) && (backToKw pos (keywordEach [] X.env)).all (fun x => x.1.isSome) && decide ([e].length + ([] : List Keyword).length + (if ([] : List Keyword).isEmpty then 0 else 1) < 30)) = true := by rfl)
    (hline : (apos.endLine == pos.line) = true := by rfl) (hs : starEach [e] X.env = (false, eval e X.env) :: starEach [] X.env := by rfl) :
    PE X (.Call (.Attribute o "append" apos) [e] [] pos) (tI X.K E (mAppend mo me)) := by
  refine pe_le (pe_bm PySem.F.plainAttrs_list PySem.F.slot_list_append PySem.F.type_list_append mt_append ho (pa_cons he pa_nil hs) hbase hfew hline hs rfl) fun σ H Q ⟨M, S, Γ, k, kx, r, er, h, kv, kxx⟩ => ?_
  refine ⟨M, S, Γ, _, kx, r, er, h, fun d M1 ⟨a, ds0, ed, hM, q⟩ H1 v r1 e1 d1 => ?_, kxx⟩
  subst ed
  obtain rfl := dv_ref.mp d1
  obtain ⟨u, g1, vs0, rfl, g2⟩ := r1.chg a _ hM
  refine ⟨.inl ⟨rfl, _, SqL.of g1⟩, M1, S, Γ, _, kx, r1, er.mono e1, q, fun x M2 ⟨ds, hM2, hl, q2⟩ H2 w r2 e2 d2 => ?_, kxx.ex e1⟩
  obtain ⟨u2, g3, vs, rfl, g4⟩ := r2.chg a _ hM2
  refine ⟨a, vs, w, rfl, rfl, g3, by rw [← g4.length]; exact hl, ?_⟩
  have hS : (M2 a).isSome = true := by rw [hM2]; rfl
  refine kv _ _ q2 _ _ (r2.put (.inl hS) ⟨_, rfl, g4.append (DVs.one d2)⟩) ?_ (dv_non.mpr rfl)
  rw [hid_set _ _ _ _ _ _ (.inl hS)]
  exact e1.trans e2
/-! ### max(xs), xs a list of numbers -/
theorem ints_of {K : PySem.W.Frag} {F : Hp} : ∀ {ns : List Int} {vs : List V}, DVs K F (ns.map D.int) vs → vs = ns.map V.int
  | [], _, h => dvs_nil.mp h
  | n :: ns, _, h => by
    obtain ⟨v, r, rfl, h2, h3⟩ := dvs_cons.mp h
    rw [dv_int.mp h2, ints_of h3]
    rfl
def cMaxL (ds : List D) (M : Mh) (k : DK) : Prop := ∃ d ns, ds = [d] ∧ lsOf M d = some (List.map D.int ns) ∧ 0 < ns.length ∧ ∀ m, m ∈ ns → (∀ a, a ∈ ns → a ≤ m) → k (.int m) M
theorem dc_maxL (hc : X.calm = true) : CallR X (.builtin "max") (rLc X.K cMaxL) := CallR.sub (cr_max hc) fun xs H Q ⟨M, S, ds, k, r, hd, ⟨d, ns, e1, e2, e3, q⟩, kv⟩ => by
  subst e1
  obtain ⟨v, rfl, hv⟩ := dc_one hd
  obtain ⟨a, ws, rfl, g1, g2⟩ := ls_sq r hv e2
  rw [ints_of g2] at g1
  exact ⟨a, ns, rfl, SqL.of g1, e3, fun m h1 h2 => kv.now r (q m h1 h2) (dv_int.mpr rfl)⟩
/-! ### e.replace('y', 'z'), a token out -/
abbrev PETd (X : Cx) (E : XK) (e : Expr) (m : ME) : Prop := PET X e (tI X.K E m)
abbrev PATd (X : Cx) (E : XK) (es : List Expr) (m : MA) : Prop := PAT X es (tA X.K E m)
def mRepl (y z : Str) (mo : ME) : ME := fun Γ M k kx => mo Γ M (fun d M1 => ∃ x, d = .str x ∧ x.length + (x.length + 1) * z.length ≤ 16777216 ∧ k (.str (Txt.replace x y z)) M1) kx
theorem pet_le {t t' : TE} (h : PET X e t) (i : ∀ σ H Q, t' σ H Q → t σ H Q) : PET X e t' := fun pins s σ H Q h0 I q => h pins s σ H Q h0 I (i σ H Q q)
theorem pat_le {t t' : TA} (h : PAT X es t) (i : ∀ σ H Q, t' σ H Q → t σ H Q) : PAT X es t' := fun pos pins s σ H Q h0 I q => h pos pins s σ H Q h0 I (i σ H Q q)
theorem dt_repl {y z : Str} {j k : Nat} {c0 c1 : Pos} (ho : PE X o (tI X.K E mo)) (hyz : (y == z) = false := by decide)
    (hst : starEach [.Constant (.str y) j c0, .Constant (.str z) k c1] X.env = [(false, eval (.Constant (.str y) j c0) X.env), (false, eval (.Constant (.str z) k c1) X.env)] := by rfl)
    (hbase : attributeBase o "replace" X.env (eval o X.env) = eval o X.env := by rfl) (hline : (apos.endLine == pos.line) = true := by rfl) :
    PETd X E (.Call (.Attribute o "replace" apos) [.Constant (.str y) j c0, .Constant (.str z) k c1] [] pos) (mRepl y z mo) := by
  refine pet_le (CwR.pet_replC ho hyz hst hbase hline) fun σ H Q ⟨M, S, Γ, k, kx, r, er, h, kv, kxx⟩ => ?_
  refine ⟨M, S, Γ, _, kx, r, er, h, fun d M1 ⟨x, ed, hl, q⟩ H1 v r1 e1 d1 => ?_, kxx⟩
  subst ed
  exact ⟨x, dv_str.mp d1, hl, kv _ M1 q H1 _ r1 e1 (dv_str.mpr rfl)⟩
theorem dta_nil : PATd X E [] mNil := fun pos pins s σ H Q _ I q => (da_nil (X := X) (E := E)).run pos pins s σ H Q I q
theorem dta_of (h : PA X es (tA X.K E mA)) : PATd X E es mA := fun pos pins s σ H Q _ I q => h.run pos pins s σ H Q I q
theorem dta_cons (ha : PETd X E e me) (hr : PATd X E es mA) (hs : starEach (e :: es) X.env = (false, eval e X.env) :: starEach es X.env := by rfl) : PATd X E (e :: es) (mCons me mA) :=
  pat_le (pat_cons ha hr hs) fun _ _ _ h => tA_cons h
/-- 'c' + b, .. : behind the first item a token is out -/
theorem da_consT {c : Str} {j : Nat} {cp : Pos} {b : Expr} {op : Operator} {r : D → D → Mh → DK → Prop} {mb : ME} (ho : OpR X (binaryOp op) (rL2 X.K r)) (hb : PE X b (tI X.K E mb)) (hr : PATd X E es mA)
    (hs : starEach (.BinOp (.Constant (.str c) j cp) op b p :: es) X.env = (false, eval (.BinOp (.Constant (.str c) j cp) op b p) X.env) :: starEach es X.env := by rfl) :
    PA X (.BinOp (.Constant (.str c) j cp) op b p :: es) (tA X.K E (mCons (mOp r (mC (.str c)) mb) mA)) := by
  have h0 : PA X (.BinOp (.Constant (.str c) j cp) op b p :: es) (tCons (tOp (rL2 X.K r) (tC (.str c)) (tI X.K E mb)) (tA X.K E mA)) := by
    refine ⟨fun pos pins s σ H Q I h => ?_⟩
    rw [hs]
    show wpAny _ _ (spliced ((false, eval (.BinOp (.Constant (.str c) j cp) op b p) X.env) :: backTo pos (starEach es X.env))) _ _ s
    refine Calls.spliced_cons (wpAny_BinOp (Calls.Constant_str ?_))
    have I0 : Inv X pins σ H { s with toks := s.toks + 1 } := I.tok _
    refine wpAny_mono (PySem.wpAny_toks (hb.run pins _ σ H _ I0 h)) (fun u s2 q => ?_) fun _ _ z => z.2
    obtain ⟨hk, y, H2, I2, r2, q2⟩ := q
    have hk : s.toks + 1 ≤ s2.toks := hk
    refine wpAny_mono (PySem.wpAny_toks (ho pins s2 σ H2 (.str c) y _ u _ I2 ⟨s.toks, rfl⟩ r2 q2)) (fun v s3 q => ?_) fun _ _ z => z.2
    obtain ⟨hk3, x, H3, I3, r3, q3⟩ := q
    exact thn (hr pos pins s3 σ H3 _ (by omega) I3 q3) fun us s4 ⟨xs, H4, I4, r4, q4⟩ => ⟨x :: xs, H4, I4, .cons r3 r4, q4⟩
  refine pa_le h0 fun σ H Q h => ?_
  obtain ⟨M, S, Γ, k, kx, rr, er, hm, kv, kxx⟩ := h
  refine ⟨M, S, Γ, _, kx, rr, er, hm, fun y M1 q1 H1 v1 r1 e1 d1 => ?_, kxx⟩
  refine ⟨M1, S, .str c, y, _, r1, dv_str.mpr rfl, d1, q1, fun z M2 q2 H2 v2 r2 e2 d2 => ?_⟩
  refine ⟨M2, S, Γ, _, kx, r2, er.mono (e1.trans e2), q2, fun zs M3 q3 H3 v3 r3 e3 d3 => ?_, kxx.ex (e1.trans e2)⟩
  exact kv _ M3 q3 H3 _ r3 ((e1.trans e2).trans e3) (dvs_cons.mpr ⟨_, _, rfl, d2.mono e3 _, d3⟩)
end
end DL
set_option maxHeartbeats 4000000
/-! instances over data: fields, methods, making -/
namespace DL
open PySem PySem.Spec PyProof.Rows L2
section
variable {K : PySem.W.Frag} {F : Hp}
theorem kvf_look {f : Str} : ∀ {fs : List (Str × D)} {ps : List (Str × V)} {d : D}, KVD K F fs ps → fs.lookup f = some d → ∃ v, ps.lookup f = some v ∧ DV K F d v
  | [], _, _, _, e => by cases e
  | (g, x) :: r, _, d, h, e => by
    obtain ⟨v, t, rfl, h2, h3⟩ := h
    rw [List.lookup_cons] at e ⊢
    cases q : f == g with
    | true =>
      rw [q] at e
      cases e
      exact ⟨v, rfl, h2⟩
    | false =>
      rw [q] at e
      exact kvf_look h3 e
theorem kvf_none {f : Str} : ∀ {fs : List (Str × D)} {ps : List (Str × V)}, KVD K F fs ps → fs.lookup f = none → ps.lookup f = none
  | [], _, h, _ => by rw [show _ = [] from h]; rfl
  | (g, x) :: r, _, h, e => by
    obtain ⟨v, t, rfl, h2, h3⟩ := h
    rw [List.lookup_cons] at e ⊢
    cases q : f == g with
    | true => rw [q] at e; cases e
    | false =>
      rw [q] at e
      exact kvf_none h3 e
theorem kvf_len : ∀ {fs : List (Str × D)} {ps : List (Str × V)}, KVD K F fs ps → fs.length = ps.length
  | [], _, h => by rw [show _ = [] from h]; rfl
  | (g, x) :: r, _, h => by
    obtain ⟨v, t, rfl, h2, h3⟩ := h
    rw [List.length_cons, List.length_cons, kvf_len h3]
def putD (f : Str) (d : D) : List (Str × D) → List (Str × D)
  | [] => [(f, d)]
  | (g, x) :: r => if g = f then (g, d) :: r else (g, x) :: putD f d r
theorem kvf_put {f : Str} {d : D} {v : V} (hv : DV K F d v) : ∀ {fs : List (Str × D)} {ps : List (Str × V)}, KVD K F fs ps → KVD K F (putD f d fs) (putF f v ps)
  | [], _, h => by rw [show _ = [] from h]; exact ⟨v, [], rfl, hv, rfl⟩
  | (g, x) :: r, _, h => by
    obtain ⟨u, t, rfl, h2, h3⟩ := h
    unfold putD putF
    by_cases e : g = f
    · rw [if_pos e, if_pos e]
      exact ⟨v, t, rfl, hv, h3⟩
    · rw [if_neg e, if_neg e]
      exact ⟨u, _, rfl, h2, kvf_put hv h3⟩
end
section
variable {X : Cx} {E : XK} {C : Addr} {f m : Str} {o e : Expr} {es : List Expr} {mo me mv : ME} {mA mB : MA} {p pos pos' apos : Pos}
/-! ### fields -/
def mFldC (C : Addr) (f : Str) (mo : ME) : ME := fun Γ M k kx => mo Γ M (fun d M1 => ∃ a fs v, d = .ref a ∧ M1 a = some (.ins C fs) ∧ fs.lookup f = some v ∧ k v M1) kx
theorem de_fldC (c : Cls X.K C) (n : NoAttr X.K C f) (he : PE X e (tI X.K E me)) (hb : attributeBase e f X.env (eval e X.env) = eval e X.env := by rfl) : PE X (.Attribute e f pos) (tI X.K E (mFldC C f me)) := by
  refine pe_le (pe_fld he hb) fun σ H Q ⟨M, S, Γ, k, kx, r, er, h, kv, kxx⟩ => ?_
  refine ⟨M, S, Γ, _, kx, r, er, h, fun d M1 ⟨a, fs, v, ed, hM, hl, q⟩ H1 x r1 e1 d1 => ?_, kxx⟩
  subst ed
  obtain rfl := dv_ref.mp d1
  obtain ⟨u, g1, dx, ps, rfl, g2⟩ := r1.chg a _ hM
  obtain ⟨w, g3, g4⟩ := kvf_look g2 hl
  exact ⟨a, C, dx, ps, w, rfl, g1, c, n, g3, kv _ M1 q H1 w r1 e1 g4⟩
def mSetF (C : Addr) (f : Str) (mv mo : ME) : MS := fun De Γ M kx => mv Γ M (fun y M1 => mo Γ M1 (fun d M2 => ∃ a fs, d = .ref a ∧ M2 a = some (.ins C fs) ∧ fs.length < 1000 ∧ De.nx Γ (setM M2 a (.ins C (putD f y fs)))) kx) kx
theorem ds_setF (c : Cls X.K C) (n : NoAttr X.K C f) (hv : PE X e (tI X.K E mv)) (ho : PE X o (tI X.K E mo)) (hs : swapsWith e (some (.Attribute o f pos')) pos.line X.env = pure false := by rfl) : PS X (.Assign [.Attribute o f pos'] e pos) (tSt X.K E (mSetF C f mv mo)) := by
  refine ps_le (ps_fld ho hv hs) fun D σ H ⟨M, S, Γ, De, kx, r, er, h, h1, h2, h3, h4, h5⟩ => ?_
  refine ⟨M, S, Γ, _, kx, r, er, h, fun y M1 q1 H1 v r1 e1 d1 => ?_, h5⟩
  refine ⟨M1, S, Γ, _, kx, r1, er.mono e1, q1, fun d M2 ⟨a, fs, ed, hM, hl, q⟩ H2 x r2 e2 d2 => ?_, h5.ex e1⟩
  subst ed
  obtain rfl := dv_ref.mp d2
  obtain ⟨u, g1, dx, ps, rfl, g2⟩ := r2.chg a _ hM
  have hS : (M2 a).isSome = true := by rw [hM]; rfl
  refine ⟨a, C, dx, ps, rfl, g1, c, n, by rw [← kvf_len g2]; exact hl, ?_⟩
  refine h1 Γ _ q _ σ (r2.put (.inl hS) ⟨dx, _, rfl, kvf_put (d1.mono e2 _) g2⟩) ?_ ?_
  · rw [hid_set _ _ _ _ _ _ (.inl hS)]
    exact e1.trans e2
  · rw [hid_set _ _ _ _ _ _ (.inl hS)]
    exact er.mono (e1.trans e2)
/-! ### methods -/
structure MtD (P : Program) (w : World) (K : PySem.W.Frag) (mg : Str → Option Value) (base : Heap) (CX : CXT) (k : Nat) (C : Addr) (m : Str) (f : Addr) (fd : FuncData) (ps : List Str) (s : MF) : Prop where
  ok : FnOk P w K mg base CX k f fd ps (spI K s)
  cls : Cls K C
  meth : Meth K C m f
def mMeth (C : Addr) (m : Str) (s : MF) (mo : ME) (mA : MA) : ME := fun Γ M k kx => mo Γ M (fun d M1 => ∃ a fs, d = .ref a ∧ M1 a = some (.ins C fs) ∧ fs.lookup m = none ∧ mA Γ M1 (fun ds M2 => s (.ref a :: ds) M2 k kx) kx) kx
theorem tI_meth {s : MF} {σ : L2.St} {H : Hp} {Q : VK} (h : tI X.K E (mMeth C m s mo mA) σ H Q) : tMeth C m (spI X.K s) [] E (tI X.K E mo) (tA X.K E mA) σ H Q := by
  obtain ⟨M, S, Γ, k, kx, r, er, h, kv, kxx⟩ := h
  refine ⟨M, S, Γ, _, kx, r, er, h, fun d M1 ⟨a, fs, ed, hM, hl, q⟩ H1 x r1 e1 d1 => ?_, kxx⟩
  subst ed
  obtain rfl := dv_ref.mp d1
  obtain ⟨u, g1, dx, ps, rfl, g2⟩ := r1.chg a _ hM
  refine ⟨a, dx, ps, rfl, g1, kvf_none g2 hl, M1, S, Γ, _, kx, r1, er.mono e1, q, fun ds M2 q2 H2 vs r2 e2 d2 => ?_, kxx.ex e1⟩
  exact ⟨M2, S, .ref a :: ds, k, kx, r2, dvs_cons.mpr ⟨_, _, rfl, dv_ref.mpr rfl, by rw [List.append_nil]; exact d2⟩, q2, kv.ex (e1.trans e2), kxx.ex (e1.trans e2)⟩
section
variable {CX : CXT} {k : Nat} {g : Addr} {fd : FuncData} {ps : List Str} {s : MF} {pl : Sem Bool}
theorem de_meth (D : MtD X.prog X.w X.K X.mg X.base CX k C m g fd ps s) (hr : Room k X.A) (hb : Binds X.K fd ps []) (hx : Passes CX X E) (ho : PE X o (tI X.K E mo)) (ha : PA X (e :: es) (tA X.K E mA))
    (hst : starEach (e :: es) X.env = (false, eval e X.env) :: starEach es X.env := by rfl) (hpl : (backTo pos (starEach es X.env)).any (·.1) = false := by rfl)
    (ht : eval (.Call (.Attribute o m apos) (e :: es) [] pos) X.env = (do
      let ov ← eval o X.env
      standAt apos.atName
      let (f, first) ← holding [ov] (getMethod ov m pl)
      callWith pos f first (backTo pos (starEach (e :: es) X.env)) (backToKw pos (keywordEach [] X.env))) := by rfl) :
    PE X (.Call (.Attribute o m apos) (e :: es) [] pos) (tI X.K E (mMeth C m s mo mA)) := pe_le (pe_meth (pl := pl) ho D.cls D.meth D.ok hr hb .nil hx ha hst hpl ht) fun _ _ _ h => tI_meth h
theorem de_meth0 (D : MtD X.prog X.w X.K X.mg X.base CX k C m g fd ps s) (hr : Room k X.A) (hb : Binds X.K fd ps []) (hx : Passes CX X E) (ho : PE X o (tI X.K E mo))
    (ht : eval (.Call (.Attribute o m apos) [] [] pos) X.env = (do
      let ov ← eval o X.env
      standAt apos.atName
      let (f, first) ← holding [ov] (getMethod ov m pl)
      callWith pos f first (backTo pos (starEach [] X.env)) (backToKw pos (keywordEach [] X.env))) := by rfl) :
    PE X (.Call (.Attribute o m apos) [] [] pos) (tI X.K E (mMeth C m s mo mNil)) := by
  refine pe_le (pe_meth0 (pl := pl) ho D.cls D.meth D.ok hr hb .nil hx ht) fun σ H Q h => ?_
  obtain ⟨M, S, Γ, k, kx, r, er, h, kv, kxx⟩ := h
  refine ⟨M, S, Γ, _, kx, r, er, h, fun d M1 ⟨a, fs, ed, hM, hl, q⟩ H1 x r1 e1 d1 => ?_, kxx⟩
  subst ed
  obtain rfl := dv_ref.mp d1
  obtain ⟨u, g1, dx, ps, rfl, g2⟩ := r1.chg a _ hM
  exact ⟨a, dx, ps, rfl, g1, kvf_none g2 hl, M1, S, [.ref a], k, kx, r1, DVs.one (dv_ref.mpr rfl), q, kv.ex e1, kxx.ex e1⟩
/-- o.m(e, .., k = v, ..) -/
def mMethN (n j : Nat) (C : Addr) (m : Str) (s : MF) (gD : List D → List D → List D) (mo : ME) (mA mB : MA) : ME := fun Γ M k kx => mo Γ M (fun d M1 => ∃ a fs, d = .ref a ∧ M1 a = some (.ins C fs) ∧ fs.lookup m = none ∧
  mA Γ M1 (fun ds M2 => mB Γ M2 (fun es M3 => ds.length + 1 = n ∧ es.length = j ∧ s (gD (.ref a :: ds) es) M3 k kx) kx) kx) kx
theorem de_methN {n : Nat} {ks : List Str} {kws : List Keyword} {gD : List D → List D → List D} (D : MtD X.prog X.w X.K X.mg X.base CX k C m g fd ps s) (hr : Room k X.A) (hb : Shape X.K fd ps n ks gD) (hx : Passes CX X E) (ho : PE X o (tI X.K E mo)) (ha : PA X (e :: es) (tA X.K E mA)) (hkw : PK X kws (tA X.K E mB))
    (hall : (backToKw pos (keywordEach kws X.env)).all (·.1.isSome) = true := by rfl) (hks : (backToKw pos (keywordEach kws X.env)).filterMap (·.1) = ks := by rfl)
    (he : starEach (e :: es) X.env = (false, eval e X.env) :: starEach es X.env := by rfl) (hpl : ((backTo pos (starEach (e :: es) X.env)).any (·.1) || (backToKw pos (keywordEach kws X.env)).any (·.1.isNone)) = false := by rfl)
    (ht : eval (.Call (.Attribute o m apos) (e :: es) kws pos) X.env = (do
      let ov ← eval o X.env
      standAt apos.atName
      let (f, first) ← holding [ov] (getMethod ov m pl)
      callWith pos f first (backTo pos (starEach (e :: es) X.env)) (backToKw pos (keywordEach kws X.env))) := by rfl) :
    PE X (.Call (.Attribute o m apos) (e :: es) kws pos) (tI X.K E (mMethN n ks.length C m s gD mo mA mB)) := by
  obtain ⟨gv, gV, hb, hd⟩ := hb
  refine ⟨fun pins sh σ H Q I hq => ?_⟩
  obtain ⟨M, S, Γ, kk, kx, r, er, h, kv, kxx⟩ := hq
  refine PySem.W.methodCall_KW (pl := pl) (thn (ho.run pins sh σ H (fun x H1 => ∃ a dx fs M1, x = .ref a ∧ H1 a = some (.ins C dx fs) ∧ fs.lookup m = none ∧ R X.K M1 S H1 ∧ Ex (hid M S H) (hid M1 S H1) ∧
      mA Γ M1 (fun ds M2 => mB Γ M2 (fun es M3 => ds.length + 1 = n ∧ es.length = ks.length ∧ s (gD (.ref a :: ds) es) M3 kk kx) kx) kx) I
    ⟨M, S, Γ, _, kx, r, er, h, fun d M1 ⟨a, fs, ed, hM, hl, q⟩ H1 x r1 e1 d1 => ?_, kxx⟩) fun u s1 ⟨x, H1, I1, rx, a, dx, fs, M1, ex, ea, l, r1, e1, q⟩ => ?_) ht
  · subst ed
    obtain ⟨u, g1, dx, ps, rfl, g2⟩ := r1.chg a _ hM
    exact ⟨a, dx, ps, M1, dv_ref.mp d1, g1, kvf_none g2 hl, r1, e1, q⟩
  · subst ex
    obtain rfl : u = Value.ref a := rx
    refine getmeth_ok I1 ea D.cls D.meth l ?_
    refine PySem.W.callWith_KW (first := [.ref a]) (h₀ := X.base) I.ok.mod.kin D.meth.kp hall (thn (ha.run pos pins s1 σ H1 (fun vs H2 => tA X.K E mB σ H2 fun zs H3 => vs.length + 1 = n ∧ zs.length = ks.length ∧ spI X.K s (gV (.ref a :: vs) zs) H3 Q E) I1
      ⟨M1, S, Γ, _, kx, r1, er.mono e1, q, fun ds M2 q2 H2 vs r2 e2 d2 => ?_, kxx.ex e1⟩) fun us s2 ⟨vs, H2, I2, rv, q2⟩ => ?_) hpl he
    · refine ⟨M2, S, Γ, _, kx, r2, er.mono (e1.trans e2), q2, fun zs M3 ⟨l1, l2, q3⟩ H3 ws r3 e3 d3 => ?_, kxx.ex (e1.trans e2)⟩
      exact ⟨by rw [← d2.length]; exact l1, by rw [← d3.length]; exact l2, M3, S, _, kk, kx, r3, hd _ _ _ _ _ (dvs_cons.mpr ⟨_, _, rfl, dv_ref.mpr rfl, d2.mono e3 _⟩) d3 l1 l2, q3, kv.ex ((e1.trans e2).trans e3), kxx.ex ((e1.trans e2).trans e3)⟩
    · refine thn (hkw.run pos pins s2 σ H2 _ I2 q2) fun ws s3 ⟨zs, H3, I3, rz, l1, l2, q3⟩ => ⟨I3.kIn, ?_⟩
      rw [hks]
      exact run_fnN (us := .ref a :: us) (vs := .ref a :: vs) D.ok hr hb hx I3 (.cons rfl rv) rz l1 l2 q3
/-! ### making -/
def mMake (C : Addr) (s : MF) (mA : MA) : ME := fun Γ M k kx => mA Γ M (fun ds M1 => ∀ x, M1 x = none → s (.ref x :: ds) (setM M1 x (.ins C [])) (fun d M2 => d = .non ∧ k (.ref x) M2) kx) kx
theorem tI_make {sp : Sp} (hsp : sp = spI X.K s) {σ : L2.St} {H : Hp} {Q : VK} (h : tI X.K E (mMake C s mA) σ H Q) : tMake C sp [] E (tA X.K E mA) σ H Q := by
  subst hsp
  obtain ⟨M, S, Γ, k, kx, r, er, h, kv, kxx⟩ := h
  refine ⟨M, S, Γ, _, kx, r, er, h, fun ds M1 q H1 vs r1 e1 d1 => fun x dx hx hdx hne => ?_, kxx⟩
  obtain ⟨r2, e2, _⟩ := r1.new (o := .own x) hdx
  have hx2 : upd H1 dx (.own x) x = none := by rw [upd_ne (Ne.symm hne)]; exact hx
  have r3 := r2.put (m := .ins C []) (o := .ins C dx []) (.inr hx2) ⟨dx, [], rfl, rfl⟩
  have e3 : hid (setM M1 x (.ins C [])) S (upd (upd H1 dx (.own x)) x (.ins C dx [])) = hid M1 S (upd H1 dx (.own x)) := hid_set _ _ _ _ _ _ (.inr hx2)
  refine ⟨_, S, .ref x :: ds, _, kx, r3, dvs_cons.mpr ⟨_, _, rfl, dv_ref.mpr rfl, by rw [List.append_nil, e3]; exact DVs.mono e2 _ d1⟩, q x (r1.freeM hx), fun d M2 ⟨ed, q2⟩ H2 v r4 e4 d4 => ?_, kxx.ex ?_⟩
  · subst ed
    exact ⟨dv_non.mp d4, kv _ M2 q2 H2 _ r4 ((e1.trans e2).trans (by rw [e3] at e4; exact e4)) (dv_ref.mpr rfl)⟩
  · rw [e3]
    exact e1.trans e2
/-- the class is made by its own __init__ -/
structure MkD (P : Program) (w : World) (K : PySem.W.Frag) (mg : Str → Option Value) (base : Heap) (CX : CXT) (k : Nat) (x : Str) (C : Addr) (s : MF) : Prop where
  mak : ∃ f, Mk K C f ∧ FnR P w K mg base CX k f (spI K s)
  gl : mg x = some (.ref C)
theorem de_make {x : Str} (D : MkD X.prog X.w X.K X.mg X.base CX k x C s) (hr : Room (k + 1) X.A) (hg : Gl X x) (hx : Passes CX X E) (ha : PA X (e :: es) (tA X.K E mA)) (hdb : (x == ("__debug__" : Str)) = false := by decide)
    (he : starEach (e :: es) X.env = (false, eval e X.env) :: starEach es X.env := by rfl) (hpl : (backTo pos (starEach es X.env)).any (·.1) = false := by rfl) : PE X (.Call (.Name x p) (e :: es) [] pos) (tI X.K E (mMake C s mA)) := by
  obtain ⟨f, mk, F⟩ := D.mak
  refine pe_le (StX.pe_makeR mk F hr hg D.gl hx ha hdb he hpl) fun σ H Q h => ?_
  have z := tI_make (sp := spI X.K s) rfl h
  unfold tMake at z
  unfold StX.tMakeR
  simpa using z
end
end
end DL
set_option maxHeartbeats 4000000
/-! == of nested data: lists and dicts that may change among them -/
namespace DL
open PySem PySem.Spec PyProof.Rows L2
inductive EqD (M : Mh) : Nat → D → D → Bool → Prop
  | sc {n : Nat} {d e : D} {b : Bool} : eqS d e = some b → EqD M n d e b
  | same {n : Nat} {a : Addr} : EqD M n (.ref a) (.ref a) true
  | tup {n : Nat} {ds es : List D} (f : Nat → Bool) : (∀ (j : Nat) (x y : D), ds[j]? = some x → es[j]? = some y → EqD M n x y (f j)) → EqD M (n + 1) (.tup ds) (.tup es) ((List.range (min ds.length es.length)).all f && ds.length == es.length)
  | lst {n : Nat} {d e : D} {ds es : List D} (f : Nat → Bool) : lsOf M d = some ds → lsOf M e = some es → (∀ a b, d = .ref a → e = .ref b → a ≠ b) → ds.length = es.length → (∀ (j : Nat) (x y : D), ds[j]? = some x → es[j]? = some y → EqD M n x y (f j)) → EqD M (n + 1) d e ((List.range ds.length).all f)
  | len {n : Nat} {d e : D} {ds es : List D} : lsOf M d = some ds → lsOf M e = some es → ds.length ≠ es.length → EqD M (n + 1) d e false
  | dct {n : Nat} {a b : Addr} {ka kb : List (Key × D)} (f : Key → Bool) : a ≠ b → M a = some (.dct ka) → M b = some (.dct kb) → (∀ k x y, (k, x) ∈ ka → getG kb k = some y → EqD M n x y (f k)) → EqD M (n + 1) (.ref a) (.ref b) (ka.length == kb.length && ka.all fun p => (getG kb p.1).isSome && f p.1)
section
variable {X : Cx} {pins : List (Addr × Obj)} {σ : L2.St} {M : Mh} {S H : Hp} {s : Shared}
theorem ls_addr (r : R X.K M S H) {d : D} {ds : List D} {l : Addr} (h : DV X.K (hid M S H) d (.ref l)) (e : lsOf M d = some ds) : ∃ vs, H l = some (.lst vs) ∧ DVs X.K (hid M S H) ds vs := by
  obtain ⟨a, vs, ea, g1, g2⟩ := ls_sq r h e
  cases ea
  exact ⟨vs, g1, g2⟩
theorem eqD_same (I : Inv X pins σ H s) (r : R X.K M S H) {n : Nat} {d e : D} {b : Bool} (t : EqD M n d e b) : ∀ v, DV X.K (hid M S H) d v → DV X.K (hid M S H) e v → b = true := by
  induction t with
  | sc h =>
    intro v h1 h2
    obtain ⟨_, g2⟩ := eqS_of h1 h2 h
    rw [← g2]
    exact decide_eq_true rfl
  | same => intro v _ _; rfl
  | @tup n ds es f _ ih =>
    intro v h1 h2
    obtain ⟨a, vs, rfl, g1, g2⟩ := dv_tup.mp h1
    obtain ⟨a', vs', ea, g3, g4⟩ := dv_tup.mp h2
    cases ea
    have ev := I.tuple_inj ((hid_le _ _ _).sqT g1) ((hid_le _ _ _).sqT g3)
    subst ev
    have hl : ds.length = es.length := by rw [g2.length, g4.length]
    rw [hl, Nat.min_self, Bool.and_eq_true]
    refine ⟨List.all_eq_true.mpr fun j hj => ?_, beq_self_eq_true _⟩
    have hj := List.mem_range.mp hj
    obtain ⟨v, q1, q2⟩ := g2.get (i := j) (List.getElem?_eq_getElem (by rw [hl]; exact hj))
    obtain ⟨v', q3, q4⟩ := g4.get (i := j) (List.getElem?_eq_getElem hj)
    rw [q1] at q3
    cases q3
    exact ih j _ _ (List.getElem?_eq_getElem (by rw [hl]; exact hj)) (List.getElem?_eq_getElem hj) v q2 q4
  | @lst n d e ds es f h1 h2 h3 h4 _ ih =>
    intro v g1 g2
    obtain ⟨a, vs, rfl, g3, g4⟩ := ls_sq r g1 h1
    obtain ⟨vs', g5, g6⟩ := ls_addr r g2 h2
    rw [g3] at g5
    cases g5
    refine List.all_eq_true.mpr fun j hj => ?_
    have hj := List.mem_range.mp hj
    obtain ⟨v, q1, q2⟩ := g4.get (i := j) (List.getElem?_eq_getElem hj)
    obtain ⟨v', q3, q4⟩ := g6.get (i := j) (List.getElem?_eq_getElem (by rw [← h4]; exact hj))
    rw [q1] at q3
    cases q3
    exact ih j _ _ (List.getElem?_eq_getElem hj) (List.getElem?_eq_getElem (by rw [← h4]; exact hj)) v q2 q4
  | @len n d e ds es h1 h2 h3 =>
    intro v g1 g2
    obtain ⟨a, vs, rfl, g3, g4⟩ := ls_sq r g1 h1
    obtain ⟨vs', g5, g6⟩ := ls_addr r g2 h2
    rw [g3] at g5
    cases g5
    exact absurd (by rw [g4.length, g6.length]) h3
  | @dct n a b ka kb f h1 _ _ _ _ =>
    intro v g1 g2
    have e1 := dv_ref.mp g1
    have e2 := dv_ref.mp g2
    rw [e1] at e2
    injection e2 with e3
    exact absurd e3 h1
theorem val_get {vs : List V} {us : List Value} (r : Vals vs us) {j : Nat} {v : V} (h : vs[j]? = some v) (hj : j < us.toArray.size) : RelV v us.toArray[j] := by
  obtain ⟨u, q1, q2⟩ := r.get h
  have : us.toArray[j] = u := by
    have hj' : j < us.length := by simpa using hj
    rw [List.getElem?_eq_getElem hj'] at q1
    simpa using Option.some.inj q1
  rw [this]
  exact q2
theorem beq_dec {α : Type} [DecidableEq α] (a b : α) : (a == b) = decide (a = b) := rfl
theorem kv_keys {ps : List (Key × V)} {us : List (Key × Value)} (r : KV ps us) : us.map (·.1) = ps.map (·.1) := by
  unfold KV at r
  induction r with
  | nil => rfl
  | cons h _ ih => rw [List.map_cons, List.map_cons, ih, h.1]
theorem eqS_at {K : PySem.W.Frag} {F : Hp} {A : Around} {s : Shared} {d e : D} {b : Bool} {v y : V} {u w : Value} (h : eqS d e = some b) (h1 : DV K F d v) (h2 : DV K F e y) (r1 : RelV v u) (r2 : RelV y w) : SeqAt.EqAt A s u w b := by
  cases d with
  | non =>
    obtain rfl := dv_non.mp h1; obtain rfl : u = Value.none := r1
    cases e with
    | non => obtain rfl := dv_non.mp h2; obtain rfl : w = Value.none := r2; cases h; exact SeqAt.EqAt.same _
    | bl q => obtain rfl := dv_bl.mp h2; obtain rfl : w = Value.bool q := r2; cases h; exact SeqAt.EqAt.none_bool q
    | int q => obtain rfl := dv_int.mp h2; obtain ⟨tq, rfl⟩ : ∃ t, w = Value.int q t := r2; cases h; exact SeqAt.EqAt.none_int q tq
    | str q => obtain rfl := dv_str.mp h2; obtain ⟨tq, rfl⟩ : ∃ t, w = Value.str q t := r2; cases h; exact SeqAt.EqAt.none_str q tq
    | _ => cases h
  | bl p =>
    obtain rfl := dv_bl.mp h1; obtain rfl : u = Value.bool p := r1
    cases e with
    | non => obtain rfl := dv_non.mp h2; obtain rfl : w = Value.none := r2; cases h; exact SeqAt.EqAt.bool_none p
    | bl q => obtain rfl := dv_bl.mp h2; obtain rfl : w = Value.bool q := r2; cases h; have z := SeqAt.EqAt.bool_bool (A := A) (s := s) p q; rw [beq_dec] at z; exact z
    | int q => cases h
    | str q => obtain rfl := dv_str.mp h2; obtain ⟨tq, rfl⟩ : ∃ t, w = Value.str q t := r2; cases h; exact SeqAt.EqAt.bool_str p q tq
    | _ => cases h
  | int p =>
    obtain rfl := dv_int.mp h1; obtain ⟨tp, rfl⟩ : ∃ t, u = Value.int p t := r1
    cases e with
    | non => obtain rfl := dv_non.mp h2; obtain rfl : w = Value.none := r2; cases h; exact SeqAt.EqAt.int_none p tp
    | bl q => cases h
    | int q => obtain rfl := dv_int.mp h2; obtain ⟨tq, rfl⟩ : ∃ t, w = Value.int q t := r2; cases h; have z := SeqAt.EqAt.int_int (A := A) (s := s) p tp q tq; rw [beq_dec] at z; exact z
    | str q => obtain rfl := dv_str.mp h2; obtain ⟨tq, rfl⟩ : ∃ t, w = Value.str q t := r2; cases h; exact SeqAt.EqAt.int_str p tp q tq
    | _ => cases h
  | str p =>
    obtain rfl := dv_str.mp h1; obtain ⟨tp, rfl⟩ : ∃ t, u = Value.str p t := r1
    cases e with
    | non => obtain rfl := dv_non.mp h2; obtain rfl : w = Value.none := r2; cases h; exact SeqAt.EqAt.str_none p tp
    | bl q => obtain rfl := dv_bl.mp h2; obtain rfl : w = Value.bool q := r2; cases h; exact SeqAt.EqAt.str_bool p tp q
    | int q => obtain rfl := dv_int.mp h2; obtain ⟨tq, rfl⟩ : ∃ t, w = Value.int q t := r2; cases h; exact SeqAt.EqAt.str_int p tp q tq
    | str q => obtain rfl := dv_str.mp h2; obtain ⟨tq, rfl⟩ : ∃ t, w = Value.str q t := r2; cases h; have z := SeqAt.EqAt.str_str (A := A) (s := s) p tp q tq; rw [beq_dec] at z; exact z
    | _ => cases h
  | _ => cases h
theorem eqD_tree (I : Inv X pins σ H s) (r : R X.K M S H) {n : Nat} {d e : D} {b : Bool} (t : EqD M n d e b) : ∀ v y u w, DV X.K (hid M S H) d v → DV X.K (hid M S H) e y → RelV v u → RelV y w → PySem.W.EqTree X.prog X.w s n u w b := by
  induction t with
  | @sc n d e b h =>
    intro v y u w h1 h2 r1 r2
    exact .leaf fun A _ => eqS_at h h1 h2 r1 r2
  | @same n a =>
    intro v y u w h1 h2 r1 r2
    rw [dv_ref.mp h1] at r1
    rw [dv_ref.mp h2] at r2
    cases r1
    cases r2
    exact .same
  | @tup n ds es f hh ih =>
    intro v y u w h1 h2 r1 r2
    obtain ⟨a, vs, rfl, g1, g2⟩ := dv_tup.mp h1
    obtain ⟨a', vs', rfl, g3, g4⟩ := dv_tup.mp h2
    obtain rfl : u = Value.ref a := r1
    obtain rfl : w = Value.ref a' := r2
    by_cases ea : a = a'
    · subst ea
      rw [eqD_same I r (.tup f hh) _ h1 h2]
      exact .same
    · obtain ⟨us, ru, tu, _⟩ := I.tuple ((hid_le _ _ _).sqT g1)
      obtain ⟨us', ru', tu', _⟩ := I.tuple ((hid_le _ _ _).sqT g3)
      have l1 : us.toArray.size = ds.length := by rw [List.size_toArray, ← ru.length, ← g2.length]
      have l2 : us'.toArray.size = es.length := by rw [List.size_toArray, ← ru'.length, ← g4.length]
      have z := PySem.W.EqTree.tuples (prog := X.prog) (w := X.w) (n := n) (e := f) ea tu tu' fun j h1 h2 => ?_
      · rw [l1, l2] at z
        exact z
      · obtain ⟨v, q1, q2⟩ := g2.get (i := j) (List.getElem?_eq_getElem (by omega))
        obtain ⟨v', q3, q4⟩ := g4.get (i := j) (List.getElem?_eq_getElem (by omega))
        exact ih j _ _ (List.getElem?_eq_getElem (by omega)) (List.getElem?_eq_getElem (by omega)) v v' _ _ q2 q4 (val_get ru q1 h1) (val_get ru' q3 h2)
  | @lst n d e ds es f k1 k2 k3 k4 hh ih =>
    intro v y u w h1 h2 r1 r2
    obtain ⟨a, vs, rfl, g1, g2⟩ := ls_sq r h1 k1
    obtain ⟨a', vs', rfl, g3, g4⟩ := ls_sq r h2 k2
    obtain rfl : u = Value.ref a := r1
    obtain rfl : w = Value.ref a' := r2
    by_cases ea : a = a'
    · subst ea
      rw [eqD_same I r (.lst f k1 k2 k3 k4 hh) _ h1 h2]
      exact .same
    · obtain ⟨us, ru, tu, _⟩ := I.list (SqL.of g1)
      obtain ⟨us', ru', tu', _⟩ := I.list (SqL.of g3)
      have l1 : us.toArray.size = ds.length := by rw [List.size_toArray, ← ru.length, ← g2.length]
      have l2 : us'.toArray.size = es.length := by rw [List.size_toArray, ← ru'.length, ← g4.length]
      have z := PySem.W.EqTree.lists (prog := X.prog) (w := X.w) (n := n) (e := f) ea tu.isList tu'.isList (by rw [l1, l2, k4]) fun j h1 h2 => ?_
      · rw [l1] at z
        exact z
      · obtain ⟨v, q1, q2⟩ := g2.get (i := j) (List.getElem?_eq_getElem (by omega))
        obtain ⟨v', q3, q4⟩ := g4.get (i := j) (List.getElem?_eq_getElem (by omega))
        exact ih j _ _ (List.getElem?_eq_getElem (by omega)) (List.getElem?_eq_getElem (by omega)) v v' _ _ q2 q4 (val_get ru q1 h1) (val_get ru' q3 h2)
  | @len n d e ds es k1 k2 k3 =>
    intro v y u w h1 h2 r1 r2
    obtain ⟨a, vs, rfl, g1, g2⟩ := ls_sq r h1 k1
    obtain ⟨a', vs', rfl, g3, g4⟩ := ls_sq r h2 k2
    obtain rfl : u = Value.ref a := r1
    obtain rfl : w = Value.ref a' := r2
    by_cases ea : a = a'
    · subst ea
      rw [g1] at g3
      cases g3
      exact absurd (by rw [g2.length, g4.length]) k3
    · obtain ⟨us, ru, tu, _⟩ := I.list (SqL.of g1)
      obtain ⟨us', ru', tu', _⟩ := I.list (SqL.of g3)
      have l1 : us.toArray.size = ds.length := by rw [List.size_toArray, ← ru.length, ← g2.length]
      have l2 : us'.toArray.size = es.length := by rw [List.size_toArray, ← ru'.length, ← g4.length]
      exact .listsLen ea tu.isList tu'.isList (by rw [l1, l2]; exact bne_iff_ne.mpr k3)
  | @dct n a b ka kb f k1 k2 k3 hh ih =>
    intro v y u w h1 h2 r1 r2
    rw [dv_ref.mp h1] at r1
    rw [dv_ref.mp h2] at r2
    cases r1
    cases r2
    obtain ⟨ua, g1, pa, rfl, g2⟩ := r.chg a _ k2
    obtain ⟨ub, g3, pb, rfl, g4⟩ := r.chg b _ k3
    obtain ⟨_, ya, va, ra, da⟩ := (show ObjOk X.prog X.w H s.heap a (.dK pa) from I.hok a _ g1)
    obtain ⟨_, yb, vb, rb, db⟩ := (show ObjOk X.prog X.w H s.heap b (.dK pb) from I.hok b _ g3)
    have z := PySem.W.EqTree.dicts (prog := X.prog) (w := X.w) (knd := mixKind X.prog X.w) (n := n) (e := f) k1 ya yb da db fun k v y hm hv => ?_
    · have e1 : va.length = ka.length := by rw [← ra.length, ← kvd_len g2]
      have e2 : vb.length = kb.length := by rw [← rb.length, ← kvd_len g4]
      have e3 : (va.all fun p => (valueAt vb p.1).isSome && f p.1) = ka.all fun p => (getG kb p.1).isSome && f p.1 := by
        have key : ∀ k : Key, (valueAt vb k).isSome = (getG kb k).isSome := fun k => by
          have rr := rb.val k
          rcases kvd_get k g4 with ⟨q1, q2⟩ | ⟨d, x, q1, q2, _⟩
          · rw [q2] at rr
            cases q : valueAt vb k with
            | none => rw [q1]; rfl
            | some y => rw [q] at rr; exact absurd rr (by intro z; cases z)
          · rw [q2] at rr
            obtain ⟨y, q3, _⟩ := rr.some_of
            rw [q1, q3]
            rfl
        have keys : va.map (·.1) = ka.map (·.1) := by
          rw [kvd_keys g2]
          exact kv_keys ra
        have two : ∀ {α : Type} (l : List (Key × α)), (l.all fun p => (getG kb p.1).isSome && f p.1) = (l.map (·.1)).all fun k => (getG kb k).isSome && f k := fun l => by rw [List.all_map]; rfl
        rw [show (va.all fun p => (valueAt vb p.1).isSome && f p.1) = va.all fun p => (getG kb p.1).isSome && f p.1 from by congr 1; funext p; rw [key], two, two, keys]
      rw [e1, e2, e3] at z
      exact z
    · have fst : ∀ {ks : List (Key × D)} {ps : List (Key × V)} {us : List (Key × Value)}, KVD X.K (hid M S H) ks ps → Paired (fun (p : Key × V) (q : Key × Value) => p.1 = q.1 ∧ RelV p.2 q.2) ps us → (k, v) ∈ us → ∃ x z, (k, x) ∈ ks ∧ DV X.K (hid M S H) x z ∧ RelV z v := by
        intro ks
        induction ks with
        | nil =>
          intro ps us h1 h2 hm
          rw [show ps = [] from h1] at h2
          cases h2
          cases hm
        | cons p r ihk =>
          intro ps us h1 h2 hm
          obtain ⟨z, t, rfl, q2, q3⟩ := h1
          cases h2 with
          | @cons _ q _ qs hq ht =>
            rcases List.mem_cons.mp hm with hm | hm
            · cases hm
              refine ⟨p.2, z, ?_, q2, hq.2⟩
              have : p.1 = k := hq.1
              rw [← this]
              exact List.mem_cons_self
            · obtain ⟨x, z', m1, m2, m3⟩ := ihk q3 ht hm
              exact ⟨x, z', List.mem_cons_of_mem _ m1, m2, m3⟩
      obtain ⟨x, z, m1, m2, m3⟩ := fst g2 ra hm
      have rr := rb.val k
      rw [hv] at rr
      rcases kvd_get k g4 with ⟨q1, q2⟩ | ⟨d, x', q1, q2, q3⟩
      · rw [q2] at rr
        exact absurd rr (by intro z; cases z)
      · rw [q2] at rr
        obtain ⟨y', q4, q5⟩ := rr.some_of
        cases q4
        exact ih k x d m1 q1 z x' v y m2 q3 m3 q5
end
section
variable {X : Cx}
/-- no text, number, bool or None: a list, a tuple, a dict -/
def deepD : D → Bool
  | .tup _ => true | .lst _ => true | .ref _ => true | _ => false
/-- d == e of two lists, two tuples, two dicts that are not the same -/
def dEqM (d e : D) (M : Mh) (k : DK) : Prop := ∃ n b, n ≤ 50 ∧ EqD M (n + 1) d e b ∧ deepD d = true ∧ (∀ a, d = .ref a → e ≠ .ref a ∧ ∀ kvs, M a ≠ some (.dct kvs)) ∧ k (.bl b) M
theorem do_eqM (hu : X.A.units + 64 < cLine) : OpR X (compareOp .Eq) (rL2 X.K dEqM) := by
  intro pins s σ H x y v u Q I rx ry ⟨M, S, d, e, k, r, hd, he, ⟨n, b, hn, t, dd, ns, q⟩, kv⟩
  have fin : ∀ b', b' = b → EP X pins σ Q (.bool b') s := fun b' eb => by
    subst eb
    exact ⟨.bl _, H, I, rfl, kv.now r q (dv_bl.mpr rfl)⟩
  cases t with
  | sc h =>
    cases d with
    | tup _ => cases e <;> cases h
    | lst _ => cases e <;> cases h
    | ref _ => cases e <;> cases h
    | _ => cases dd
  | same => exact absurd rfl (ns _ rfl).1
  | @tup _ ds es f hh =>
    obtain ⟨a, vs, rfl, g1, g2⟩ := dv_tup.mp hd
    obtain ⟨a', vs', rfl, g3, g4⟩ := dv_tup.mp he
    obtain rfl : v = Value.ref a := rx
    obtain rfl : u = Value.ref a' := ry
    obtain ⟨us, ru, tu, _⟩ := I.tuple ((hid_le _ _ _).sqT g1)
    obtain ⟨us', ru', tu', _⟩ := I.tuple ((hid_le _ _ _).sqT g3)
    have l1 : us.toArray.size = ds.length := by rw [List.size_toArray, ← ru.length, ← g2.length]
    have l2 : us'.toArray.size = es.length := by rw [List.size_toArray, ← ru'.length, ← g4.length]
    refine PySem.W.eq_tuplesT (n := n) (e := f) tu tu' (fun j h1 h2 => ?_) (by omega) (fin _ (by rw [l1, l2]))
    obtain ⟨v, q1, q2⟩ := g2.get (i := j) (List.getElem?_eq_getElem (by omega))
    obtain ⟨v', q3, q4⟩ := g4.get (i := j) (List.getElem?_eq_getElem (by omega))
    exact eqD_tree I r (hh j _ _ (List.getElem?_eq_getElem (by omega)) (List.getElem?_eq_getElem (by omega))) v v' _ _ q2 q4 (val_get ru q1 h1) (val_get ru' q3 h2)
  | @lst _ _ _ ds es f k1 k2 k3 k4 hh =>
    obtain ⟨a, vs, rfl, g1, g2⟩ := ls_sq r hd k1
    obtain ⟨a', vs', rfl, g3, g4⟩ := ls_sq r he k2
    obtain rfl : v = Value.ref a := rx
    obtain rfl : u = Value.ref a' := ry
    obtain ⟨us, ru, tu, _⟩ := I.list (SqL.of g1)
    obtain ⟨us', ru', tu', _⟩ := I.list (SqL.of g3)
    have l1 : us.toArray.size = ds.length := by rw [List.size_toArray, ← ru.length, ← g2.length]
    have l2 : us'.toArray.size = es.length := by rw [List.size_toArray, ← ru'.length, ← g4.length]
    refine PySem.W.eq_listsT (n := n) (e := f) tu.isList tu'.isList (by rw [l1, l2, k4]) (fun j h1 h2 => ?_) (by omega) (fin _ (by rw [l1]))
    obtain ⟨v, q1, q2⟩ := g2.get (i := j) (List.getElem?_eq_getElem (by omega))
    obtain ⟨v', q3, q4⟩ := g4.get (i := j) (List.getElem?_eq_getElem (by omega))
    exact eqD_tree I r (hh j _ _ (List.getElem?_eq_getElem (by omega)) (List.getElem?_eq_getElem (by omega))) v v' _ _ q2 q4 (val_get ru q1 h1) (val_get ru' q3 h2)
  | @len _ _ _ ds es k1 k2 k3 =>
    obtain ⟨a, vs, rfl, g1, g2⟩ := ls_sq r hd k1
    obtain ⟨a', vs', rfl, g3, g4⟩ := ls_sq r he k2
    obtain rfl : v = Value.ref a := rx
    obtain rfl : u = Value.ref a' := ry
    obtain ⟨us, ru, tu, _⟩ := I.list (SqL.of g1)
    obtain ⟨us', ru', tu', _⟩ := I.list (SqL.of g3)
    have l1 : us.toArray.size = ds.length := by rw [List.size_toArray, ← ru.length, ← g2.length]
    have l2 : us'.toArray.size = es.length := by rw [List.size_toArray, ← ru'.length, ← g4.length]
    exact SeqAt.RcAt.lists_lengths tu.isList tu'.isList (by rw [l1, l2]; exact bne_iff_ne.mpr k3) (by omega) X.prog X.w _ _ (fin _ rfl)
  | @dct _ a b ka kb f k1 k2 k3 hh =>
    exact absurd k2 ((ns a rfl).2 ka)
end
end DL
set_option maxHeartbeats 4000000
namespace DL
open PySem PySem.Spec PyProof.Rows L2
section
variable {X : Cx} {E : XK} {C : Addr} {f m : Str} {o i e : Expr} {es : List Expr} {mo ma mb me mv : ME} {mA : MA} {p p2 pos pos' apos tpos : Pos} {tg : Expr}
/-- what is not reached -/
def mNeverE : ME := fun _ _ _ _ => False
theorem de_never : PE X e (tI X.K E mNeverE) := ⟨fun pins s σ H Q I ⟨M, S, Γ, k, kx, r, er, h, _⟩ => h.elim⟩
/-! ### a dict that is walked over -/
def mLock (me : ME) : ME := fun Γ M k _ => ∃ a kvs, M a = some (.dct kvs) ∧ ∀ od ps, me Γ (setM M a (.lck od ps kvs)) (fun d M' => M' a = some (.lck od ps kvs) ∧ k d (setM M' a (.dct kvs))) noX
theorem de_lock (he : PE X e (tI X.K E me)) : PE X e (tI X.K E (mLock me)) := by
  refine pe_le (pe_lock he) fun σ H Q ⟨M, S, Γ, k, kx, r, er, ⟨a, kvs, hM, h⟩, kv, kxx⟩ => ?_
  obtain ⟨ps, g1, g2⟩ := r.dct hM
  have hS : (M a).isSome = true := by rw [hM]; rfl
  refine ⟨a, .dK ps, g1, trivial, fun od => ?_⟩
  have e1 : hid (setM M a (.lck od ps kvs)) S (upd H a (.frz od (.dK ps))) = hid M S H := hid_set _ _ _ _ _ _ (.inl hS)
  refine ⟨setM M a (.lck od ps kvs), S, Γ, _, noX, r.put (m := .lck od ps kvs) (.inl hS) ⟨rfl, g2⟩, by rw [e1]; exact er, h od ps, fun d M' ⟨hM', q⟩ H' v r2 e2 d2 => ?_, fun _ _ z => z.elim⟩
  obtain ⟨u, g3, rfl, g4⟩ := r2.chg a _ hM'
  have hS' : (M' a).isSome = true := by rw [hM']; rfl
  refine ⟨g3, kv _ _ q _ _ (r2.put (.inl hS') ⟨ps, rfl, g4⟩) ?_ ?_⟩
  · rw [hid_set _ _ _ _ _ _ (.inl hS')]
    rw [e1] at e2
    exact e2
  · rw [hid_set _ _ _ _ _ _ (.inl hS')]
    exact d2
def keyD' : Key → D
  | .inl i => .int i
  | .inr z => .str z
theorem dv_key {K : PySem.W.Frag} {F : Hp} (k : Key) : DV K F (keyD' k) (kV k) := by
  cases k with
  | inl i => exact dv_int.mpr rfl
  | inr z => exact dv_str.mpr rfl
/-- for k in d, d locked -/
def mKeysL (me : ME) : MI := fun Γ M k kx => me Γ M (fun d M1 => ∃ a od ps kvs, d = .ref a ∧ M1 a = some (.lck od ps kvs) ∧ k (kvs.map fun q => keyD' q.1) (fun M => M a = some (.lck od ps kvs)) M1) kx
theorem walkD_keys {K : PySem.W.Frag} {a : Addr} {od : Obj} {ps : List (Key × V)} {kvs : List (Key × D)} {F : Hp} (hk : kvs.map (·.1) = ps.map (·.1)) : WalkD K (Itk a od ps) (kvs.map fun q => keyD' q.1) (fun M => M a = some (.lck od ps kvs)) F := by
  have at_ : ∀ {M : Mh} {S H : Hp}, R K M S H → M a = some (.lck od ps kvs) → H a = some (.frz od (.dK ps)) := fun r g => by
    obtain ⟨u, h1, rfl, _⟩ := r.chg a _ g
    exact h1
  have hl : kvs.length = ps.length := by have := congrArg List.length hk; rw [List.length_map, List.length_map] at this; exact this
  refine ⟨fun i M S H hi r _ g => ⟨at_ r g, by rw [List.length_map] at hi; omega⟩, fun M S H r _ g => ⟨at_ r g, by rw [List.length_map]; omega⟩, fun i d M S H x H' q r _ g y => ?_⟩
  obtain ⟨rfl, k, v, hkv, rfl⟩ := y
  refine ⟨r, Ex.refl _, ?_⟩
  rw [List.getElem?_map] at q
  cases c : kvs[i]? with
  | none => rw [c] at q; cases q
  | some z =>
    rw [c] at q
    cases q
    have e1 : (kvs.map (·.1))[i]? = some z.1 := by rw [List.getElem?_map, c]; rfl
    rw [hk, List.getElem?_map, hkv] at e1
    have e2 : k = z.1 := Option.some.inj e1
    show DV K _ (keyD' z.1) _
    rw [← e2]
    exact dv_key k
theorem di_keysL (he : PE X e (tI X.K E me)) : PI X tg e (iI X.K E (mKeysL me)) := by
  refine pi_le (pi_keys he) fun σ H Rr ⟨M, S, Γ, k, kx, r, er, h, h1, h5⟩ => ?_
  refine ⟨M, S, Γ, _, kx, r, er, h, fun d M1 ⟨a, od, ps, kvs, ed, hM, q⟩ H1 v r1 e1 d1 => ?_, h5⟩
  subst ed
  obtain ⟨u, g1, rfl, g2⟩ := r1.chg a _ hM
  exact ⟨a, od, dv_ref.mp d1, .inl ⟨ps, g1, h1 _ _ M1 q H1 _ r1 e1 (walkD_keys (kvd_keys g2))⟩⟩
/-- d[e], d locked -/
def dDIxL (d e : D) (M : Mh) (k : DK) : Prop := ∃ a od ps kvs j x, d = .ref a ∧ M a = some (.lck od ps kvs) ∧ keyD e = some j ∧ getG kvs j = some x ∧ k x M
theorem de_dixL (hu : X.A.units + 1 < cLine) (ho : PE X o (tI X.K E ma)) (hi : PE X i (tI X.K E mb)) (hs : NoSl i) : PE X (.Subscript o i pos) (tI X.K E (mOp dDIxL ma mb)) := by
  refine pe_le (pe_dget hu ho hi hs) fun σ H Q h => ?_
  obtain ⟨M, S, Γ, k, kx, r, er, h, kv, kxx⟩ := h
  refine ⟨M, S, Γ, _, kx, r, er, h, fun d M1 q1 H1 v1 r1 e1 d1 => ?_, kxx⟩
  refine ⟨M1, S, Γ, _, kx, r1, er.mono e1, q1, fun y M2 q2 H2 v2 r2 e2 d2 => ?_, kxx.ex e1⟩
  obtain ⟨q, od, ps, kvs, j, x, rfl, g1, g2, g3, g4⟩ := q2
  obtain ⟨u, h1, rfl, h2⟩ := r2.chg q _ g1
  rcases kvd_get j h2 with ⟨c, _⟩ | ⟨x', w, c1, c2, c3⟩
  · rw [g3] at c; cases c
  · rw [g3] at c1
    cases c1
    refine ⟨q, w, dv_ref.mp d1, .inl ⟨ps, j, .inr ⟨od, h1⟩, key_dv d2 g2, c2.symm⟩, kv _ M2 g4 H2 w r2 (e1.trans e2) c3⟩
/-! ### C.f, a constant of the class -/
def mCV (C : Addr) (d : D) (me : ME) : ME := fun Γ M k kx => me Γ M (fun x M1 => x = .ref C ∧ k d M1) kx
theorem de_cval {mc : Value} {v : V} {u : Value} {d : D} (rd : ClX.CRead X.K C mc) (cv : ClX.CVal X.K C mc f v u) (hv : ∀ F, DV X.K F d v) (he : PE X e (tI X.K E me)) (hb : attributeBase e f X.env (eval e X.env) = eval e X.env := by rfl) : PE X (.Attribute e f pos) (tI X.K E (mCV C d me)) := by
  refine pe_le (ClX.pe_cval he hb) fun σ H Q ⟨M, S, Γ, k, kx, r, er, h, kv, kxx⟩ => ?_
  refine ⟨M, S, Γ, _, kx, r, er, h, fun x M1 ⟨ex, q⟩ H1 w r1 e1 d1 => ?_, kxx⟩
  subst ex
  exact ⟨C, mc, v, u, dv_ref.mp d1, rd, cv, kv _ M1 q H1 _ r1 e1 (hv _)⟩
/-! ### xs.clear(), xs.pop() -/
def mClear (mo : ME) : ME := fun Γ M k kx => mo Γ M (fun d M1 => ∃ a ds, d = .ref a ∧ M1 a = some (.lst ds) ∧ k .non (setM M1 a (.lst []))) kx
theorem de_clear (ho : PE X o (tI X.K E mo)) (hbase : attributeBase o "clear" X.env (eval o X.env) = eval o X.env := by rfl) (hline : (apos.endLine == pos.line) = true := by rfl) : PE X (.Call (.Attribute o "clear" apos) [] [] pos) (tI X.K E (mClear mo)) := by
  refine pe_le (pe_bm0 PySem.F.plainAttrs_list PySem.F.slot_list_clear PySem.F.type_list_clear mt_clear ho hbase hline) fun σ H Q ⟨M, S, Γ, k, kx, r, er, h, kv, kxx⟩ => ?_
  refine ⟨M, S, Γ, _, kx, r, er, h, fun d M1 ⟨a, ds, ed, hM, q⟩ H1 v r1 e1 d1 => ?_, kxx⟩
  subst ed
  obtain rfl := dv_ref.mp d1
  obtain ⟨u, g1, vs, rfl, g2⟩ := r1.chg a _ hM
  have hS : (M1 a).isSome = true := by rw [hM]; rfl
  refine ⟨.inl ⟨rfl, _, SqL.of g1⟩, a, vs, rfl, rfl, g1, kv _ _ q _ _ (r1.put (.inl hS) ⟨[], rfl, dvs_nil.mpr rfl⟩) ?_ (dv_non.mpr rfl)⟩
  rw [hid_set _ _ _ _ _ _ (.inl hS)]
  exact e1
def mPop (mo : ME) : ME := fun Γ M k kx => mo Γ M (fun d M1 => ∃ a ds x, d = .ref a ∧ M1 a = some (.lst (ds ++ [x])) ∧ k x (setM M1 a (.lst ds))) kx
theorem de_pop (ho : PE X o (tI X.K E mo)) (hbase : attributeBase o "pop" X.env (eval o X.env) = eval o X.env := by rfl) (hline : (apos.endLine == pos.line) = true := by rfl) : PE X (.Call (.Attribute o "pop" apos) [] [] pos) (tI X.K E (mPop mo)) := by
  refine pe_le (pe_bm0 PySem.F.plainAttrs_list PySem.F.slot_list_pop PySem.F.type_list_pop mt_pop ho hbase hline) fun σ H Q ⟨M, S, Γ, k, kx, r, er, h, kv, kxx⟩ => ?_
  refine ⟨M, S, Γ, _, kx, r, er, h, fun d M1 ⟨a, ds, x, ed, hM, q⟩ H1 v r1 e1 d1 => ?_, kxx⟩
  subst ed
  obtain rfl := dv_ref.mp d1
  obtain ⟨u, g1, vs, rfl, g2⟩ := r1.chg a _ hM
  have hS : (M1 a).isSome = true := by rw [hM]; rfl
  have hl : vs.length = ds.length + 1 := by rw [← g2.length, List.length_append]; rfl
  obtain ⟨w, g3, g4⟩ := g2.get (i := ds.length) (d := x) (by rw [List.getElem?_append_right (Nat.le_refl _), Nat.sub_self]; rfl)
  have e2 : hid (setM M1 a (.lst ds)) S (upd H1 a (.lst vs.dropLast)) = hid M1 S H1 := hid_set _ _ _ _ _ _ (.inl hS)
  refine ⟨.inl ⟨rfl, _, SqL.of g1⟩, a, vs, w, rfl, rfl, g1, by rw [hl, Nat.add_sub_cancel]; exact g3, kv _ _ q _ _ (r1.put (m := .lst ds) (.inl hS) ⟨vs.dropLast, rfl, ?_⟩) ?_ ?_⟩
  · have z := g2.take ds.length
    rw [List.take_left] at z
    rw [List.dropLast_eq_take, hl, Nat.add_sub_cancel]
    exact z
  · rw [e2]; exact e1
  · rw [e2]; exact g4
/-! ### for n, x in enumerate(xs) -/
def enumD (n : Nat) : List D → List D
  | [] => []
  | d :: ds => .tup [.int (n : Int), d] :: enumD (n + 1) ds
theorem enum_len : ∀ (ds : List D) (n : Nat), (enumD n ds).length = ds.length
  | [], _ => rfl
  | d :: ds, n => by show (enumD (n + 1) ds).length + 1 = _; rw [enum_len ds]; rfl
theorem enum_get : ∀ (ds : List D) (n i : Nat) (d : D), (enumD n ds)[i]? = some d → ∃ x, ds[i]? = some x ∧ d = .tup [.int ((n + i : Nat) : Int), x]
  | [], _, _, _, h => by simp [enumD] at h
  | x :: ds, n, 0, d, h => by
    have h : some (D.tup [.int (n : Int), x]) = some d := h
    exact ⟨x, rfl, (Option.some.inj h).symm⟩
  | x :: ds, n, i + 1, d, h => by
    have h : (enumD (n + 1) ds)[i]? = some d := h
    obtain ⟨y, h1, h2⟩ := enum_get ds (n + 1) i d h
    exact ⟨y, h1, by rw [h2, show n + 1 + i = n + (i + 1) by omega]⟩
def mEnum (me : ME) : MI := fun Γ M k kx => me Γ M (fun d M1 => ∃ ds, lsOf M1 d = some ds ∧ k (enumD 0 ds) (fun M => lsOf M d = some ds) M1) kx
theorem walkD_enum {K : PySem.W.Frag} {a : Addr} {d : D} {ds : List D} {F : Hp} (hF : DV K F d (.ref a)) : WalkD K (Ite K a) (enumD 0 ds) (fun M => lsOf M d = some ds) F := by
  have sq : ∀ {M : Mh} {S H : Hp}, R K M S H → Ex F (hid M S H) → lsOf M d = some ds → ∃ vs, SqL K H a vs ∧ DVs K (hid M S H) ds vs := fun r e g => by
    obtain ⟨b, vs, eb, h1, h2⟩ := ls_sq r (DV.mono e _ hF) g
    cases eb
    exact ⟨vs, SqL.of h1, h2⟩
  refine ⟨fun i M S H hi r e g => ?_, fun M S H r e g => ?_, fun i x M S H y H' q r e g z => ?_⟩
  · obtain ⟨vs, h1, h2⟩ := sq r e g
    rw [enum_len, h2.length] at hi
    exact ⟨vs, vs[i], h1, List.getElem?_eq_getElem hi⟩
  · obtain ⟨vs, h1, h2⟩ := sq r e g
    exact ⟨vs, h1, by rw [enum_len, h2.length]; exact Nat.le_refl _⟩
  · obtain ⟨vs, h1, h2⟩ := sq r e g
    obtain ⟨T, w, rfl, hT, rfl, hw⟩ := z
    obtain ⟨x', q1, q2⟩ := enum_get _ _ _ _ q
    subst q2
    obtain ⟨v, g1, g2⟩ := h2.get q1
    have g3 := hw vs h1
    rw [g1] at g3
    cases g3
    rw [Nat.zero_add]
    obtain ⟨n1, n2, n3⟩ := new_tup r hT (DVs.two (dv_int.mpr rfl) g2)
    exact ⟨n1, n2, n3⟩
theorem di_enum {elts : List Expr} {kk : Nat} (hg : Gl X "enumerate") (hm : X.mg "enumerate" = none) (he : PE X e (tI X.K E me)) (hs : starEach [e] X.env = [(false, eval e X.env)] := by rfl) : PI X (.Tuple elts kk tpos) (.Call (.Name "enumerate" p) [e] [] pos) (iI X.K E (mEnum me)) := by
  refine pi_le (pi_enum hg hm (pa_cons he pa_nil hs) hs) fun σ H Rr ⟨M, S, Γ, k, kx, r, er, h, h1, h5⟩ => ?_
  refine ⟨M, S, Γ, _, kx, r, er, h, fun d M1 ⟨ds, hl, q⟩ H1 v r1 e1 d1 => ?_, h5⟩
  obtain ⟨a, vs, rfl, g1, g2⟩ := ls_sq r1 d1 hl
  exact ⟨a, vs, rfl, SqL.of g1, h1 _ _ M1 q H1 _ r1 e1 (walkD_enum d1)⟩
/-! ### len(d), d a dict -/
def cLenD (ds : List D) (M : Mh) (k : DK) : Prop := ∃ a kvs, ds = [.ref a] ∧ M a = some (.dct kvs) ∧ k (.int kvs.length) M
theorem dc_lenD : CallR X (.builtin "len") (rLc X.K cLenD) := CallR.sub call_lenD fun xs H Q ⟨M, S, ds, k, r, hd, ⟨a, kvs, e, hM, q⟩, kv⟩ => by
  subst e
  obtain ⟨v, rfl, hv⟩ := dc_one hd
  obtain ⟨ps, g1, g2⟩ := r.dct hM
  exact ⟨a, ps, by rw [dv_ref.mp hv], g1, by rw [← kvd_len g2]; exact kv.now r q (dv_int.mpr rfl)⟩
/-! ### [..] * n -/
def dRep (d e : D) (M : Mh) (k : DK) : Prop := ∃ ds n, d = .lst ds ∧ e = .int n ∧ 0 ≤ n ∧ n < 1000000 ∧ ds.length * n.toNat ≤ 1000000 ∧ k (.lst (List.replicate n.toNat ds).flatten) M
theorem dvs_rep {K : PySem.W.Frag} {F : Hp} {ds : List D} {vs : List V} (h : DVs K F ds vs) : ∀ n : Nat, DVs K F (List.replicate n ds).flatten (List.replicate n vs).flatten
  | 0 => dvs_nil.mpr rfl
  | n + 1 => by
    rw [List.replicate_succ, List.replicate_succ, List.flatten_cons, List.flatten_cons]
    exact h.append (dvs_rep h n)
theorem do_rep : OpR X (binaryOp .Mult) (rL2 X.K dRep) := OpR.sub op_rep fun x y H Q ⟨M, S, d, e, k, r, hd, he, ⟨ds, n, e1, e2, n0, n1, n2, q⟩, kv⟩ => by
  subst e1 e2
  obtain ⟨a, vs, rfl, g1, g2⟩ := dv_lst.mp hd
  refine ⟨a, n, vs, rfl, dv_int.mp he, hid_le _ _ _ _ _ g1, by omega, by omega, by rw [← g2.length, sizeLine_eq]; omega, fun p hp => ?_⟩
  obtain ⟨h1, h2, h3⟩ := new_lst r hp (dvs_rep g2 n.toNat)
  exact kv _ M q _ _ h1 h2 h3
/-! ### {k: v} -/
def mDisp1 (mk mv : ME) : ME := fun Γ M k kx => ∀ p, M p = none → mk Γ (setM M p (.dct [])) (fun x M1 => mv Γ M1 (fun y M2 => ∃ j, keyD x = some j ∧ M2 p = some (.dct []) ∧ k (.ref p) (setM M2 p (.dct [(j, y)]))) kx) kx
theorem de_disp1 {kx vx : Expr} {mk : ME} (hk : PE X kx (tI X.K E mk)) (hv : PE X vx (tI X.K E mv)) : PE X (.Dict [some kx] [vx] pos) (tI X.K E (mDisp1 mk mv)) := by
  refine pe_le (pe_disp (pps_cons hk hv pps_nil) rfl rfl (by simp) (by show 1 ≤ 15; decide)) fun σ H Q ⟨M, S, Γ, k, kx', r, er, h, kv, kxx⟩ => fun p hp => ?_
  have e0 : hid (setM M p (.dct [])) S (upd H p (.dK [])) = hid M S H := hid_set _ _ _ _ _ _ (.inr hp)
  refine ⟨setM M p (.dct []), S, Γ, _, kx', r.put (m := .dct []) (.inr hp) ⟨[], rfl, rfl⟩, by rw [e0]; exact er, h p (r.freeM hp), fun x M1 q1 H1 v1 r1 e1 d1 => ?_, by rw [e0]; exact kxx⟩
  rw [e0] at e1
  refine ⟨M1, S, Γ, _, kx', r1, er.mono e1, q1, fun y M2 ⟨j, hj, hM, q2⟩ H2 v2 r2 e2 d2 => ?_, kxx.ex e1⟩
  obtain ⟨ps, g1, g2⟩ := r2.dct hM
  rw [show ps = [] from g2] at g1
  have hS : (M2 p).isSome = true := by rw [hM]; rfl
  have e3 : hid (setM M2 p (.dct [(j, y)])) S (upd H2 p (.dK [(j, v2)])) = hid M2 S H2 := hid_set _ _ _ _ _ _ (.inl hS)
  refine ⟨g1, [(j, v2)], ?_, by show 1 ≤ 15; decide, ?_⟩
  · rw [key_dv (d1.mono e2 _) hj]; rfl
  · have z := kv _ _ q2 (upd H2 p (.dK [(j, v2)])) (.ref p) (r2.put (m := .dct [(j, y)]) (.inl hS) ⟨_, rfl, v2, [], rfl, d2, rfl⟩) (by rw [e3]; exact e1.trans e2) (dv_ref.mpr rfl)
    exact z
/-! ### isinstance(x, C), C a class of the program's own -/
structure IsiC (K : PySem.W.Frag) (C : Addr) : Prop where
  ins : C8.InsC K C
  tys : ∀ t ∈ tys, PySem.W.kitOne K (.type t) (.ref C) = some false
def dIsiC (C : Addr) (d : D) (M : Mh) (k : DK) : Prop := (∃ a fs, d = .ref a ∧ M a = some (.ins C fs) ∧ k (.bl true) M) ∨ (tyN M d ∈ DL.tys ∧ k (.bl false) M)
theorem de_isiC {a : Expr} {T : Str} (c : IsiC X.K C) (hg : Gl X "isinstance") (hm : X.mg "isinstance" = none) (ha : PE X a (tI X.K E ma)) (hgT : Gl X T) (hmT : X.mg T = some (.ref C)) (hd : (T == ("__debug__" : Str)) = false := by decide)
    (hs : starEach [a, .Name T p2] X.env = (false, eval a X.env) :: starEach [.Name T p2] X.env := by rfl) (hs2 : starEach [.Name T p2] X.env = [(false, eval (.Name T p2) X.env)] := by rfl) (hpl : (backTo pos (starEach [.Name T p2] X.env)).any (·.1) = false := by rfl) :
    PE X (.Call (.Name "isinstance" p) [a, .Name T p2] [] pos) (tI X.K E (mUn (dIsiC C) ma)) := by
  refine pe_le (pe_callB call_isi hg hm (by decide +kernel) (pa_cons ha (pa_cons (pe_glob hgT hmT (v := .ref C) rfl hd) pa_nil (by exact hs2)) hs) (by decide) (by decide) hs hpl) fun σ H Q ⟨M, S, Γ, k, kx, hr, er, hm, kv, kxx⟩ => ?_
  refine ⟨M, S, Γ, _, kx, hr, er, hm, fun d M1 q1 H1 v1 r1 e1 d1 => ?_, kxx⟩
  rcases q1 with ⟨b, fs, rfl, hM, q⟩ | ⟨ht, q⟩
  · obtain ⟨u, g1, dx, ps, rfl, g2⟩ := r1.chg b _ hM
    exact ⟨v1, .ref C, _, _, true, rfl, .own C, by rw [dv_ref.mp d1]; exact .base (.ins g1 c.ins.cl c.ins.ha c.ins.hn c.ins.htk c.ins.hm), c.ins.me, kv _ M1 q H1 _ r1 e1 (dv_bl.mpr rfl)⟩
  · exact ⟨v1, .ref C, _, _, false, rfl, .own C, ty_of r1 d1 ht, c.tys _ ht, kv _ M1 q H1 _ r1 e1 (dv_bl.mpr rfl)⟩
/-! ### == by an own __eq__ -/
def dOwnEq (C : Addr) (s : MF) (d e : D) (M : Mh) (k : DK) : Prop := ∃ a fs, d = .ref a ∧ M a = some (.ins C fs) ∧ ((∃ b gs, e = .ref b ∧ M b = some (.ins C gs)) ∨ ∃ es, e = .lst es) ∧ s [d, e] M (fun v M1 => ∃ b, v = .bl b ∧ k (.bl b) M1) noX
theorem do_own {n : Nat} {g : Addr} {fd : FuncData} {ps : List Str} {s : MF} (F : FnOk X.prog X.w X.K X.mg X.base CX0 n g fd ps (spI X.K s)) (hs : PySem.W.findIn X.K (.ref C) "__eq__" = some (some (.ref g))) (hf : PySem.W.isFn X.K (.ref g) = true) (hl : PySem.W.subIn X.K (.type "list") (.ref C) = some false) (hb : Binds X.K fd ps []) (hr : Room n X.A) :
    OpR X (compareOp .Eq) (rL2 X.K (dOwnEq C s)) := by
  intro pins sh σ H x y v u Q I rx ry ⟨M, S, d, e, k, r, hd, he, ⟨a, fs, ed, hM, he2, q⟩, kv⟩
  subst ed
  obtain rfl := dv_ref.mp hd
  obtain rfl : v = Value.ref a := rx
  obtain ⟨w, g1, dx, qs, rfl, g2⟩ := r.chg a _ hM
  obtain ⟨mA, JA, _⟩ := ins_get I.hok g1
  obtain ⟨od, JB, _⟩ := JA.look
  obtain ⟨m, hF⟩ := I.fr
  have ty : ∃ tb, PySem.W.Looks (model X.prog X.w) sh.heap (typeOf u) tb ∧ PySem.W.notFirst X.K C tb = true := by
    rcases he2 with ⟨b, gs, rfl, hM2⟩ | ⟨es, rfl⟩
    · obtain rfl := dv_ref.mp he
      obtain rfl : u = Value.ref b := ry
      obtain ⟨w, g3, dx2, qs2, rfl, g4⟩ := r.chg b _ hM2
      obtain ⟨mB, JC, _⟩ := ins_get I.hok g3
      obtain ⟨od2, JD, _⟩ := JC.look
      exact ⟨.ref C, JD.type, by simp [PySem.W.notFirst]⟩
    · obtain ⟨l, vs, rfl, h1, h2⟩ := dv_lst.mp he
      obtain rfl : u = Value.ref l := ry
      obtain ⟨its, _, pl, _⟩ := I.list (SqL.of (hid_le _ _ _ _ _ h1))
      obtain ⟨ob, ho, hc, _⟩ := pl.isList
      refine ⟨.type "list", fun A Q E s kp qq => wpAny_typeOf_ref (kp _ _ ho) (by rw [hc]; exact qq), ?_⟩
      unfold PySem.W.notFirst
      rw [hl]
      rfl
  obtain ⟨tb, hb1, hb2⟩ := ty
  refine PySem.W.cmp_K (op := .Eq) (tb := tb) hr.units0 hF I.ok.mod.kin JB hb1 hb2 hs hf ?_
  have hsp : spI X.K s [.ref a, y] H (fun v H' => (∃ b, v = .bl b ∧ Q (.bl b) H')) (fun _ _ _ => False) := ⟨M, S, [.ref a, e], _, noX, r, DVs.two (dv_ref.mpr rfl) he, q, fun d M' ⟨b, eb, q2⟩ H' v r2 e2 d2 => by
    subst eb
    exact ⟨b, dv_bl.mp d2, kv _ M' q2 H' _ r2 e2 (dv_bl.mpr rfl)⟩, fun _ _ z => z.elim⟩
  have hl2 := F.len _ _ _ _ hsp
  have r2 : Vals [V.ref a, y] [Value.ref a, u] := .cons rfl (.cons ry .nil)
  refine wpAny_call (codeAny_mono (F.run X.A X.stack sh H ⟨[.ref a, u], []⟩ [.ref a, u] [.ref a, y] _ _ hr I.env0 (by
    have := hb sh [.ref a, u] I.kIn (by simpa using hl2)
    simpa using this) r2 hsp) fun rr s' hq => ?_)
  cases rr with
  | error e => exact (show False from hq).elim
  | ok fl =>
    cases fl with
    | ret w =>
      obtain ⟨z, H', I', rz, b, ez, qz⟩ := I.after hq
      subst ez
      obtain rfl : w = Value.bool b := rz
      exact ⟨.bl b, H', I', rfl, qz⟩
    | next => exact False.elim hq
    | brk => exact False.elim hq
    | cont => exact False.elim hq
end
end DL
set_option maxHeartbeats 4000000
namespace DL
open PySem PySem.Spec PyProof.Rows L2
/-- def f(a, .., *v) -/
def sStar (n : Nat) (s : MF) : MF := fun ds M k kx => ∃ ws rest, ds = ws ++ rest ∧ ws.length = n ∧ rest.length ≤ sizeLine ∧ s (ws ++ [.tup rest]) M k kx
theorem dvs_split {K : PySem.W.Frag} {F : Hp} : ∀ {ws rest : List D} {vs : List V}, DVs K F (ws ++ rest) vs → ∃ v1 v2, vs = v1 ++ v2 ∧ DVs K F ws v1 ∧ DVs K F rest v2
  | [], rest, vs, h => ⟨[], vs, rfl, dvs_nil.mpr rfl, h⟩
  | w :: ws, rest, vs, h => by
    obtain ⟨v, r, rfl, h1, h2⟩ := dvs_cons.mp h
    obtain ⟨v1, v2, rfl, g1, g2⟩ := dvs_split h2
    exact ⟨v :: v1, v2, rfl, dvs_cons.mpr ⟨v, v1, rfl, h1, g1⟩, g2⟩
section
variable {P : Program} {w : World} {K : PySem.W.Frag} {mg : Str → Option Value} {base : Heap} {x qual : Str} {params : Arguments} {body : List Stmt} {scope : Scope} {f : Addr} {fd : FuncData}
theorem d_star {N ps : List Str} {pv : Str} {k : Nat} {m : MS} {s : MF} (F : FunD K x qual params body scope [] [] f fd) (S : FnScope N (ps ++ [pv]) scope)
    (hbi : ∀ (kV doc pm : Value) (an : Option Addr) (cdv ct : Value) (us rest : List Value), us.length = ps.length → bindArgs (PySem.W.fnOf x qual params body scope .none kV doc pm an cdv ct) ⟨us ++ rest, []⟩ = (newTuple rest >>= fun t => pure (ps.zip us ++ [(pv, t)])))
    (hb : ∀ (cdv : Value) (A : Around) (outer : List PySem.Env) (sh : Shared) (H : Hp) (E : XK), Room k (A.deeper (envOfC qual scope sh.heap.objs.size f cdv)) → PSs (cxOf CX0 P w K mg base N qual scope f cdv A outer sh H E).nox body (tSt K E0 m))
    (hs : ∀ ds M k kx, s ds M k kx → m { nx := fun _ M' => k .non M', rt := k } (startD N.length ds) M noX) : FnR P w K mg base CX0 (k + 1) f (spI K (sStar ps.length s)) := by
  obtain ⟨oc, od, dV, kV, doc, pm, an, cdv, ct, osl, rfl, lk, hcd, hD, hK⟩ := F.ex
  rcases hD with ⟨_, rfl⟩ | ⟨e, _⟩
  rotate_left
  · exact absurd rfl e
  have Z := StX.fn_star (k := k) (sp := spI K s) lk hcd S (fun _ _ _ _ _ _ _ _ _ _ _ h => h.elim) (hbi kV doc pm an cdv ct) fun A outer sh H vs Q E hr ⟨M, S, ds, k, kx, r, hd, h, kv, kxx⟩ => ⟨_, PSs.nox (hb cdv A outer sh H E hr), M, S, _, _, noX, r, start_ok hd, hs _ _ _ _ h, fun Γ' M' q H' σ' r' e' er' => kv _ M' q H' _ r' e' (dv_non.mpr rfl), kv, fun Γ' M' q => q.elim, fun Γ' M' q => q.elim, fun _ _ q => q.elim⟩
  intro A outer sh H us vs Q E hr e0 rv ⟨M, S, ds, k, kx, r, hd, ⟨ws, rest, e, h1, h2, q⟩, kv, kxx⟩
  subst e
  obtain ⟨v1, v2, rfl, g1, g2⟩ := dvs_split hd
  refine Z A outer sh H us _ Q E hr e0 rv ⟨v1, v2, rfl, by rw [← g1.length]; exact h1, by rw [← g2.length]; exact h2, fun p hp => ?_⟩
  obtain ⟨n1, n2, n3⟩ := new_tup r hp g2
  exact ⟨M, S, ws ++ [.tup rest], k, kx, n1, (DVs.mono n2 _ g1).append (DVs.one n3), q, kv.ex n2, kxx.ex n2⟩
end
/-! facts of a class -/
def clB (K : PySem.W.Frag) (C : Addr) : Bool := PySem.W.plainGet K C Str.empty && (PySem.W.hasDictIn K C && (PySem.W.plainOver K C && decide (PySem.W.findIn K (.ref C) "__setattr__" = some (some (.builtin "object.__setattr__")))))
theorem clB_ok {K : PySem.W.Frag} {C : Addr} (h : clB K C = true) : Cls K C := by
  obtain ⟨h1, h⟩ := He.ba h
  obtain ⟨h2, h⟩ := He.ba h
  obtain ⟨h3, h4⟩ := He.ba h
  exact ⟨h1, h2, h3, of_decide_eq_true h4⟩
def noB (K : PySem.W.Frag) (C : Addr) (ns : List Str) : Bool := ns.all fun n => decide (PySem.W.findIn K (.ref C) n = some none)
theorem noB_ok {K : PySem.W.Frag} {C : Addr} {ns : List Str} (h : noB K C ns = true) : ∀ n ∈ ns, NoAttr K C n := fun n hn => show PySem.W.findIn K (.ref C) n = some none from of_decide_eq_true (List.all_eq_true.mp h n hn)
def meB (K : PySem.W.Frag) (x : Str) (ms : List Str) : Bool := ms.all fun m => decide (PySem.W.findIn K (.ref (He.ga K x)) m = some (some (.ref (He.fAd K (x, some m))))) && (PySem.W.isFn K (.ref (He.fAd K (x, some m))) && PySem.W.keepIn K (.ref (He.fAd K (x, some m))))
theorem meB_ok {K : PySem.W.Frag} {x : Str} {ms : List Str} (h : meB K x ms = true) : ∀ m ∈ ms, Meth K (He.ga K x) m (He.fAd K (x, some m)) := fun m hm => by
  obtain ⟨h1, h2⟩ := He.ba (List.all_eq_true.mp h m hm)
  obtain ⟨h3, h4⟩ := He.ba h2
  exact ⟨of_decide_eq_true h1, h3, h4⟩
def mkB (K : PySem.W.Frag) (x : Str) : Bool := PySem.W.makesIn K (He.ga K x) && (decide (PySem.W.findIn K (.ref (He.ga K x)) "__init__" = some (some (.ref (He.fAd K (x, some "__init__"))))) && (PySem.W.isFn K (.ref (He.fAd K (x, some "__init__"))) && PySem.W.keepIn K (.ref (He.ga K x))))
theorem mkB_ok {K : PySem.W.Frag} {x : Str} (h : mkB K x = true) : Mk K (He.ga K x) (He.fAd K (x, some "__init__")) := by
  obtain ⟨h1, h⟩ := He.ba h
  obtain ⟨h2, h⟩ := He.ba h
  obtain ⟨h3, h4⟩ := He.ba h
  exact ⟨h1, of_decide_eq_true h2, h3, h4⟩
def isB (K : PySem.W.Frag) (C : Addr) : Bool := clB K C && (decide (PySem.W.findIn K (.ref C) "__class__" = some (some (.builtin "object.__class__"))) && (decide (PySem.W.specialIn K (.builtin "object.__class__") "__get__" = some (some (.builtin "getset_descriptor.__get__"))) && (decide (PySem.W.takesIn K (.builtin "object.__class__") = some true) && (decide (PySem.W.mroIn K C (.type "object") = some true) && (decide (PySem.W.kitOne K (.ref C) (.ref C) = some true) && tys.all fun t => decide (PySem.W.kitOne K (.type t) (.ref C) = some false))))))
theorem isB_ok {K : PySem.W.Frag} {C : Addr} (h : isB K C = true) : IsiC K C := by
  obtain ⟨h1, h⟩ := He.ba h
  obtain ⟨h2, h⟩ := He.ba h
  obtain ⟨h3, h⟩ := He.ba h
  obtain ⟨h4, h⟩ := He.ba h
  obtain ⟨h5, h⟩ := He.ba h
  obtain ⟨h6, h7⟩ := He.ba h
  exact ⟨⟨clB_ok h1, of_decide_eq_true h2, of_decide_eq_true h3, of_decide_eq_true h4, of_decide_eq_true h5, of_decide_eq_true h6⟩, fun t ht => of_decide_eq_true (List.all_eq_true.mp h7 t ht)⟩
/-- C.f is the number i -/
def cvB (K : PySem.W.Frag) (C : Addr) (f : Str) (i : Int) : Bool := PySem.W.readsIn K C (.type "type") && (decide (PySem.W.specialIn K (.ref C) "__getattribute__" = some (some (.builtin "type.__getattribute__"))) && (match PySem.W.findCls K (.ref C) (.type "type") f with
  | some (.val (.int j _)) => decide (j = i)
  | _ => false))
theorem cvB_ok {K : PySem.W.Frag} {C : Addr} {f : Str} {i : Int} (h : cvB K C f i = true) : ClX.CRead K C (.type "type") ∧ ∃ u, ClX.CVal K C (.type "type") f (.int i) u := by
  obtain ⟨h1, h⟩ := He.ba h
  obtain ⟨h2, h3⟩ := He.ba h
  refine ⟨⟨h1, of_decide_eq_true h2⟩, ?_⟩
  cases q : PySem.W.findCls K (.ref C) (.type "type") f with
  | none => rw [q] at h3; cases h3
  | some z =>
    rw [q] at h3
    cases z with
    | val u =>
      cases u with
      | int j t =>
        have e : j = i := of_decide_eq_true h3
        subst e
        exact ⟨_, q, t, rfl⟩
      | _ => cases h3
    | _ => cases h3
end DL
/-! the bodies of the helpers that all laws share, as readings (printed by gen.py) -/
namespace CM
open PySem L2 DL
def b_is_name : MS := (mSeq (mIfS (mOr (mNot (mTest (mUn (dIsi "str") (mVar 0)))) (mNot (mTest (mChain dLe dLe (mC (.int 1)) (mCB cLen (mCons (mVar 0) mNil)) (mC (.int 6)))))) (mRet (mC (.bl false))) mNext) (mRet (mCB cAll (mCons (mLc (.nm 1) (mSeqI (mVar 0)) mYes (mOp dIn (mVar 1) (mC (.str "abcdefghijklmnopqrstuvwxyz"))) [1]) mNil))))
def b_is_number : MS := (mRet (mAndV (mUn (dIsi "int") (mVar 0)) (mAndV (mNotV (mUn (dIsi "bool") (mVar 0))) (mChain dLe dLe (mVar 1) (mVar 0) (mVar 2)))))
def b__law_box : MS := (mSeq (mAsg (mC (.int 10010)) (.nm 1)) (mSeq (mFor (.nm 2) (mSeqI (mSl dSlice (mVar 0) mNoPart (mPart (mC (.int 63))))) (mAsg (mOp dMod (mCB cInt (mCons (mOp dAdd (mOp dAdd (mOp dMul (mVar 1) (mC (.int 50021))) (mOp dMul (mOp dMod (mCB cInt (mCons (mVar 2) mNil)) (mC (.int 1000003))) (mC (.int 769)))) (mC (.int 17))) mNil)) (mC (.int 2147483587))) (.nm 1))) (mRet (mLstM (mCons (mCB cList (mCons (mSl dSlice (mVar 0) mNoPart (mPart (mC (.int 63)))) mNil)) (mCons (mC (.int 0)) (mCons (mC (.int 0)) (mCons (mVar 1) (mCons (mC (.int 0)) mNil)))))))))
def b__law_pull : MS := (mSeq (mSetIx (mOp dAdd (mOp dIx (mVar 0) (mC (.int 4))) (mC (.int 1))) (mVar 0) (mC (.int 4))) (mSeq (mIfS (mAnd (mTest (mOp dEq (mOp dIx (mVar 0) (mC (.int 2))) (mC (.int 0)))) (mTest (mOp dLt (mOp dIx (mVar 0) (mC (.int 1))) (mCB cLen (mCons (mOp dIx (mVar 0) (mC (.int 0))) mNil))))) (mSeq (mAsg (mOp dIx (mOp dIx (mVar 0) (mC (.int 0))) (mOp dIx (mVar 0) (mC (.int 1)))) (.nm 2)) (mSeq (mSetIx (mOp dAdd (mOp dIx (mVar 0) (mC (.int 1))) (mC (.int 1))) (mVar 0) (mC (.int 1))) (mIfS (mTest (mOp dGe (mCB cAbs (mCons (mVar 2) mNil)) (mOp dPow (mC (.int 10)) (mC (.int 18))))) (mSetIx (mCB cAbs (mCons (mVar 2) mNil)) (mVar 0) (mC (.int 2))) (mSetIx (mOp dMod (mCB cInt (mCons (mOp dAdd (mOp dAdd (mOp dMul (mOp dIx (mVar 0) (mC (.int 3))) (mC (.int 41389))) (mOp dMul (mOp dMod (mCB cInt (mCons (mVar 2) mNil)) (mC (.int 1000003))) (mC (.int 733)))) (mC (.int 31))) mNil)) (mC (.int 2147483629))) (mVar 0) (mC (.int 3)))))) mNext) (mSeq (mIfS (mTest (mOp dGt (mOp dIx (mVar 0) (mC (.int 2))) (mC (.int 0)))) (mSeq (mAsg (mOp dMod (mCB cInt (mCons (mOp dIx (mVar 0) (mC (.int 2))) mNil)) (mVar 1)) (.nm 3)) (mSeq (mSetIx (mOp dDiv (mOp dIx (mVar 0) (mC (.int 2))) (mVar 1)) (mVar 0) (mC (.int 2))) (mRet (mVar 3)))) mNext) (mSeq (mAsg (mOp dMod (mCB cInt (mCons (mOp dAdd (mOp dMul (mOp dIx (mVar 0) (mC (.int 3))) (mOp dIx (mVar 0) (mC (.int 3)))) (mOp dMul (mOp dIx (mVar 0) (mC (.int 4))) (mC (.int 8317)))) mNil)) (mC (.int 2147483549))) (.nm 4)) (mSeq (mSetIx (mOp dMod (mCB cInt (mCons (mOp dAdd (mOp dAdd (mOp dMul (mVar 4) (mC (.int 15973))) (mOp dMul (mOp dIx (mVar 0) (mC (.int 3))) (mC (.int 60107)))) (mC (.int 54013))) mNil)) (mC (.int 2147483629))) (mVar 0) (mC (.int 3))) (mRet (mOp dMod (mCB cInt (mCons (mOp dDiv (mOp dIx (mVar 0) (mC (.int 3))) (mC (.int 64))) mNil)) (mVar 1))))))))
def b__law_of (s__law_pull : MF) : MS := (mRet (mOp dIx (mVar 1) (mCall s__law_pull (mCons (mVar 0) (mCons (mCB cLen (mCons (mVar 1) mNil)) mNil)))))
def b__law_names (s__law_of : MF) (s__law_pull : MF) : MS := (mSeq (mAsg (mC (.str "abcdefghijklmnopqrstuvwxyz")) (.nm 2)) (mSeq (mAsg (mJoin (mC (.str "")) (mLc (.nm 4) (mRange1 (mCall s__law_of (mCons (mVar 0) (mCons (mLst (mCons (mC (.int 0)) (mCons (mC (.int 1)) (mCons (mC (.int 2)) (mCons (mC (.int 5)) mNil))))) mNil)))) mYes (mCall s__law_of (mCons (mVar 0) (mCons (mVar 2) mNil))) [4])) (.nm 3)) (mSeq (mAsg (mTup (mCons (mCall s__law_pull (mCons (mVar 0) (mCons (mOp dAdd (mCB cLen (mCons (mVar 3) mNil)) (mC (.int 1))) mNil))) (mCons (mCall s__law_pull (mCons (mVar 0) (mCons (mC (.int 26)) mNil))) mNil))) (.tp [(.nm 5), (.nm 6)])) (mSeq (mAsg (mLc (.nm 4) (mRange1 (mOp dAdd (mVar 1) (mC (.int 2)))) mYes (mOp dAdd (mOp dAdd (mSl dSlice (mVar 3) mNoPart (mPart (mVar 5))) (mOp dIx (mVar 2) (mOp dMod (mCB cInt (mCons (mOp dAdd (mVar 6) (mOp dMul (mC (.int 7)) (mVar 4))) mNil)) (mC (.int 26))))) (mSl dSlice (mVar 3) (mPart (mVar 5)) mNoPart)) [4]) (.nm 7)) (mRet (mSl dSlice (mLc (.nm 8) (mSeqI (mVar 7)) (mTest (mOp dNotIn (mVar 8) (mLst (mCons (mC (.str "own")) (mCons (mC (.str "name")) (mCons (mC (.str "tick")) (mCons (mC (.str "worth")) mNil))))))) (mVar 8) [8]) mNoPart (mPart (mVar 1))))))))
def b__law_same (s__law_same : MF) : MS := (mSeq (mIfS (mOr (mTest (mOp dIs (mVar 1) (mC .non))) (mTest (mOp dIs (mVar 0) (mC .non)))) (mRet (mAndV (mOp dIs (mVar 1) (mC .non)) (mOp dIs (mVar 0) (mC .non)))) mNext) (mSeq (mIfS (mTest (mUn (dIsi2 "list" "tuple") (mVar 1))) (mSeq (mIfS (mOr (mTest (mOp dNe (mUn (dIsi "list") (mVar 0)) (mUn (dIsi "list") (mVar 1)))) (mTest (mOp dNe (mUn (dIsi "tuple") (mVar 0)) (mUn (dIsi "tuple") (mVar 1))))) (mRet (mC (.bl false))) mNext) (mRet (mAndV (mOp dEq (mCB cLen (mCons (mVar 0) mNil)) (mCB cLen (mCons (mVar 1) mNil))) (mCB cAll (mCons (mLc (.tp [(.nm 2), (.nm 3)]) (mZip (mVar 0) (mVar 1)) mYes (mCall s__law_same (mCons (mVar 2) (mCons (mVar 3) mNil))) [2, 3]) mNil))))) mNext) (mSeq (mIfS (mOr (mTest (mUn (dIsi "bool") (mVar 1))) (mTest (mUn (dIsi "bool") (mVar 0)))) (mRet (mAndV (mUn (dIsi "bool") (mVar 1)) (mAndV (mUn (dIsi "bool") (mVar 0)) (mOp dEq (mVar 0) (mVar 1))))) mNext) (mSeq (mIfS (mTest (mUn (dIsi "int") (mVar 1))) (mRet (mAndV (mUn (dIsi "int") (mVar 0)) (mOp dEq (mVar 0) (mVar 1)))) mNext) (mRet (mAndV (mUn (dIsi "str") (mVar 0)) (mAndV (mUn (dIsi "str") (mVar 1)) (mOp dEq (mVar 0) (mVar 1)))))))))
def b__law_odd (s__law_of : MF) : MS := (mRet (mCall s__law_of (mCons (mVar 0) (mCons (mOp dAdd (mLst (mCons (mC .non) (mCons (mC (.bl true)) (mCons (mC (.bl false)) (mCons (mC (.str "")) (mCons (mC (.str "A")) (mCons (mC (.str "a1")) (mCons (mC (.str "sevenst")) (mCons (mUn dNeg (mC (.int 1))) (mCons (mC (.int 7)) (mCons (mTup (mCons (mC (.int 1)) (mCons (mC (.str "a")) mNil))) (mCons (mLst (mCons (mC (.int 1)) mNil)) (mCons (mTup mNil) (mCons (mOp dPow (mC (.int 10)) (mC (.int 14))) mNil)))))))))))))) (mVar 1)) mNil))))
end CM
namespace CM
open PySem L2 DL
local macro_rules | `(tactic| walk_at "dl") => `(tactic| simp only [mSeq, mIfS, mOr, mAnd, mNot, mTest, mUn, mVar, mC, mOp, mCB, mCons, mNil, mChain, mRet, mRetN, mNext, mAsg, mPar, mTup, mLst, mLstM, mCall, mSl, mPart, mNoPart, mIf, mAndV, mOrV, mNotV, mFor, mLc, mSeqI, mRange1, mZip, mJoin, mSplit, mDrop, mSetIx, mCallN,
    dIsi, dIsi2, dI2, cLen, cInt, cAbs, cMin, cAll, cAny, dIx, dNeg, startD, bindT, bindTs, wipeD, sqOf, lsOf, tyN,
    List.map_cons, List.map_nil, List.cons_append, List.nil_append, List.length_cons, List.length_nil, List.getElem?_cons_zero, List.getElem?_cons_succ, List.set_cons_zero, List.set_cons_succ, List.replicate_succ, List.replicate_zero, Nat.zero_add, Nat.reduceAdd, Nat.reduceSub,
    Option.some.injEq, exists_eq_left', exists_eq_left, exists_and_left, D.bl.injEq, D.int.injEq, D.str.injEq, D.lst.injEq, D.tup.injEq, List.cons.injEq, and_true, true_and, if_true, if_false, Bool.not_true, Bool.not_false, Bool.false_eq_true, reduceCtorEq, false_and, exists_false, isiB, tys, List.mem_cons, String.reduceEq, decide_true, decide_false, Bool.or_false, Bool.false_or, Bool.and_false, Bool.false_and, Bool.or_true, Bool.true_or, Bool.and_true, Bool.true_and, true_or, or_true, false_or, or_false])
/-! ### comprehensions over data -/
section
variable {t : Tg} {G : Mh → Prop} {te : ME} {tt : MT} {Γ : DL.Env} {k : List D → Mh → Prop} {kx : XKd} {M : Mh}
theorem lc_wp (P : D → D → Prop) (hG : G M) : ∀ {ds acc : List D}, (∀ d ∈ ds, ∃ Γ1, bindT t d Γ = some Γ1 ∧ ∀ k' : DK, (∀ y, P d y → k' y M) → te Γ1 M k' kx) → (∀ ys : List D, ys.length = ds.length → (∀ (i : Nat) (d y : D), ds[i]? = some d → ys[i]? = some y → P d y) → k (acc ++ ys) M) → loopLc t G mYes te Γ k kx acc ds M
  | [], acc, _, hk => ⟨hG, by simpa using hk [] rfl (fun i d y h => by simp at h)⟩
  | d :: ds, acc, h, hk => by
    obtain ⟨Γ1, e1, h1⟩ := h d List.mem_cons_self
    refine ⟨hG, Γ1, e1, h1 _ fun y hy => ?_⟩
    refine lc_wp P hG (fun d' hd => h d' (List.mem_cons_of_mem _ hd)) fun ys hl hp => ?_
    have := hk (y :: ys) (by simp [hl]) fun i d' y' q1 q2 => by
      cases i with
      | zero =>
        simp only [List.getElem?_cons_zero, Option.some.injEq] at q1 q2
        subst q1 q2
        exact hy
      | succ i => exact hp i d' y' (by simpa using q1) (by simpa using q2)
    simpa using this
theorem lc_map (f : D → D) (hG : G M) : ∀ {ds acc : List D}, (∀ d ∈ ds, ∃ Γ1, bindT t d Γ = some Γ1 ∧ ∀ k' : DK, k' (f d) M → te Γ1 M k' kx) → k (acc ++ ds.map f) M → loopLc t G mYes te Γ k kx acc ds M
  | [], acc, _, hk => ⟨hG, by simpa using hk⟩
  | d :: ds, acc, h, hk => by
    obtain ⟨Γ1, e1, h1⟩ := h d List.mem_cons_self
    exact ⟨hG, Γ1, e1, h1 _ (lc_map f hG (fun d' hd => h d' (List.mem_cons_of_mem _ hd)) (by simpa using hk))⟩
theorem lc_filter (p : D → Bool) (f : D → D) (hG : G M) : ∀ {ds acc : List D}, (∀ d ∈ ds, ∃ Γ1, bindT t d Γ = some Γ1 ∧ (∀ k' : Bool → Mh → Prop, k' (p d) M → tt Γ1 M k' kx) ∧ ∀ k' : DK, k' (f d) M → te Γ1 M k' kx) → k (acc ++ (ds.filter p).map f) M → loopLc t G tt te Γ k kx acc ds M
  | [], acc, _, hk => ⟨hG, by simpa using hk⟩
  | d :: ds, acc, h, hk => by
    obtain ⟨Γ1, e1, h1, h2⟩ := h d List.mem_cons_self
    refine ⟨hG, Γ1, e1, h1 _ ?_⟩
    cases q : p d with
    | true =>
      rw [if_pos rfl]
      refine h2 _ (lc_filter p f hG (fun d' hd => h d' (List.mem_cons_of_mem _ hd)) ?_)
      rw [List.filter_cons_of_pos q] at hk
      simpa using hk
    | false =>
      rw [if_neg (by decide)]
      refine lc_filter p f hG (fun d' hd => h d' (List.mem_cons_of_mem _ hd)) ?_
      rw [List.filter_cons_of_neg (by rw [q]; decide)] at hk
      simpa using hk
end
theorem bls_map {α : Type} (g : α → Bool) : ∀ (xs : List α), blsOf (xs.map fun x => D.bl (g x)) = some (xs.map g)
  | [] => rfl
  | x :: xs => by
    show (blsOf (xs.map fun x => D.bl (g x))).map (g x :: ·) = _
    rw [bls_map g xs]
    rfl
theorem sz_le {n : Nat} (h : n ≤ 1000000) : n ≤ sizeLine := Nat.le_trans h (by decide)
/-! ### names -/
def letters : Str := "abcdefghijklmnopqrstuvwxyz"
def isNameS (z : Str) : Bool := decide (1 ≤ z.length) && decide (z.length ≤ 6) && z.cps.toList.all fun c => decide (c ∈ letters.cps.toList)
def isName : D → Bool
  | .str z => isNameS z
  | _ => false
theorem sign_in {M : Mh} {k : DK} {c : Nat} {z : Str} (h : k (.bl (decide (c ∈ z.cps.toList))) M) : dIn (.str ⟨#[c]⟩) (.str z) M k := ⟨c, rfl, h⟩
def sIsName : MF := fun ds M k _ => ∃ d, ds = [d] ∧ tyN M d ∈ tys ∧ (∀ z, d = .str z → z.length ≤ 1000000) ∧ k (.bl (isName d)) M
/-- all letters of a text lie in another -/
theorem lc_signs {i : Nat} {z w : Str} {Γ : DL.Env} {M : Mh} {kx : XKd} {k : List D → Mh → Prop} (hi : i < Γ.length) (h : k (z.cps.toList.map fun c => .bl (decide (c ∈ w.cps.toList))) M) :
    loopLc (.nm i) anyG mYes (mOp dIn (mVar i) (mC (.str w))) Γ k kx [] (signs z) M := by
  refine lc_map (fun d => match d with | .str s => .bl (decide (s.cps.toList.headD 0 ∈ w.cps.toList)) | _ => .non) trivial (fun d hd => ?_) ?_
  · unfold signs at hd
    obtain ⟨c, _, rfl⟩ := List.mem_map.mp hd
    refine ⟨_, rfl, fun k' hk => ⟨_, List.getElem?_set_self hi, ?_⟩⟩
    exact sign_in (by simpa using hk)
  · unfold signs
    rw [List.map_map, List.nil_append]
    exact h
theorem is_name_ok (ds : List D) (M : Mh) (k : DK) (kx : XKd) (h : sIsName ds M k kx) : b_is_name { nx := fun _ M' => k .non M', rt := k } (startD 2 ds) M noX := by
  obtain ⟨d, rfl, ht, hz, h⟩ := h
  have other : isName d = false → isiB (tyN M d) "str" = false → b_is_name { nx := fun _ M' => k .non M', rt := k } (startD 2 [d]) M noX := fun e1 e2 => by
    rw [e1] at h
    refine ⟨d, rfl, ht, _, rfl, ?_⟩
    rw [e2]
    exact h
  cases d with
  | str z =>
    have hz := hz z rfl
    unfold b_is_name
    walk_at "dl"
    refine ⟨sz_le hz, ?_⟩
    have e : isName (.str z) = (decide ((1 : Int) ≤ z.length) && decide ((z.length : Int) ≤ 6) && z.cps.toList.all fun c => decide (c ∈ letters.cps.toList)) := by
      show (decide (1 ≤ z.length) && decide (z.length ≤ 6) && _) = _
      congr 2
      · exact decide_eq_decide.mpr (by omega)
      · exact decide_eq_decide.mpr (by omega)
    rw [e] at h
    by_cases h1 : (1 : Int) ≤ z.length
    · rw [decide_eq_true h1] at h ⊢
      by_cases h2 : (z.length : Int) ≤ 6
      · rw [decide_eq_true h2] at h ⊢
        have hl : (signs z).length = z.length := by unfold signs; simp; rfl
        refine ⟨by rw [hl]; exact sz_le hz, lc_signs (by show 1 < 2; decide) ⟨_, bls_map _ _, ?_⟩⟩
        rw [List.all_map]
        exact h
      · rw [decide_eq_false h2] at h ⊢
        exact h
    · rw [decide_eq_false h1] at h ⊢
      exact h
  | non => exact other rfl rfl
  | bl _ => exact other rfl rfl
  | int _ => exact other rfl rfl
  | tup _ => exact other rfl rfl
  | lst _ => exact other rfl rfl
  | ty _ => exact other rfl rfl
  | scr _ => exact other rfl rfl
  | exc _ _ _ _ => exact other rfl rfl
  | ref a =>
    refine other rfl ?_
    show isiB (tyM (M a)) "str" = false
    unfold tyM
    split <;> rfl
/-! ### numbers -/
def isNum (a b : Int) : D → Bool
  | .int i => decide (a ≤ i) && decide (i ≤ b)
  | _ => false
def sIsNumber : MF := fun ds M k _ => ∃ d a b, ds = [d, .int a, .int b] ∧ tyN M d ∈ tys ∧ k (.bl (isNum a b d)) M
theorem is_number_ok (ds : List D) (M : Mh) (k : DK) (kx : XKd) (h : sIsNumber ds M k kx) : b_is_number { nx := fun _ M' => k .non M', rt := k } (startD 3 ds) M noX := by
  obtain ⟨d, a, b, rfl, ht, h⟩ := h
  unfold b_is_number
  have other : isNum a b d = false → isiB (tyN M d) "int" = false → (mRet (mAndV (mUn (dIsi "int") (mVar 0)) (mAndV (mNotV (mUn (dIsi "bool") (mVar 0))) (mChain dLe dLe (mVar 1) (mVar 0) (mVar 2))))) { nx := fun _ M' => k .non M', rt := k } (startD 3 [d, .int a, .int b]) M noX := fun e1 e2 => by
    rw [e1] at h
    refine ⟨d, rfl, ht, _, rfl, ?_⟩
    rw [e2]
    exact h
  cases d with
  | int i =>
    walk_at "dl"
    by_cases h1 : a ≤ i
    · simp only [isNum, decide_eq_true h1, Bool.true_and] at h
      rw [decide_eq_true h1]
      exact h
    · simp only [isNum, decide_eq_false h1, Bool.false_and] at h
      rw [decide_eq_false h1]
      exact h
  | bl c =>
    walk_at "dl"
    exact h
  | non => exact other rfl rfl
  | str _ => exact other rfl rfl
  | tup _ => exact other rfl rfl
  | lst _ => exact other rfl rfl
  | ty _ => exact other rfl rfl
  | scr _ => exact other rfl rfl
  | exc _ _ _ _ => exact other rfl rfl
  | ref a =>
    refine other rfl ?_
    show isiB (tyM (M a)) "int" = false
    unfold tyM
    split <;> rfl
/-! ### the box -/
theorem ix_box {M : Mh} {b : Addr} {ds : List D} {x : D} {i j : Nat} {Γ : DL.Env} {k : DK} {kx : XKd} (hΓ : Γ[i]? = some (some (.ref b))) (hm : M b = some (.lst ds)) (hx : ds[j]? = some x) (h : k x M) : mOp dIx (mVar i) (mC (.int j)) Γ M k kx :=
  ⟨_, hΓ, j, ds, x, rfl, by show mls (M b) = _; rw [hm]; rfl, atI_nat hx, h⟩
theorem set_box {M : Mh} {b : Addr} {ds : List D} {x : D} {i j : Nat} {Γ : DL.Env} {De : DEnds} {kx : XKd} {me : ME} (hΓ : Γ[i]? = some (some (.ref b))) (hm : M b = some (.lst ds)) (hj : j < ds.length) (he : ∀ k : DK, k x M → me Γ M k kx) (h : De.nx Γ (setM M b (.lst (ds.set j x)))) : mSetIx me (mVar i) (mC (.int j)) De Γ M kx :=
  he _ ⟨_, hΓ, b, ds, j, j, rfl, hm, rfl, by unfold ixN; rw [if_pos (Int.natCast_nonneg _), if_pos (by simpa using hj)]; simp, h⟩
theorem at_of' {xs : List D} {z : Int} {j : Nat} {v : D} (e : z = (j : Int)) (h : xs[j]? = some v) : atI xs z = some v := by
  rw [e]
  exact atI_nat h
theorem pull_body (b : Addr) (n : Int) (ds : List D) (M : Mh) (k : DK) (hb : BoxD ds) (h1 : 0 < n) (h2 : n < 1073741824) (hm : M b = some (.lst ds)) (hk : ∀ r ds', 0 ≤ r → r < n → BoxD ds' → k (.int r) (setM M b (.lst ds'))) :
    b__law_pull { nx := fun _ M' => k .non M', rt := k } (startD 5 [.ref b, .int n]) M noX := by
  obtain ⟨ns, i, big, mix, cnt, rfl, g1, g2, g3, g4⟩ := hb
  unfold b__law_pull
  refine set_box (x := .int (cnt + 1)) (j := 4) rfl hm (by show 4 < 5; decide) (fun k' h' => ix_box (j := 4) rfl hm rfl h') ?_
  -- the last part: the box as it stands, any big that is not negative
  have last : ∀ (M1 : Mh) (Γ : DL.Env) (i big mix : Int), Γ.length = 5 → Γ[0]? = some (some (.ref b)) → Γ[1]? = some (some (.int n)) → M1 = setM M b (.lst [.lst (ns.map D.int), .int i, .int big, .int mix, .int (cnt + 1)]) → 0 ≤ i → 0 ≤ big → 0 ≤ mix → mix < 2147483648 →
      (mSeq (mIfS (mTest (mOp dGt (mOp dIx (mVar 0) (mC (.int 2))) (mC (.int 0)))) (mSeq (mAsg (mOp dMod (mCB cInt (mCons (mOp dIx (mVar 0) (mC (.int 2))) mNil)) (mVar 1)) (.nm 3)) (mSeq (mSetIx (mOp dDiv (mOp dIx (mVar 0) (mC (.int 2))) (mVar 1)) (mVar 0) (mC (.int 2))) (mRet (mVar 3)))) mNext) (mSeq (mAsg (mOp dMod (mCB cInt (mCons (mOp dAdd (mOp dMul (mOp dIx (mVar 0) (mC (.int 3))) (mOp dIx (mVar 0) (mC (.int 3)))) (mOp dMul (mOp dIx (mVar 0) (mC (.int 4))) (mC (.int 8317)))) mNil)) (mC (.int 2147483549))) (.nm 4)) (mSeq (mSetIx (mOp dMod (mCB cInt (mCons (mOp dAdd (mOp dAdd (mOp dMul (mVar 4) (mC (.int 15973))) (mOp dMul (mOp dIx (mVar 0) (mC (.int 3))) (mC (.int 60107)))) (mC (.int 54013))) mNil)) (mC (.int 2147483629))) (mVar 0) (mC (.int 3))) (mRet (mOp dMod (mCB cInt (mCons (mOp dDiv (mOp dIx (mVar 0) (mC (.int 3))) (mC (.int 64))) mNil)) (mVar 1)))))) { nx := fun _ M' => k .non M', rt := k } Γ M1 noX := by
    intro M1 Γ i big mix hl hΓ hΓ1 hM gi gb gm gm2
    have hb : M1 b = some (.lst [.lst (ns.map D.int), .int i, .int big, .int mix, .int (cnt + 1)]) := by rw [hM]; exact setM_at
    refine ix_box (j := 2) hΓ hb rfl ⟨big, 0, rfl, rfl, trivial, _, rfl, ?_⟩
    by_cases hbig : 0 < big
    · rw [decide_eq_true hbig]
      refine ix_box (j := 2) hΓ hb rfl ⟨big, rfl, _, hΓ1, big, n, rfl, rfl, h1, _, rfl, ?_⟩
      have hΓa : (Γ.set 3 (some (.int (big % n))))[0]? = some (some (.ref b)) := by rw [List.getElem?_set_ne (by decide)]; exact hΓ
      have hΓb : (Γ.set 3 (some (.int (big % n))))[1]? = some (some (.int n)) := by rw [List.getElem?_set_ne (by decide)]; exact hΓ1
      dsimp only
      refine set_box (x := .int (big / n)) (j := 2) hΓa hb (by show 2 < 5; decide) ?_ ?_
      · intro k' h'
        exact ix_box (j := 2) hΓa hb rfl ⟨_, hΓb, big, n, rfl, rfl, ⟨h1, h2⟩, h'⟩
      refine ⟨_, List.getElem?_set_self (by omega), ?_⟩
      rw [hM, setM_setM]
      exact hk _ _ (Int.emod_nonneg _ (by omega)) (Int.emod_lt_of_pos _ h1) ⟨ns, i, big / n, mix, cnt + 1, rfl, gi, Int.ediv_nonneg gb (by omega), gm, gm2⟩
    · rw [decide_eq_false hbig]
      refine ix_box (j := 3) hΓ hb rfl (ix_box (j := 3) hΓ hb rfl ⟨.inl ⟨by omega, by omega⟩, ?_⟩)
      refine ix_box (j := 4) hΓ hb rfl ⟨.inr ⟨by decide, by decide⟩, _, rfl, _, 2147483549, rfl, rfl, (by show (0 : Int) < 2147483549; decide), _, rfl, ?_⟩
      dsimp only
      have gt := Int.emod_nonneg (mix * mix + (cnt + 1) * 8317) (show (2147483549 : Int) ≠ 0 by decide)
      have gt2 := Int.emod_lt_of_pos (mix * mix + (cnt + 1) * 8317) (show (0 : Int) < 2147483549 by decide)
      generalize (mix * mix + (cnt + 1) * 8317) % 2147483549 = tw at gt gt2
      have hΓ' : (Γ.set 4 (some (.int tw)))[0]? = some (some (.ref b)) := by rw [List.getElem?_set_ne (by decide)]; exact hΓ
      have hΓ1' : (Γ.set 4 (some (.int tw)))[1]? = some (some (.int n)) := by rw [List.getElem?_set_ne (by decide)]; exact hΓ1
      have hΓ4 : (Γ.set 4 (some (.int tw)))[4]? = some (some (.int tw)) := List.getElem?_set_self (by omega)
      have gz := Int.emod_nonneg (tw * 15973 + mix * 60107 + 54013) (show (2147483629 : Int) ≠ 0 by decide)
      have gz2 := Int.emod_lt_of_pos (tw * 15973 + mix * 60107 + 54013) (show (0 : Int) < 2147483629 by decide)
      refine set_box (x := .int ((tw * 15973 + mix * 60107 + 54013) % 2147483629)) (j := 3) hΓ' hb (by show 3 < 5; decide) ?_ ?_
      · intro k' h'
        exact ⟨_, hΓ4, .inr ⟨by decide, by decide⟩, ix_box (j := 3) hΓ' hb rfl ⟨.inr ⟨by decide, by decide⟩, _, rfl, _, 2147483629, rfl, rfl, (by show (0 : Int) < 2147483629; decide), h'⟩⟩
      generalize (tw * 15973 + mix * 60107 + 54013) % 2147483629 = mx at gz gz2
      refine ix_box (j := 3) hΓ' setM_at rfl ⟨mx, 64, rfl, rfl, ⟨by decide, by decide⟩, _, rfl, _, hΓ1', _, n, rfl, rfl, h1, ?_⟩
      rw [hM, setM_setM]
      exact hk _ _ (Int.emod_nonneg _ (by omega)) (Int.emod_lt_of_pos _ h1) ⟨ns, i, big, mx, cnt + 1, rfl, gi, gb, gz, by omega⟩
  have hb : setM M b (.lst [.lst (ns.map D.int), .int i, .int big, .int mix, .int (cnt + 1)]) b = some (.lst [.lst (ns.map D.int), .int i, .int big, .int mix, .int (cnt + 1)]) := setM_at
  refine ix_box (j := 2) rfl hb rfl ⟨_, rfl, ?_⟩
  by_cases hz : big = 0
  · rw [decide_eq_true hz]
    refine ix_box (j := 1) rfl hb rfl ?_
    refine ix_box (j := 0) rfl hb rfl ⟨_, rfl, _, rfl, i, _, rfl, rfl, trivial, _, rfl, ?_⟩
    by_cases hi : i < ((ns.map D.int).length : Int)
    · rw [decide_eq_true hi]
      rw [List.length_map] at hi
      have hn : (ns.map D.int)[i.toNat]? = some (.int ns[i.toNat]) := by
        rw [List.getElem?_map, List.getElem?_eq_getElem (by omega)]
        rfl
      have ei : i = ((i.toNat : Nat) : Int) := by omega
      generalize hc : ns[i.toNat] = c at hn
      refine ix_box (j := 0) rfl hb rfl (ix_box (j := 1) rfl hb rfl ⟨i, _, _, rfl, rfl, at_of' ei hn, _, rfl, ?_⟩)
      dsimp only [startD, List.map_cons, List.map_nil, List.cons_append, List.nil_append, List.length_cons, List.length_nil, List.set_cons_zero, List.set_cons_succ, List.replicate_succ, List.replicate_zero, Nat.reduceAdd, Nat.reduceSub]
      refine set_box (x := .int (i + 1)) (i := 0) (j := 1) (Γ := [some (.ref b), some (.int n), some (.int c), none, none]) rfl hb (by show 1 < 5; decide) ?_ ?_
      · intro k' h'
        exact ix_box (j := 1) rfl hb rfl h'
      refine ⟨_, rfl, c, rfl, _, _, rfl, rfl, ⟨by decide, by decide, by decide⟩, _, _, rfl, rfl, trivial, _, rfl, ?_⟩
      have hb2 : setM (setM M b (.lst [.lst (ns.map D.int), .int i, .int big, .int mix, .int (cnt + 1)])) b (.lst [.lst (ns.map D.int), .int (i + 1), .int big, .int mix, .int (cnt + 1)]) b = some (.lst [.lst (ns.map D.int), .int (i + 1), .int big, .int mix, .int (cnt + 1)]) := setM_at
      have ha : 0 ≤ (if c < 0 then -c else c) := by split <;> omega
      dsimp only
      by_cases hc18 : (10 : Int) ^ Int.toNat 18 ≤ (if c < 0 then -c else c)
      · rw [decide_eq_true hc18, if_pos rfl]
        dsimp only [List.set_cons_zero, List.set_cons_succ]
        refine set_box (x := .int (if c < 0 then -c else c)) (i := 0) (j := 2) (Γ := [some (.ref b), some (.int n), some (.int c), none, none]) rfl hb2 (by show 2 < 5; decide) ?_ ?_
        · intro k' h'
          exact ⟨_, rfl, c, rfl, h'⟩
        exact last _ _ (i + 1) (if c < 0 then -c else c) mix rfl rfl rfl (by rw [setM_setM, setM_setM]; rfl) (by omega) ha g3 g4
      · rw [decide_eq_false hc18, if_neg (by decide)]
        dsimp only [List.set_cons_zero, List.set_cons_succ]
        have gz := Int.emod_nonneg (mix * 41389 + c % 1000003 * 733 + 31) (show (2147483629 : Int) ≠ 0 by decide)
        have gz2 := Int.emod_lt_of_pos (mix * 41389 + c % 1000003 * 733 + 31) (show (0 : Int) < 2147483629 by decide)
        refine set_box (x := .int ((mix * 41389 + c % 1000003 * 733 + 31) % 2147483629)) (i := 0) (j := 3) (Γ := [some (.ref b), some (.int n), some (.int c), none, none]) rfl hb2 (by show 3 < 5; decide) ?_ ?_
        · intro k' h'
          exact ix_box (j := 3) rfl hb2 rfl ⟨.inr ⟨by decide, by decide⟩, _, rfl, c, rfl, c, 1000003, rfl, rfl, (by show (0 : Int) < 1000003; decide), .inr ⟨by decide, by decide⟩, _, rfl, _, 2147483629, rfl, rfl, (by show (0 : Int) < 2147483629; decide), h'⟩
        exact last _ _ (i + 1) big _ rfl rfl rfl (by rw [setM_setM, setM_setM]; rfl) (by omega) (by omega) gz (by omega)
    · rw [decide_eq_false hi]
      exact last _ _ i big mix rfl rfl rfl rfl g1 g2 g3 g4
  · rw [decide_eq_false hz]
    exact last _ _ i big mix rfl rfl rfl rfl g1 g2 g3 g4
end CM
namespace CM
open PySem L2 DL
/-! ### loops -/
theorem for_inv {t : Tg} {G : Mh → Prop} {body : MS} {De : DEnds} {kx : XKd} (P : DL.Env → Mh → Prop) : ∀ (ds : List D) {Γ : DL.Env} {M : Mh}, P Γ M →
    (∀ d ∈ ds, ∀ Γ M, P Γ M → G M ∧ ∃ Γ1, bindT t d Γ = some Γ1 ∧ ∀ nx : DL.Env → Mh → Prop, (∀ Γ2 M2, P Γ2 M2 → nx Γ2 M2) → body { De with nx := nx, ct := nx, bk := De.nx } Γ1 M kx) →
    (∀ Γ M, P Γ M → G M ∧ De.nx Γ M) → loopFor t G body De kx ds Γ M
  | [], Γ, M, h, _, he => he Γ M h
  | d :: ds, Γ, M, h, hs, he => by
    obtain ⟨g, Γ1, e, hb⟩ := hs d List.mem_cons_self Γ M h
    exact ⟨g, Γ1, e, hb _ fun Γ2 M2 h2 => for_inv P ds h2 (fun d' hd => hs d' (List.mem_cons_of_mem _ hd)) he⟩
theorem cut_ints (ns : List Int) (lo hi : Option Int) : ∃ ms : List Int, cutD (ns.map D.int) lo hi = ms.map D.int ∧ ms.length ≤ ns.length := by
  refine ⟨(ns.drop (HT.sIx ns.length 0 lo)).take (HT.sIx ns.length ns.length hi - HT.sIx ns.length 0 lo), ?_, ?_⟩
  · unfold cutD
    rw [List.length_map, List.map_take, List.map_drop]
  · rw [List.length_take, List.length_drop]
    omega
theorem box_body (ns : List Int) (M : Mh) (k : DK) (hn : ns.length ≤ 63) (hk : ∀ p ds, M p = none → BoxD ds → k (.ref p) (setM M p (.lst ds))) :
    b__law_box { nx := fun _ M' => k .non M', rt := k } (startD 3 [.scr ns]) M noX := by
  obtain ⟨ms, e, hl⟩ := cut_ints ns none (some 63)
  unfold b__law_box
  refine ⟨_, rfl, ?_⟩
  refine ⟨_, rfl, _, rfl, ?_⟩
  show loopFor _ _ _ _ _ (cutD (ns.map D.int) none (some 63)) _ _
  rw [e]
  refine for_inv (fun Γ M' => M' = M ∧ ∃ mx c, Γ = [some (.scr ns), some (.int mx), c] ∧ 0 ≤ mx ∧ mx < 2147483587) _ ⟨rfl, 10010, none, rfl, by decide, by decide⟩ ?_ ?_
  · rintro d hd Γ M' ⟨rfl, mx, c, rfl, g1, g2⟩
    obtain ⟨n, _, rfl⟩ := List.mem_map.mp hd
    refine ⟨trivial, _, rfl, fun nx hnx => ?_⟩
    have gz := Int.emod_nonneg (mx * 50021 + n % 1000003 * 769 + 17) (show (2147483587 : Int) ≠ 0 by decide)
    have gz2 := Int.emod_lt_of_pos (mx * 50021 + n % 1000003 * 769 + 17) (show (0 : Int) < 2147483587 by decide)
    refine ⟨_, rfl, .inr ⟨by decide, by decide⟩, _, rfl, n, rfl, n, 1000003, rfl, rfl, (by show (0 : Int) < 1000003; decide), .inr ⟨by decide, by decide⟩, _, rfl, _, 2147483587, rfl, rfl, (by show (0 : Int) < 2147483587; decide), _, rfl, ?_⟩
    exact hnx _ _ ⟨rfl, _, _, rfl, gz, gz2⟩
  · rintro Γ M' ⟨rfl, mx, c, rfl, g1, g2⟩
    refine ⟨trivial, _, rfl, _, rfl, _, _, rfl, rfl, _, rfl, by show 5 ≤ sizeLine; decide, fun p hp => ?_⟩
    have e2 : cutD (ns.map D.int) none (some (63 : Int)) = ms.map D.int := e
    show k (.ref p) (setM M' p (.lst [.lst (cutD (ns.map D.int) none (some 63)), .int 0, .int 0, .int mx, .int 0]))
    rw [e2]
    exact hk p _ hp ⟨ms, 0, 0, mx, 0, rfl, by decide, by decide, g1, by omega⟩
/-! ### one of some -/
def itemsOf (M : Mh) : D → Option (List D)
  | .str z => some (signs z)
  | d => sqOf M d
def sOf : MF := fun ds M k _ => ∃ b d es, ds = [.ref b, d] ∧ M b = some .box ∧ itemsOf M d = some es ∧ 0 < es.length ∧ es.length ≤ 1000000 ∧ ∀ x ∈ es, k x M
theorem of_ok (ds : List D) (M : Mh) (k : DK) (kx : XKd) (h : sOf ds M k kx) : b__law_of sPull { nx := fun _ M' => k .non M', rt := k } (startD 2 ds) M noX := by
  obtain ⟨b, d, es, rfl, hb, hi, h0, hl, h⟩ := h
  unfold b__law_of
  have fin : ∀ r : Int, 0 ≤ r → r < (es.length : Int) → ∃ x, es[r.toNat]? = some x ∧ k x M := fun r h1 h2 => by
    have hlt : r.toNat < es.length := by omega
    exact ⟨es[r.toNat], List.getElem?_eq_getElem hlt, h _ (List.getElem_mem hlt)⟩
  cases d with
  | str z =>
    have e : signs z = es := Option.some.inj hi
    have hz : z.length = es.length := by rw [← e]; unfold signs; simp; rfl
    refine ⟨_, rfl, _, rfl, _, rfl, _, rfl, ⟨by rw [hz]; exact sz_le hl, ?_⟩⟩
    refine ⟨b, z.length, rfl, hb, by omega, by omega, fun r h1 h2 => ?_⟩
    obtain ⟨x, g1, g2⟩ := fin r h1 (by omega)
    rw [← e] at g1
    unfold signs at g1
    rw [List.getElem?_map] at g1
    cases c : z.cps.toList[r.toNat]? with
    | none => rw [c] at g1; cases g1
    | some y =>
      rw [c] at g1
      cases g1
      refine ⟨r, y, rfl, by rw [hz]; exact sz_le hl, ?_, g2⟩
      rw [show r = ((r.toNat : Nat) : Int) by omega]
      exact atI_nat c
  | tup xs =>
    refine ⟨_, rfl, _, rfl, _, rfl, _, rfl, es, hi, b, es.length, rfl, hb, by omega, by omega, fun r h1 h2 => ?_⟩
    obtain ⟨x, g1, g2⟩ := fin r h1 h2
    exact ⟨r, es, x, rfl, hi, at_of' (show r = ((r.toNat : Nat) : Int) by omega) g1, g2⟩
  | lst xs =>
    refine ⟨_, rfl, _, rfl, _, rfl, _, rfl, es, hi, b, es.length, rfl, hb, by omega, by omega, fun r h1 h2 => ?_⟩
    obtain ⟨x, g1, g2⟩ := fin r h1 h2
    exact ⟨r, es, x, rfl, hi, at_of' (show r = ((r.toNat : Nat) : Int) by omega) g1, g2⟩
  | ref a =>
    refine ⟨_, rfl, _, rfl, _, rfl, _, rfl, es, hi, b, es.length, rfl, hb, by omega, by omega, fun r h1 h2 => ?_⟩
    obtain ⟨x, g1, g2⟩ := fin r h1 h2
    exact ⟨r, es, x, rfl, hi, at_of' (show r = ((r.toNat : Nat) : Int) by omega) g1, g2⟩
  | non => cases hi
  | bl _ => cases hi
  | int _ => cases hi
  | ty _ => cases hi
  | scr _ => cases hi
  | exc _ _ _ _ => cases hi
/-! ### odd values -/
def oddL : List D := [.non, .bl true, .bl false, .str "", .str "A", .str "a1", .str "sevenst", .int (-1), .int 7, .tup [.int 1, .str "a"], .lst [.int 1], .tup [], .int (10 ^ 14)]
def sOdd : MF := fun ds M k _ => ∃ b d es, ds = [.ref b, d] ∧ M b = some .box ∧ lsOf M d = some es ∧ es.length ≤ 1000 ∧ ∀ x ∈ oddL ++ es, k x M
theorem odd_ok (ds : List D) (M : Mh) (k : DK) (kx : XKd) (h : sOdd ds M k kx) : b__law_odd sOf { nx := fun _ M' => k .non M', rt := k } (startD 2 ds) M noX := by
  obtain ⟨b, d, es, rfl, hb, hi, hl, h⟩ := h
  have hs : oddL.length + es.length ≤ sizeLine := sz_le (by show 13 + es.length ≤ 1000000; omega)
  have key : sOf [.ref b, .lst (oddL ++ es)] M k noX := ⟨b, _, _, rfl, hb, rfl, by rw [List.length_append]; show 0 < 13 + es.length; omega, by rw [List.length_append]; show 13 + es.length ≤ 1000000; omega, h⟩
  unfold b__law_odd
  refine ⟨_, rfl, 1, rfl, by show 2 ≤ sizeLine; decide, by show 1 ≤ sizeLine; decide, Nat.zero_le _, 10, 14, rfl, rfl, ⟨by decide, by decide, by decide⟩, by show 13 ≤ sizeLine; decide, _, rfl, ?_⟩
  cases d with
  | lst xs => exact ⟨oddL, es, rfl, hi, hs, key⟩
  | ref a => exact ⟨oddL, es, rfl, hi, hs, key⟩
  | non => cases hi
  | bl _ => cases hi
  | int _ => cases hi
  | str _ => cases hi
  | tup _ => cases hi
  | ty _ => cases hi
  | scr _ => cases hi
  | exc _ _ _ _ => cases hi
end CM
namespace CM
open PySem L2 DL
/-! ### the same data -/
mutual
/-- plain data, nested fewer than n deep, of lists and tuples that are not long -/
def pureN : Nat → D → Bool
  | 0, _ => false
  | _ + 1, .non => true
  | _ + 1, .bl _ => true
  | _ + 1, .int _ => true
  | _ + 1, .str _ => true
  | n + 1, .tup ds => pureAll n ds
  | n + 1, .lst ds => pureAll n ds
  | _ + 1, _ => false
def pureAll : Nat → List D → Bool
  | _, [] => true
  | n, d :: ds => pureN n d && pureAll n ds
end
mutual
def shortD : D → Bool
  | .tup ds => decide (ds.length ≤ 1000000) && shortAll ds
  | .lst ds => decide (ds.length ≤ 1000000) && shortAll ds
  | _ => true
def shortAll : List D → Bool
  | [] => true
  | d :: ds => shortD d && shortAll ds
end
theorem pureAll_mem {n : Nat} : ∀ {ds : List D}, pureAll n ds = true → ∀ d ∈ ds, pureN n d = true
  | [], _, d, h => by cases h
  | e :: es, h, d, hd => by
    rw [pureAll, Bool.and_eq_true] at h
    rcases List.mem_cons.mp hd with rfl | hd
    · exact h.1
    · exact pureAll_mem h.2 d hd
theorem shortAll_mem : ∀ {ds : List D}, shortAll ds = true → ∀ d ∈ ds, shortD d = true
  | [], _, d, h => by cases h
  | e :: es, h, d, hd => by
    rw [shortAll, Bool.and_eq_true] at h
    rcases List.mem_cons.mp hd with rfl | hd
    · exact h.1
    · exact shortAll_mem h.2 d hd
def sSame (n : Nat) : MF := fun ds M k _ => ∃ d, ds = [d, d] ∧ pureN n d = true ∧ shortD d = true ∧ k (.bl true) M
theorem pairs_self (ds : List D) : pairs ds ds = ds.map fun d => .tup [d, d] := by
  unfold pairs
  induction ds with
  | nil => rfl
  | cons d ds ih => simp only [List.zip_cons_cons, List.map_cons, ih]
theorem all_true {α : Type} (xs : List α) : (xs.map fun _ => true).all id = true := by simp
theorem pure_ty {n : Nat} {d : D} (M : Mh) (h : pureN n d = true) : tyN M d ∈ tys := by
  cases n with
  | zero => rw [pureN] at h; cases h
  | succ n =>
    cases d with
    | non => show "NoneType" ∈ tys; decide
    | bl _ => show "bool" ∈ tys; decide
    | int _ => show "int" ∈ tys; decide
    | str _ => show "str" ∈ tys; decide
    | tup _ => show "tuple" ∈ tys; decide
    | lst _ => show "list" ∈ tys; decide
    | ref a => simp [pureN] at h
    | ty _ => simp [pureN] at h
    | scr _ => simp [pureN] at h
    | exc _ _ _ _ => simp [pureN] at h
theorem same_ok (n : Nat) (ds : List D) (M : Mh) (k : DK) (kx : XKd) (h : sSame (n + 1) ds M k kx) : b__law_same (sSame n) { nx := fun _ M' => k .non M', rt := k } (startD 4 ds) M noX := by
  obtain ⟨d, rfl, hp, hs, h⟩ := h
  unfold b__law_same
  have ht := pure_ty M hp
  have comp : ∀ (es : List D) (G : Mh → Prop), G M → pureAll n es = true → shortAll es = true → loopLc (.tp [.nm 2, .nm 3]) G mYes (mCall (sSame n) (mCons (mVar 2) (mCons (mVar 3) mNil))) [some d, some d, none, none] (fun acc M2 => cAll [.lst acc] M2 k) noX [] (pairs es es) M := fun es G hG h1 h2 => by
    refine lc_map (fun _ => .bl true) hG (fun p hp => ?_) ?_
    · rw [pairs_self] at hp
      obtain ⟨x, hx, rfl⟩ := List.mem_map.mp hp
      exact ⟨_, rfl, fun k' hk => ⟨_, rfl, _, rfl, x, rfl, pureAll_mem h1 x hx, shortAll_mem h2 x hx, hk⟩⟩
    · refine ⟨_, _, (pairs es es).map fun _ => true, rfl, rfl, bls_map (fun _ => true) _, ?_⟩
      rw [all_true]
      exact h
  cases d with
  | non => exact ⟨_, rfl, _, rfl, _, rfl, _, rfl, _, rfl, h⟩
  | bl b =>
    refine ⟨_, rfl, _, rfl, _, rfl, _, rfl, ?_⟩
    refine ⟨_, rfl, ht, _, rfl, ?_⟩
    refine ⟨_, rfl, ht, _, rfl, ?_⟩
    refine ⟨_, rfl, ht, _, rfl, _, rfl, ht, _, rfl, _, rfl, _, rfl, ?_⟩
    show k (.bl (decide (b = b))) M
    rw [decide_eq_true rfl]
    exact h
  | int i =>
    refine ⟨_, rfl, _, rfl, _, rfl, _, rfl, ?_⟩
    refine ⟨_, rfl, ht, _, rfl, ?_⟩
    refine ⟨_, rfl, ht, _, rfl, _, rfl, ht, _, rfl, ?_⟩
    refine ⟨_, rfl, ht, _, rfl, _, rfl, ht, _, rfl, _, rfl, _, rfl, ?_⟩
    show k (.bl (decide (i = i))) M
    rw [decide_eq_true rfl]
    exact h
  | str i =>
    refine ⟨_, rfl, _, rfl, _, rfl, _, rfl, ?_⟩
    refine ⟨_, rfl, ht, _, rfl, ?_⟩
    refine ⟨_, rfl, ht, _, rfl, _, rfl, ht, _, rfl, ?_⟩
    refine ⟨_, rfl, ht, _, rfl, ?_⟩
    refine ⟨_, rfl, ht, _, rfl, _, rfl, ht, _, rfl, _, rfl, _, rfl, ?_⟩
    show k (.bl (decide (i = i))) M
    rw [decide_eq_true rfl]
    exact h
  | tup es =>
    rw [pureN] at hp
    rw [shortD, Bool.and_eq_true, decide_eq_true_eq] at hs
    have hl : (pairs es es).length ≤ sizeLine := by rw [pairs_len, Nat.min_self]; exact sz_le hs.1
    refine ⟨_, rfl, _, rfl, _, rfl, _, rfl, ?_⟩
    refine ⟨_, rfl, ht, _, rfl, ?_⟩
    refine ⟨_, rfl, ht, _, rfl, ht, _, rfl, _, rfl, ht, _, rfl, ht, _, rfl, ?_⟩
    refine ⟨_, rfl, _, rfl, es, rfl, _, rfl, _, rfl, es, rfl, ?_⟩
    refine ⟨true, by show D.bl (decide ((es.length : Int) = es.length)) = _; rw [decide_eq_true rfl], ?_⟩
    exact ⟨_, rfl, _, rfl, hl, comp es _ trivial hp hs.2⟩
  | lst es =>
    rw [pureN] at hp
    rw [shortD, Bool.and_eq_true, decide_eq_true_eq] at hs
    have hl : (pairs es es).length ≤ sizeLine := by rw [pairs_len, Nat.min_self]; exact sz_le hs.1
    refine ⟨_, rfl, _, rfl, _, rfl, _, rfl, ?_⟩
    refine ⟨_, rfl, ht, _, rfl, ?_⟩
    refine ⟨_, rfl, ht, _, rfl, ht, _, rfl, _, rfl, ht, _, rfl, ht, _, rfl, ?_⟩
    refine ⟨_, rfl, _, rfl, es, rfl, _, rfl, _, rfl, es, rfl, ?_⟩
    refine ⟨true, by show D.bl (decide ((es.length : Int) = es.length)) = _; rw [decide_eq_true rfl], ?_⟩
    exact ⟨_, rfl, _, rfl, es, es, rfl, rfl, hl, comp es _ ⟨rfl, rfl⟩ hp hs.2⟩
  | ref a => simp [pureN] at hp
  | ty _ => simp [pureN] at hp
  | scr _ => simp [pureN] at hp
  | exc _ _ _ _ => simp [pureN] at hp
end CM
namespace CM
open PySem L2 DL
/-! ### names that are drawn: the plain part -/
def L26 : List Nat := [97, 98, 99, 100, 101, 102, 103, 104, 105, 106, 107, 108, 109, 110, 111, 112, 113, 114, 115, 116, 117, 118, 119, 120, 121, 122]
theorem letters_L : letters.cps.toList = L26 := by decide +kernel
theorem L26_nodup : L26.Nodup := by decide
def badW : List Str := ["own", "name", "tick", "worth"]
/-- a name that is no word of the language -/
def Good (w : Str) : Prop := isNameS w = true ∧ w ∉ badW
def cand (cs : List Nat) (r : Nat) (q : Int) (j : Nat) : List Nat := cs.take r ++ L26.getD ((q + 7 * (j : Int)) % 26).toNat 0 :: cs.drop r
theorem ix26 (q : Int) (j : Nat) : ((q + 7 * (j : Int)) % 26).toNat < 26 := by
  have := Int.emod_lt_of_pos (q + 7 * (j : Int)) (show (0 : Int) < 26 by decide)
  have := Int.emod_nonneg (q + 7 * (j : Int)) (show (26 : Int) ≠ 0 by decide)
  omega
theorem cand_len (cs : List Nat) (r : Nat) (q : Int) (j : Nat) : (cand cs r q j).length = cs.length + 1 := by
  unfold cand
  rw [List.length_append, List.length_cons, List.length_take, List.length_drop]
  omega
theorem L26_get {i : Nat} (h : i < 26) : L26[i]? = some (L26.getD i 0) := by
  rw [List.getD_eq_getElem?_getD, List.getElem?_eq_getElem (show i < L26.length from h)]
  rfl
theorem cand_all {cs : List Nat} (h : ∀ c ∈ cs, c ∈ L26) (r : Nat) (q : Int) (j : Nat) : ∀ c ∈ cand cs r q j, c ∈ L26 := fun c hc => by
  unfold cand at hc
  rcases List.mem_append.mp hc with hc | hc
  · exact h c (List.mem_of_mem_take hc)
  · rcases List.mem_cons.mp hc with rfl | hc
    · exact List.mem_of_getElem? (L26_get (ix26 q j))
    · exact h c (List.mem_of_mem_drop hc)
theorem cand_inj {cs : List Nat} {r : Nat} {q : Int} {i j : Nat} (hi : i < 26) (hj : j < 26) (h : cand cs r q i = cand cs r q j) : i = j := by
  unfold cand at h
  have h1 := List.append_cancel_left h
  injection h1 with h2 _
  have e1 := L26_get (ix26 q i)
  have e2 := L26_get (ix26 q j)
  rw [h2] at e1
  have := nd_ix L26_nodup e1 e2
  have a1 := Int.emod_nonneg (q + 7 * (i : Int)) (show (26 : Int) ≠ 0 by decide)
  have a2 := Int.emod_nonneg (q + 7 * (j : Int)) (show (26 : Int) ≠ 0 by decide)
  omega
theorem cand_name {cs : List Nat} (h : ∀ c ∈ cs, c ∈ L26) (hl : cs.length ≤ 5) (r : Nat) (q : Int) (j : Nat) : isNameS ⟨(cand cs r q j).toArray⟩ = true := by
  unfold isNameS
  have hn : (⟨(cand cs r q j).toArray⟩ : Str).length = cs.length + 1 := by
    show (cand cs r q j).toArray.size = _
    rw [List.size_toArray, cand_len]
  rw [hn, Bool.and_eq_true, Bool.and_eq_true, decide_eq_true_eq, decide_eq_true_eq, List.all_eq_true]
  refine ⟨⟨by omega, by omega⟩, fun c hc => ?_⟩
  rw [decide_eq_true_eq, letters_L]
  exact cand_all h r q j c hc
theorem filter_two {α : Type} (p : α → Bool) : ∀ xs : List α, (xs.filter p).length + (xs.filter fun w => !p w).length = xs.length
  | [] => rfl
  | x :: xs => by
    have ih := filter_two p xs
    cases q : p x with
    | true =>
      rw [List.filter_cons_of_pos q, List.filter_cons_of_neg (by rw [q]; decide), List.length_cons, List.length_cons]
      omega
    | false =>
      rw [List.filter_cons_of_neg (by rw [q]; decide), List.filter_cons_of_pos (by rw [q]; rfl), List.length_cons, List.length_cons]
      omega
theorem nodup_map_on {α β : Type} {f : α → β} : ∀ {l : List α}, l.Nodup → (∀ x ∈ l, ∀ y ∈ l, f x = f y → x = y) → (l.map f).Nodup
  | [], _, _ => List.nodup_nil
  | a :: l, h, g => by
    rw [List.nodup_cons] at h
    rw [List.map_cons, List.nodup_cons]
    refine ⟨fun hm => ?_, nodup_map_on h.2 fun x hx y hy => g x (List.mem_cons_of_mem _ hx) y (List.mem_cons_of_mem _ hy)⟩
    obtain ⟨x, hx, e⟩ := List.mem_map.mp hm
    have := g x (List.mem_cons_of_mem _ hx) a List.mem_cons_self e
    subst this
    exact h.1 hx
theorem bad_len : ∀ w ∈ badW, w.length = 3 ∨ w.length = 4 ∨ w.length = 5 := by decide +kernel
theorem bad3 : ∀ w ∈ badW, w.length = 3 → w = "own" := by decide +kernel
/-- what the helper hands back -/
def named (cs : List Nat) (r : Nat) (q : Int) (n : Nat) : List Str := (((List.range (n + 2)).map fun j => (⟨(cand cs r q j).toArray⟩ : Str)).filter fun w => decide (w ∉ badW)).take n
theorem named_ok {cs : List Nat} (h : ∀ c ∈ cs, c ∈ L26) (hl : cs.length = 0 ∨ cs.length = 1 ∨ cs.length = 2 ∨ cs.length = 5) {r : Nat} {q : Int} {n : Nat} (hn : n ≤ 20) : (named cs r q n).length = n ∧ (named cs r q n).Nodup ∧ ∀ w ∈ named cs r q n, Good w := by
  have nd : ((List.range (n + 2)).map fun j => (⟨(cand cs r q j).toArray⟩ : Str)).Nodup := by
    refine nodup_map_on List.nodup_range fun i hi j hj e => ?_
    have hi := List.mem_range.mp hi
    have hj := List.mem_range.mp hj
    have e1 : (cand cs r q i).toArray = (cand cs r q j).toArray := congrArg Str.cps e
    have e2 : cand cs r q i = cand cs r q j := by simpa using congrArg Array.toList e1
    exact cand_inj (by omega) (by omega) e2
  have all : ∀ w ∈ ((List.range (n + 2)).map fun j => (⟨(cand cs r q j).toArray⟩ : Str)), isNameS w = true ∧ w.length = cs.length + 1 := fun w hw => by
    obtain ⟨j, _, rfl⟩ := List.mem_map.mp hw
    refine ⟨cand_name h (by omega) r q j, ?_⟩
    show (cand cs r q j).toArray.size = _
    rw [List.size_toArray, cand_len]
  generalize hX : ((List.range (n + 2)).map fun j => (⟨(cand cs r q j).toArray⟩ : Str)) = xs at nd all
  have hlen : xs.length = n + 2 := by rw [← hX]; simp
  have hnm : named cs r q n = (xs.filter fun w => decide (w ∉ badW)).take n := by rw [← hX]; rfl
  have hmany : n ≤ (xs.filter fun w => decide (w ∉ badW)).length := by
    have h1 := filter_two (fun w => decide (w ∉ badW)) xs
    have h2 : (xs.filter fun w => !decide (w ∉ badW)).length ≤ 1 := by
      have hsub : ∀ w ∈ xs.filter (fun w => !decide (w ∉ badW)), w = ("own" : Str) := fun w hw => by
        obtain ⟨g1, g2⟩ := List.mem_filter.mp hw
        have g3 : w ∈ badW := by simpa using g2
        have g4 := (all w g1).2
        rcases bad_len w g3 with g5 | g5 | g5
        · exact bad3 w g3 g5
        · omega
        · omega
      have hnd : (xs.filter fun w => !decide (w ∉ badW)).Nodup := nd.filter _
      generalize xs.filter (fun w => !decide (w ∉ badW)) = ys at hsub hnd
      match ys, hsub, hnd with
      | [], _, _ => exact Nat.zero_le _
      | [_], _, _ => exact Nat.le_refl _
      | a :: b :: t, hsub, hnd =>
        have e1 := hsub a List.mem_cons_self
        have e2 := hsub b (List.mem_cons_of_mem _ List.mem_cons_self)
        rw [e1, e2] at hnd
        simp at hnd
    omega
  rw [hnm]
  refine ⟨by rw [List.length_take]; omega, (nd.filter _).sublist (List.take_sublist _ _), fun w hw => ?_⟩
  obtain ⟨g1, g2⟩ := List.mem_filter.mp (List.mem_of_mem_take hw)
  exact ⟨(all w g1).1, by simpa using g2⟩
end CM
namespace CM
open PySem L2 DL TL
def sNames : MF := fun ds M k _ => ∃ b n, ds = [.ref b, .int n] ∧ M b = some .box ∧ 0 ≤ n ∧ n ≤ 20 ∧ ∀ ws : List Str, (ws.length : Int) = n → ws.Nodup → (∀ w ∈ ws, Good w) → k (.lst (ws.map D.str)) M
theorem all_signs : ∀ {ys : List D}, (∀ y ∈ ys, ∃ c ∈ L26, y = .str ⟨#[c]⟩) → ∃ cs : List Nat, (∀ c ∈ cs, c ∈ L26) ∧ ys = cs.map (fun c => D.str ⟨#[c]⟩)
  | [], _ => ⟨[], ⟨fun c h => (List.not_mem_nil h).elim, rfl⟩⟩
  | y :: ys, h => by
    obtain ⟨c, hc, rfl⟩ := h y List.mem_cons_self
    obtain ⟨cs, h1, rfl⟩ := all_signs fun z hz => h z (List.mem_cons_of_mem _ hz)
    exact ⟨c :: cs, fun z hz => by rcases List.mem_cons.mp hz with rfl | hz; exact hc; exact h1 z hz, rfl⟩
theorem tx_signs : ∀ cs : List Nat, txOf (cs.map fun c => D.str ⟨#[c]⟩) = some (cs.map fun c => (⟨#[c]⟩ : Str))
  | [] => rfl
  | c :: cs => by
    show (txOf (cs.map fun c => D.str ⟨#[c]⟩)).map (⟨#[c]⟩ :: ·) = _
    rw [tx_signs cs]
    rfl
theorem joinL_signs : ∀ cs : List Nat, joinL [] (cs.map fun c => [c]) = cs
  | [] => rfl
  | [c] => rfl
  | c :: d :: cs => by
    have := joinL_signs (d :: cs)
    show [c] ++ ([] ++ joinL [] ((d :: cs).map fun c => [c])) = _
    rw [this]
    rfl
theorem str_ext {x y : Str} (h : x.cps.toList = y.cps.toList) : x = y := by
  cases x
  cases y
  simp only [Str.mk.injEq]
  simpa using congrArg List.toArray h
theorem join_signs (cs : List Nat) : Txt.join "" (cs.map fun c => (⟨#[c]⟩ : Str)) = ⟨cs.toArray⟩ := by
  refine str_ext ?_
  rw [join_eq]
  show tl (Str.join "" (cs.map fun c => (⟨#[c]⟩ : Str))) = cs
  rw [tl_join, List.map_map]
  exact joinL_signs cs
theorem cut_lo (cs : List Nat) (r : Nat) (h : r ≤ cs.length) : cutS ⟨cs.toArray⟩ none (some (r : Int)) = ⟨(cs.take r).toArray⟩ := by
  unfold cutS
  rw [HT.sIx_nat, HT.sIx_none]
  show (⟨((cs.drop 0).take (min r cs.length - 0)).toArray⟩ : Str) = _
  rw [List.drop_zero, Nat.sub_zero, Nat.min_eq_left h]
theorem cut_hi (cs : List Nat) (r : Nat) (h : r ≤ cs.length) : cutS ⟨cs.toArray⟩ (some (r : Int)) none = ⟨(cs.drop r).toArray⟩ := by
  unfold cutS
  rw [HT.sIx_nat, HT.sIx_none]
  show (⟨((cs.drop (min r cs.length)).take (cs.length - min r cs.length)).toArray⟩ : Str) = _
  rw [Nat.min_eq_left h, ← List.length_drop, List.take_length]
theorem inF_strs (w : Str) : ∀ ws : List Str, inF (.str w) (ws.map D.str) = decide (w ∈ ws)
  | [] => by simp [inF]
  | v :: ws => by
    have ih := inF_strs w ws
    unfold inF at ih ⊢
    rw [List.map_cons, List.any_cons, ih]
    show ((v == w) || decide (w ∈ ws)) = decide (w ∈ v :: ws)
    rw [Bool.eq_iff_iff]
    simp only [Bool.or_eq_true, beq_iff_eq, decide_eq_true_eq, List.mem_cons]
    constructor
    · rintro (h | h)
      · exact .inl h.symm
      · exact .inr h
    · rintro (h | h)
      · exact .inl h.symm
      · exact .inr h
theorem cut_strs (ws : List Str) (n : Nat) : cutD (ws.map D.str) none (some (n : Int)) = (ws.take n).map D.str := by
  unfold cutD
  rw [HT.sIx_nat, HT.sIx_none, List.drop_zero, Nat.sub_zero, List.length_map, ← List.map_take]
  congr 1
  rw [List.take_eq_take_iff]
  omega
theorem filter_strs (p : D → Bool) (ws : List Str) : (ws.map D.str).filter p = (ws.filter fun w => p (.str w)).map D.str := by
  rw [List.filter_map]
  rfl
theorem intsD_mem {n : Nat} {d : D} (h : d ∈ intsD 0 n) : ∃ j : Nat, j < n ∧ d = .int (j : Int) := by
  unfold intsD at h
  obtain ⟨j, hj, rfl⟩ := List.mem_map.mp h
  exact ⟨j, List.mem_range.mp hj, by simp⟩
theorem sum_ones : ∀ cs : List Nat, (cs.map fun _ => 1).sum = cs.length
  | [] => rfl
  | c :: cs => by
    rw [List.map_cons, List.sum_cons, sum_ones cs, List.length_cons]
    omega
theorem names_ok (ds : List D) (M : Mh) (k : DK) (kx : XKd) (h : sNames ds M k kx) : b__law_names sOf sPull { nx := fun _ M' => k .non M', rt := k } (startD 9 ds) M noX := by
  obtain ⟨b, n, rfl, hb, h0, h20, hk⟩ := h
  unfold b__law_names
  refine ⟨_, rfl, ?_⟩
  -- stem
  refine ⟨_, rfl, _, rfl, by show 4 ≤ sizeLine; decide, b, _, [.int 0, .int 1, .int 2, .int 5], rfl, hb, rfl, by decide, by decide, fun x hx => ?_⟩
  obtain ⟨m, hm, rfl⟩ : ∃ m : Nat, (m = 0 ∨ m = 1 ∨ m = 2 ∨ m = 5) ∧ x = .int (m : Int) := by
    simp only [List.mem_cons, List.not_mem_nil, or_false] at hx
    rcases hx with rfl | rfl | rfl | rfl
    · exact ⟨0, .inl rfl, rfl⟩
    · exact ⟨1, .inr (.inl rfl), rfl⟩
    · exact ⟨2, .inr (.inr (.inl rfl)), rfl⟩
    · exact ⟨5, .inr (.inr (.inr rfl)), rfl⟩
  have hli : (intsD 0 (m : Int).toNat).length = m := by unfold intsD; simp
  refine ⟨m, rfl, by omega, by omega, by rw [hli]; exact sz_le (by omega), ?_⟩
  refine lc_wp (fun _ y => ∃ c ∈ L26, y = .str ⟨#[c]⟩) trivial (fun d _ => ⟨_, rfl, fun k' hk' => ⟨_, rfl, _, rfl, b, _, signs letters, rfl, hb, rfl, ?_, ?_, fun y hy => hk' y ?_⟩⟩) fun ys hl hp => ?_
  · unfold signs; rw [List.length_map, letters_L]; decide
  · unfold signs; rw [List.length_map, letters_L]; decide
  · unfold signs at hy
    obtain ⟨c, hc, rfl⟩ := List.mem_map.mp hy
    rw [letters_L] at hc
    exact ⟨c, hc, rfl⟩
  rw [hli] at hl
  obtain ⟨cs, hcs, rfl⟩ := all_signs (ys := ys) fun y hy => by
    obtain ⟨i, hi, e⟩ := List.mem_iff_getElem.mp hy
    have hi2 : i < (intsD 0 (m : Int).toNat).length := by rw [hli, ← hl]; exact hi
    exact hp i _ y (List.getElem?_eq_getElem hi2) (by rw [List.getElem?_eq_getElem hi, e])
  rw [List.length_map] at hl
  refine ⟨_, _, rfl, tx_signs cs, ?_, ?_⟩
  · rw [List.map_map, List.length_map]
    have e : cs.map ((fun s : Str => s.length) ∘ fun c => (⟨#[c]⟩ : Str)) = cs.map fun _ => 1 := rfl
    have z : ("" : Str).length = 0 := by decide +kernel
    rw [e, z]
    rw [sum_ones]
    omega
  rw [join_signs]
  refine ⟨_, rfl, ?_⟩
  -- spot, first
  have hsl : (⟨cs.toArray⟩ : Str).length = cs.length := by show cs.toArray.size = _; simp
  refine ⟨_, rfl, _, rfl, _, rfl, by rw [hsl]; exact sz_le (by omega), ?_⟩
  refine ⟨b, _, rfl, hb, by rw [hsl]; omega, by rw [hsl]; omega, fun r h1 h2 => ?_⟩
  rw [hsl] at h2
  refine ⟨_, rfl, b, 26, rfl, hb, by decide, by decide, fun q h3 h4 => ?_⟩
  refine ⟨by show 2 ≤ sizeLine; decide, _, rfl, ?_⟩
  obtain ⟨rn, rfl⟩ : ∃ rn : Nat, r = (rn : Int) := ⟨r.toNat, by omega⟩
  have hr : rn ≤ cs.length := by omega
  -- found
  obtain ⟨nn, rfl⟩ : ∃ nn : Nat, n = (nn : Int) := ⟨n.toNat, by omega⟩
  have hl2 : (intsD 0 ((nn : Int) + 2).toNat).length = nn + 2 := by unfold intsD; simp; omega
  refine ⟨_, rfl, _, rfl, by omega, by omega, by rw [hl2]; exact sz_le (by omega), ?_⟩
  refine lc_map (fun d => match d with | .int j => .str ⟨(cand cs rn q j.toNat).toArray⟩ | _ => .non) trivial (fun d hd => ?_) ?_
  · obtain ⟨j, hj, rfl⟩ := intsD_mem hd
    refine ⟨_, rfl, fun k' hk' => ?_⟩
    have hx := ix26 q j
    have hx0 := Int.emod_nonneg (q + 7 * (j : Int)) (show (26 : Int) ≠ 0 by decide)
    refine ⟨_, rfl, _, rfl, rn, rfl, by rw [hsl]; exact sz_le (by omega), ?_⟩
    refine ⟨_, rfl, _, rfl, _, rfl, .inl ⟨by decide, by decide⟩, _, rfl, _, 26, rfl, rfl, (by show (0 : Int) < 26; decide), (q + 7 * (j : Int)) % 26, L26.getD ((q + 7 * (j : Int)) % 26).toNat 0, rfl, ?_, ?_, ?_⟩
    · exact sz_le (by decide +kernel)
    · rw [show ("abcdefghijklmnopqrstuvwxyz" : Str) = letters from rfl, letters_L]
      have e := L26_get hx
      generalize ((q + 7 * (j : Int)) % 26) = z at hx hx0 e ⊢
      rw [show z = ((z.toNat : Nat) : Int) by omega]
      exact atI_nat e
    · have e1 : cutS ⟨cs.toArray⟩ none (some (rn : Int)) = ⟨(cs.take rn).toArray⟩ := cut_lo cs rn hr
      have e2 : cutS ⟨cs.toArray⟩ (some (rn : Int)) none = ⟨(cs.drop rn).toArray⟩ := cut_hi cs rn hr
      rw [e1]
      have l1 : (⟨(cs.take rn).toArray⟩ : Str).length ≤ 5 := by show (cs.take rn).toArray.size ≤ 5; simp; omega
      have l2 : (⟨(cs.drop rn).toArray⟩ : Str).length ≤ 5 := by show (cs.drop rn).toArray.size ≤ 5; simp; omega
      refine ⟨sz_le ?_, _, rfl, _, rfl, rn, rfl, by rw [hsl]; exact sz_le (by omega), ?_⟩
      · show _ + 1 ≤ 1000000
        omega
      · rw [e2]
        have l3 : ((⟨(cs.take rn).toArray⟩ : Str) ++ (⟨#[L26.getD ((q + 7 * (j : Int)) % 26).toNat 0]⟩ : Str)).length ≤ 6 := by
          show ((cs.take rn).toArray ++ #[L26.getD ((q + 7 * (j : Int)) % 26).toNat 0]).size ≤ 6
          rw [Array.size_append]
          show (cs.take rn).toArray.size + 1 ≤ 6
          have : (cs.take rn).toArray.size ≤ 5 := l1
          omega
        refine ⟨sz_le (by omega), ?_⟩
        have e3 : (⟨(cs.take rn).toArray⟩ : Str) ++ (⟨#[L26.getD ((q + 7 * (j : Int)) % 26).toNat 0]⟩ : Str) ++ (⟨(cs.drop rn).toArray⟩ : Str) = ⟨(cand cs rn q j).toArray⟩ := by
          refine str_ext ?_
          show tl (_ ++ _ ++ _) = _
          rw [tl_append, tl_append]
          show cs.take rn ++ [L26.getD ((q + 7 * (j : Int)) % 26).toNat 0] ++ cs.drop rn = cand cs rn q j
          unfold cand
          simp
        rw [e3]
        exact hk'
  · have e4 : (intsD 0 ((nn : Int) + 2).toNat).map (fun d => match d with | .int j => D.str ⟨(cand cs rn q j.toNat).toArray⟩ | _ => .non) = ((List.range (nn + 2)).map fun j => (⟨(cand cs rn q j).toArray⟩ : Str)).map D.str := by
      unfold intsD
      rw [List.map_map, List.map_map, show ((nn : Int) + 2).toNat = nn + 2 by omega]
      refine List.map_congr_left fun j _ => ?_
      show D.str ⟨(cand cs rn q ((0 : Int) + (j : Int)).toNat).toArray⟩ = _
      rw [Int.zero_add, Int.toNat_natCast]
      rfl
    rw [List.nil_append, e4]
    refine ⟨_, rfl, ?_⟩
    have hln : (((List.range (nn + 2)).map fun j => (⟨(cand cs rn q j).toArray⟩ : Str)).map D.str).length = nn + 2 := by simp
    refine ⟨_, rfl, by rw [hln]; exact sz_le (by omega), ?_⟩
    refine lc_filter (fun d => !inF d (badW.map D.str)) (fun d => d) trivial (fun d hd => ?_) ?_
    · obtain ⟨w, _, rfl⟩ := List.mem_map.mp hd
      refine ⟨_, rfl, fun k' hk' => ?_, fun k' hk' => ⟨_, rfl, hk'⟩⟩
      exact ⟨_, rfl, by show 4 ≤ sizeLine; decide, badW.map D.str, rfl, rfl, rfl, _, rfl, hk'⟩
    · rw [List.nil_append, List.map_id', filter_strs]
      refine ⟨_, rfl, nn, rfl, _, rfl, ?_⟩
      rw [cut_strs]
      have e5 : (((List.range (nn + 2)).map fun j => (⟨(cand cs rn q j).toArray⟩ : Str)).filter fun w => !inF (.str w) (badW.map D.str)).take nn = named cs rn q nn := by
        unfold named
        congr 1
        refine List.filter_congr fun w _ => ?_
        rw [inF_strs]
        simp
      rw [e5]
      obtain ⟨w1, w2, w3⟩ := named_ok hcs (by omega) (r := rn) (q := q) (n := nn) (by omega)
      exact hk _ (by omega) w2 w3
end CM
namespace CM
open PySem L2 DL TL
/-! ### names of columns -/
def splitD (z : Str) : List Str := (spl [46] 0 [] (tl z)).map fun l => ⟨l.toArray⟩
theorem split_dot (z : Str) : Txt.split z "." = splitD z := by
  refine map_tl_inj ?_
  rw [split_spl z "." (by decide +kernel) (kind_ok (by decide +kernel))]
  unfold splitD
  rw [List.map_map]
  have e : tl "." = [46] := by decide +kernel
  rw [e]
  exact (List.map_id _).symm
theorem spl_no {l : List Nat} (h : 46 ∉ l) : ∀ acc : List Nat, spl [46] 0 acc l = [acc ++ l] := by
  induction l with
  | nil => intro acc; rw [spl_nil, List.append_nil]
  | cons c r ih =>
    intro acc
    rw [spl_miss (pre_of_head _ _ fun e => h (by rw [e]; exact List.mem_cons_self)), ih fun g => h (List.mem_cons_of_mem _ g), List.append_assoc]
    rfl
theorem spl_one {l r : List Nat} (h : 46 ∉ l) : ∀ acc : List Nat, spl [46] 0 acc (l ++ 46 :: r) = (acc ++ l) :: spl [46] 0 [] r := by
  induction l with
  | nil =>
    intro acc
    have e : spl [46] 0 acc (46 :: r) = acc :: spl [46] 0 [] r := spl_hit (pre_self [46] r)
    rw [List.nil_append, e, List.append_nil]
  | cons c l ih =>
    intro acc
    rw [List.cons_append, spl_miss (pre_of_head _ _ fun e => h (by rw [e]; exact List.mem_cons_self)), ih fun g => h (List.mem_cons_of_mem _ g), List.append_assoc]
    rfl
theorem spl_len : ∀ (l acc : List Nat), ∀ p ∈ spl [46] 0 acc l, p.length ≤ acc.length + l.length
  | [], acc, p, h => by
    rw [spl_nil] at h
    rw [List.mem_singleton.mp h]
    exact Nat.le_refl _
  | c :: r, acc, p, h => by
    cases q : pre [46] (c :: r) with
    | true =>
      rw [spl_hit q] at h
      rcases List.mem_cons.mp h with rfl | h
      · exact Nat.le_add_right _ _
      · have := spl_len r [] p h
        rw [List.length_nil] at this
        rw [List.length_cons]
        omega
    | false =>
      rw [spl_miss q] at h
      have := spl_len r (acc ++ [c]) p h
      rw [List.length_append, List.length_cons, List.length_nil] at this
      rw [List.length_cons]
      omega
theorem spl_many : ∀ (l acc : List Nat), (spl [46] 0 acc l).length ≤ 1 + l.length
  | [], acc => by rw [spl_nil]; exact Nat.le_refl _
  | c :: r, acc => by
    cases q : pre [46] (c :: r) with
    | true =>
      have e : spl [46] 0 acc (c :: r) = acc :: spl [46] 0 [] r := spl_hit q
      rw [e, List.length_cons, List.length_cons]
      have := spl_many r []
      omega
    | false =>
      rw [spl_miss q, List.length_cons]
      have := spl_many r (acc ++ [c])
      omega
def isColS (z : Str) : Bool := decide ((splitD z).length ≤ 2) && (splitD z).all isNameS
def isCol : D → Bool
  | .str z => isColS z
  | _ => false
theorem name_dot {w : Str} (h : isNameS w = true) : 46 ∉ tl w := fun hm => by
  unfold isNameS at h
  rw [Bool.and_eq_true, List.all_eq_true] at h
  have := h.2 46 hm
  rw [decide_eq_true_eq, letters_L] at this
  exact absurd this (by decide)
theorem col_name {w : Str} (h : isNameS w = true) : isColS w = true := by
  have e : splitD w = [w] := by
    unfold splitD
    rw [spl_no (name_dot h), List.nil_append]
    exact congrArg (fun x => [x]) (mk_tl w)
  unfold isColS
  rw [e, List.all_cons, h]
  rfl
theorem col_two {v w : Str} (hv : isNameS v = true) (hw : isNameS w = true) : isColS (v ++ "." ++ w) = true := by
  have e : splitD (v ++ "." ++ w) = [v, w] := by
    unfold splitD
    have e1 : tl "." = [46] := by decide +kernel
    rw [tl_append, tl_append, e1, List.append_assoc]
    show (spl [46] 0 [] (tl v ++ 46 :: tl w)).map _ = _
    rw [spl_one (name_dot hv), spl_no (name_dot hw), List.nil_append, List.nil_append, List.map_cons, List.map_cons, List.map_nil, mk_tl, mk_tl]
  unfold isColS
  rw [e, List.all_cons, List.all_cons, hv, hw]
  rfl
def sIsColName : MF := fun ds M k _ => ∃ d, ds = [d] ∧ tyN M d ∈ tys ∧ (∀ z, d = .str z → z.length ≤ 1000) ∧ k (.bl (isCol d)) M
/-! ### tests -/
def partsT : TabD := [("is", .int 3), ("has", .int 2), ("not", .int 2), ("and", .int 3), ("or", .int 3)]
def partsI (z : Str) : Int := if z = "is" then 3 else if z = "has" then 2 else if z = "not" then 2 else if z = "and" then 3 else if z = "or" then 3 else 0
theorem parts_get (z : Str) : (partsT.lookup z).getD (.int 0) = .int (partsI z) := by
  unfold partsT partsI
  simp only [List.lookup_cons, List.lookup_nil]
  have key : ∀ (y : Str) (n : Int) (o : Option D) (j : Int), o.getD (.int 0) = .int j → (match z == y with | true => some (D.int n) | false => o).getD (.int 0) = D.int (if z = y then n else j) := fun y n o j h => by
    by_cases e : z = y
    · rw [beq_iff_eq.mpr e, if_pos e]
      rfl
    · rw [beq_eq_false_iff_ne.mpr e, if_neg e]
      exact h
  exact key _ _ _ _ (key _ _ _ _ (key _ _ _ _ (key _ _ _ _ (key _ _ none 0 rfl))))
/-- value is a test of at most so many levels -/
def isT : Nat → D → Bool
  | n + 1, .tup (.str h :: ds) => decide (partsI h = ((.str h :: ds : List D).length : Int)) && if h = "is" then isCol (ds.getD 0 .non) && isName (ds.getD 1 .non) else if h = "has" then isName (ds.getD 0 .non) else ds.all (isT n)
  | _, _ => false
mutual
/-- plain data with short texts -/
def okD : Nat → D → Bool
  | 0, _ => false
  | _ + 1, .non => true
  | _ + 1, .bl _ => true
  | _ + 1, .int _ => true
  | _ + 1, .str z => decide (z.length ≤ 1000)
  | n + 1, .tup ds => decide (ds.length ≤ 1000) && okAll n ds
  | n + 1, .lst ds => decide (ds.length ≤ 1000) && okAll n ds
  | _ + 1, _ => false
def okAll : Nat → List D → Bool
  | _, [] => true
  | n, d :: ds => okD n d && okAll n ds
end
theorem okAll_mem {n : Nat} : ∀ {ds : List D}, okAll n ds = true → ∀ d ∈ ds, okD n d = true
  | [], _, d, h => by cases h
  | e :: es, h, d, hd => by
    rw [okAll, Bool.and_eq_true] at h
    rcases List.mem_cons.mp hd with rfl | hd
    · exact h.1
    · exact okAll_mem h.2 d hd
theorem ok_ty {n : Nat} {d : D} (M : Mh) (h : okD n d = true) : tyN M d ∈ tys := by
  cases n with
  | zero => rw [okD] at h; cases h
  | succ n =>
    cases d with
    | non => show "NoneType" ∈ tys; decide
    | bl _ => show "bool" ∈ tys; decide
    | int _ => show "int" ∈ tys; decide
    | str _ => show "str" ∈ tys; decide
    | tup _ => show "tuple" ∈ tys; decide
    | lst _ => show "list" ∈ tys; decide
    | ref a => simp [okD] at h
    | ty _ => simp [okD] at h
    | scr _ => simp [okD] at h
    | exc _ _ _ _ => simp [okD] at h
theorem ok_str {n : Nat} {d : D} (h : okD n d = true) : ∀ z, d = .str z → z.length ≤ 1000 := fun z e => by
  subst e
  cases n with
  | zero => rw [okD] at h; cases h
  | succ n => rw [okD] at h; simpa using h
mutual
theorem okD_up : ∀ (n : Nat) (d : D), okD n d = true → okD (n + 1) d = true
  | 0, _, h => by rw [okD] at h; cases h
  | n + 1, .non, _ => by rw [okD]
  | n + 1, .bl _, _ => by rw [okD]
  | n + 1, .int _, _ => by rw [okD]
  | n + 1, .str z, h => by rw [okD] at h ⊢; exact h
  | n + 1, .tup ds, h => by
    rw [okD, Bool.and_eq_true] at h ⊢
    exact ⟨h.1, okAll_up n ds h.2⟩
  | n + 1, .lst ds, h => by
    rw [okD, Bool.and_eq_true] at h ⊢
    exact ⟨h.1, okAll_up n ds h.2⟩
  | n + 1, .ref _, h => by simp [okD] at h
  | n + 1, .ty _, h => by simp [okD] at h
  | n + 1, .scr _, h => by simp [okD] at h
  | n + 1, .exc _ _ _ _, h => by simp [okD] at h
theorem okAll_up : ∀ (n : Nat) (ds : List D), okAll n ds = true → okAll (n + 1) ds = true
  | _, [], _ => by rw [okAll]
  | n, d :: ds, h => by
    rw [okAll, Bool.and_eq_true] at h ⊢
    exact ⟨okD_up n d h.1, okAll_up n ds h.2⟩
end
theorem okD_le {n m : Nat} (hm : n ≤ m) {d : D} (h : okD n d = true) : okD m d = true := by
  induction hm with
  | refl => exact h
  | step _ ih => exact okD_up _ _ ih
def sIsTest (n : Nat) : MF := fun ds M k _ => ∃ (d : D) (m j : Nat), ds = [d, .int (m : Int)] ∧ m < n ∧ okD j d = true ∧ k (.bl (isT m d)) M
/-- a test that is drawn, of just so many levels -/
inductive FT : Nat → D → Prop
  | is {c w : Str} : isColS c = true → c.length ≤ 1000 → isNameS w = true → FT 1 (.tup [.str "is", .str c, .str w])
  | has {w : Str} : isNameS w = true → FT 1 (.tup [.str "has", .str w])
  | not {n : Nat} {d : D} : FT n d → FT (n + 1) (.tup [.str "not", d])
  | two {n m : Nat} {h : Str} {d e : D} : h = "and" ∨ h = "or" → FT n d → FT m e → m ≤ n → FT (n + 1) (.tup [.str h, d, e])
  | owt {n m : Nat} {h : Str} {d e : D} : h = "and" ∨ h = "or" → FT n d → FT m e → m ≤ n → FT (n + 1) (.tup [.str h, e, d])
theorem FT.pos {n : Nat} {d : D} (h : FT n d) : 1 ≤ n := by cases h <;> omega
theorem isNameS_len {w : Str} (h : isNameS w = true) : 1 ≤ w.length ∧ w.length ≤ 6 := by
  unfold isNameS at h
  rw [Bool.and_eq_true, Bool.and_eq_true, decide_eq_true_eq, decide_eq_true_eq] at h
  exact h.1
theorem is_not {m : Nat} {d : D} : isT (m + 1) (.tup [.str "not", d]) = isT m d := by
  show (true && (isT m d && true)) = _
  rw [Bool.true_and, Bool.and_true]
theorem is_two {m : Nat} {h : Str} (hh : h = "and" ∨ h = "or") {d e : D} : isT (m + 1) (.tup [.str h, d, e]) = (isT m d && isT m e) := by
  rcases hh with rfl | rfl
  · show (true && (isT m d && (isT m e && true))) = _
    rw [Bool.true_and, Bool.and_true]
  · show (true && (isT m d && (isT m e && true))) = _
    rw [Bool.true_and, Bool.and_true]
theorem is_is {m : Nat} {c w : D} : isT (m + 1) (.tup [.str "is", c, w]) = (isCol c && isName w) := by
  show (true && (isCol c && isName w)) = _
  rw [Bool.true_and]
theorem is_has {m : Nat} {w : D} : isT (m + 1) (.tup [.str "has", w]) = isName w := by
  show (true && isName w) = _
  rw [Bool.true_and]
theorem FT.isT {n : Nat} {d : D} (h : FT n d) : ∀ m, CM.isT m d = decide (n ≤ m) := by
  have pos := h.pos
  intro m
  cases m with
  | zero => rw [decide_eq_false (by omega)]; cases h <;> rfl
  | succ m =>
    induction h generalizing m with
    | is h1 _ h2 =>
      rw [is_is]
      show (isColS _ && isNameS _) = _
      rw [h1, h2, decide_eq_true (by omega)]
      rfl
    | has h1 =>
      rw [is_has]
      show isNameS _ = _
      rw [h1, decide_eq_true (by omega)]
    | @not n d h ih =>
      rw [is_not]
      cases m with
      | zero =>
        have := h.pos
        rw [decide_eq_false (by omega)]
        cases h <;> rfl
      | succ m =>
        rw [ih h.pos]
        exact decide_eq_decide.mpr (by omega)
    | @two n m' hd d e hh h1 h2 hl ih1 ih2 =>
      rw [is_two hh]
      cases m with
      | zero =>
        have := h1.pos
        rw [decide_eq_false (by omega)]
        cases h1 <;> rfl
      | succ m =>
        rw [ih1 h1.pos, ih2 h2.pos]
        by_cases g : n ≤ m + 1
        · rw [decide_eq_true g, decide_eq_true (by omega), decide_eq_true (by omega)]; rfl
        · rw [decide_eq_false g, decide_eq_false (show ¬ n + 1 ≤ m + 1 + 1 by omega)]; rfl
    | @owt n m' hd d e hh h1 h2 hl ih1 ih2 =>
      rw [is_two hh]
      cases m with
      | zero =>
        have := h1.pos
        rw [decide_eq_false (by omega)]
        cases h2 <;> rfl
      | succ m =>
        rw [ih1 h1.pos, ih2 h2.pos]
        by_cases g : n ≤ m + 1
        · rw [decide_eq_true g, decide_eq_true (show m' ≤ m + 1 by omega), decide_eq_true (by omega)]; rfl
        · rw [decide_eq_false g, decide_eq_false (show ¬ n + 1 ≤ m + 1 + 1 by omega), Bool.and_false]
theorem len_and : ("and" : Str).length = 3 := by decide +kernel
theorem len_or : ("or" : Str).length = 2 := by decide +kernel
theorem hd_len {h : Str} (hh : h = "and" ∨ h = "or") : decide (h.length ≤ 1000) = true := by
  rcases hh with rfl | rfl
  · rw [len_and]; rfl
  · rw [len_or]; rfl
theorem l_is : decide (("is" : Str).length ≤ 1000) = true := by decide +kernel
theorem l_has : decide (("has" : Str).length ≤ 1000) = true := by decide +kernel
theorem l_not : decide (("not" : Str).length ≤ 1000) = true := by decide +kernel
theorem FT.ok {n : Nat} {d : D} (h : FT n d) : okD (n + 1) d = true := by
  induction h with
  | is _ h1 h2 =>
    have := isNameS_len h2
    simp only [okD, okAll, List.length_cons, List.length_nil]
    rw [decide_eq_true h1, l_is, decide_eq_true (show (_ : Str).length ≤ 1000 from Nat.le_trans this.2 (by decide))]
    rfl
  | has h2 =>
    have := isNameS_len h2
    simp only [okD, okAll, List.length_cons, List.length_nil]
    rw [l_has, decide_eq_true (show (_ : Str).length ≤ 1000 from Nat.le_trans this.2 (by decide))]
    rfl
  | not h ih =>
    simp only [okD, okAll, List.length_cons, List.length_nil, ih, l_not]
    rfl
  | two hh h1 h2 hl ih1 ih2 =>
    have := okD_le (show _ ≤ _ by exact Nat.succ_le_succ hl) ih2
    simp only [okD, okAll, List.length_cons, List.length_nil, ih1, this]
    rw [hd_len hh]
    rfl
  | owt hh h1 h2 hl ih1 ih2 =>
    have := okD_le (show _ ≤ _ by exact Nat.succ_le_succ hl) ih2
    simp only [okD, okAll, List.length_cons, List.length_nil, ih1, this]
    rw [hd_len hh]
    rfl
/-- five names -/
def Five (d : D) (w0 w1 w2 w3 w4 : Str) : Prop := d = .lst [.str w0, .str w1, .str w2, .str w3, .str w4] ∧ isNameS w0 = true ∧ isNameS w1 = true ∧ isNameS w2 = true ∧ isNameS w3 = true ∧ isNameS w4 = true
def sFree (n : Nat) : MF := fun ds M k _ => ∃ b d w0 w1 w2 w3 w4, ∃ m : Nat, ds = [.ref b, d, .int (m : Int)] ∧ M b = some .box ∧ Five d w0 w1 w2 w3 w4 ∧ 1 ≤ m ∧ m ≤ n ∧ ∀ t, FT m t → k t M
/-- what is no test -/
def NT (d : D) : Prop := (∀ m, isT m d = false) ∧ ∃ j, okD j d = true
def sBent (n : Nat) : MF := fun ds M k _ => ∃ b t ws, ∃ m : Nat, ds = [.ref b, t, ws] ∧ M b = some .box ∧ FT m t ∧ m ≤ n ∧ ∀ d, NT d → k d M
end CM
namespace CM
open PySem L2 DL TL
/-! ### tests that are drawn, over five names -/
inductive GT (w0 w1 w2 w3 w4 : Str) : Nat → D → Prop
  | is {c : Str} : c = w0 ∨ c = w1 ∨ c = w2 ++ "." ++ w0 → GT w0 w1 w2 w3 w4 1 (.tup [.str "is", .str c, .str w3])
  | has : GT w0 w1 w2 w3 w4 1 (.tup [.str "has", .str w4])
  | not {n : Nat} {d : D} : GT w0 w1 w2 w3 w4 n d → GT w0 w1 w2 w3 w4 (n + 1) (.tup [.str "not", d])
  | two {n m : Nat} {h : Str} {d e : D} : h = "and" ∨ h = "or" → GT w0 w1 w2 w3 w4 n d → GT w0 w1 w2 w3 w4 m e → m ≤ n → GT w0 w1 w2 w3 w4 (n + 1) (.tup [.str h, d, e])
  | owt {n m : Nat} {h : Str} {d e : D} : h = "and" ∨ h = "or" → GT w0 w1 w2 w3 w4 n d → GT w0 w1 w2 w3 w4 m e → m ≤ n → GT w0 w1 w2 w3 w4 (n + 1) (.tup [.str h, e, d])
theorem GT.pos {w0 w1 w2 w3 w4 : Str} {n : Nat} {d : D} (h : GT w0 w1 w2 w3 w4 n d) : 1 ≤ n := by cases h <;> omega
theorem dot1 : ("." : Str).length = 1 := by decide +kernel
theorem col_len {w0 w2 : Str} : (w2 ++ "." ++ w0).length = w2.length + 1 + w0.length := by
  rw [len_tl, tl_append, tl_append, List.length_append, List.length_append, ← len_tl, ← len_tl, ← len_tl, dot1]
theorem GT.ft {w0 w1 w2 w3 w4 : Str} {n : Nat} {d : D} (g0 : isNameS w0 = true) (g1 : isNameS w1 = true) (g2 : isNameS w2 = true) (g3 : isNameS w3 = true) (g4 : isNameS w4 = true) (h : GT w0 w1 w2 w3 w4 n d) : FT n d := by
  have l0 := isNameS_len g0
  have l1 := isNameS_len g1
  have l2 := isNameS_len g2
  induction h with
  | is hc =>
    rcases hc with rfl | rfl | rfl
    · exact .is (col_name g0) (by omega) g3
    · exact .is (col_name g1) (by omega) g3
    · exact .is (col_two g2 g0) (by rw [col_len]; omega) g3
  | has => exact .has g4
  | not _ ih => exact .not ih
  | two hh _ _ hl ih1 ih2 => exact .two hh ih1 ih2 hl
  | owt hh _ _ hl ih1 ih2 => exact .owt hh ih1 ih2 hl
def sGrow (n : Nat) : MF := fun ds M k _ => ∃ b d w0 w1 w2 w3 w4, ∃ m : Nat, ds = [.ref b, d, .int (m : Int)] ∧ M b = some .box ∧ Five d w0 w1 w2 w3 w4 ∧ 1 ≤ m ∧ m ≤ n ∧ ∀ t, GT w0 w1 w2 w3 w4 m t → k t M
def b__law_free_test (s : MF) : MS := (mSeq (mIfS (mTest (mOp dEq (mVar 2) (mC (.int 1)))) (mSeq (mAsg (mCall sOf (mCons (mVar 0) (mCons (mLst (mCons (mOp dIx (mVar 1) (mC (.int 0))) (mCons (mOp dIx (mVar 1) (mC (.int 1))) (mCons (mOp dAdd (mOp dAdd (mOp dIx (mVar 1) (mC (.int 2))) (mC (.str "."))) (mOp dIx (mVar 1) (mC (.int 0)))) mNil)))) mNil))) (.nm 3)) (mRet (mIf (mTest (mOp dGt (mCall sPull (mCons (mVar 0) (mCons (mC (.int 3)) mNil))) (mC (.int 0)))) (mTup (mCons (mC (.str "is")) (mCons (mVar 3) (mCons (mOp dIx (mVar 1) (mC (.int 3))) mNil)))) (mTup (mCons (mC (.str "has")) (mCons (mOp dIx (mVar 1) (mC (.int 4))) mNil)))))) mNext) (mSeq (mPar 4 5 (mCons (mCall sPull (mCons (mVar 0) (mCons (mC (.int 3)) mNil))) (mCons (mCall s (mCons (mVar 0) (mCons (mVar 1) (mCons (mOp dSub (mVar 2) (mC (.int 1))) mNil)))) mNil))) (mSeq (mIfS (mTest (mOp dEq (mVar 4) (mC (.int 0)))) (mRet (mTup (mCons (mC (.str "not")) (mCons (mVar 5) mNil)))) mNext) (mSeq (mAsg (mCall s (mCons (mVar 0) (mCons (mVar 1) (mCons (mOp dAdd (mC (.int 1)) (mCall sPull (mCons (mVar 0) (mCons (mCB cMin (mCons (mOp dSub (mVar 2) (mC (.int 1))) (mCons (mC (.int 2)) mNil))) mNil)))) mNil)))) (.nm 6)) (mRet (mIf (mTest (mOp dEq (mCall sPull (mCons (mVar 0) (mCons (mC (.int 2)) mNil))) (mC (.int 0)))) (mTup (mCons (mOp dIx (mLst (mCons (mC (.str "and")) (mCons (mC (.str "or")) mNil))) (mOp dSub (mVar 4) (mC (.int 1)))) (mCons (mVar 5) (mCons (mVar 6) mNil)))) (mTup (mCons (mOp dIx (mLst (mCons (mC (.str "and")) (mCons (mC (.str "or")) mNil))) (mOp dSub (mVar 4) (mC (.int 1)))) (mCons (mVar 6) (mCons (mVar 5) mNil))))))))))
theorem grow_ok (n : Nat) (ds : List D) (M : Mh) (k : DK) (kx : XKd) (h : sGrow (n + 1) ds M k kx) : b__law_free_test (sGrow n) { nx := fun _ M' => k .non M', rt := k } (startD 7 ds) M noX := by
  obtain ⟨b, d, w0, w1, w2, w3, w4, m, rfl, hb, ⟨rfl, g0, g1, g2, g3, g4⟩, h1, hn, hk⟩ := h
  have l0 := isNameS_len g0
  have l1 := isNameS_len g1
  have l2 := isNameS_len g2
  have dl : ("." : Str).length = 1 := by decide +kernel
  have l3 : (w2 ++ ".").length = w2.length + 1 := by rw [len_tl, tl_append, List.length_append, ← len_tl, ← len_tl, dl]
  have l4 : (w2 ++ "." ++ w0).length = w2.length + 1 + w0.length := by rw [len_tl, tl_append, List.length_append, ← len_tl, ← len_tl, l3]
  unfold b__law_free_test
  refine ⟨_, rfl, _, rfl, ?_⟩
  by_cases hm : m = 1
  · subst hm
    refine ⟨_, rfl, _, rfl, 0, _, _, rfl, rfl, rfl, _, rfl, 1, _, _, rfl, rfl, rfl, _, rfl, 2, _, _, rfl, rfl, rfl, sz_le (by omega), _, rfl, 0, _, _, rfl, rfl, rfl, sz_le (by omega), sz_le (by show 3 ≤ 1000000; decide), ?_⟩
    refine ⟨b, _, _, rfl, hb, rfl, by show 0 < 3; decide, by show 3 ≤ 1000000; decide, fun x hx => ⟨_, rfl, ?_⟩⟩
    obtain ⟨c, rfl, c1⟩ : ∃ c : Str, x = .str c ∧ (c = w0 ∨ c = w1 ∨ c = w2 ++ "." ++ w0) := by
      simp only [List.mem_cons, List.not_mem_nil, or_false] at hx
      rcases hx with rfl | rfl | rfl
      · exact ⟨_, rfl, .inl rfl⟩
      · exact ⟨_, rfl, .inr (.inl rfl)⟩
      · exact ⟨_, rfl, .inr (.inr rfl)⟩
    refine ⟨_, rfl, b, 3, rfl, hb, by decide, by decide, fun r r1 r2 => ⟨_, _, rfl, rfl, trivial, _, rfl, ?_⟩⟩
    by_cases hr : 0 < r
    · rw [decide_eq_true hr]
      exact ⟨_, rfl, _, rfl, 3, _, _, rfl, rfl, rfl, sz_le (by show 3 ≤ 1000000; decide), hk _ (.is c1)⟩
    · rw [decide_eq_false hr]
      exact ⟨_, rfl, 4, _, _, rfl, rfl, rfl, sz_le (by show 2 ≤ 1000000; decide), hk _ .has⟩
  · obtain ⟨m, rfl⟩ : ∃ m' : Nat, m = m' + 1 := ⟨m - 1, by omega⟩
    rw [show (if false = true then !decide (((m + 1 : Nat) : Int) = 1) else decide (((m + 1 : Nat) : Int) = 1)) = false from decide_eq_false (by omega)]
    have five : Five (.lst [.str w0, .str w1, .str w2, .str w3, .str w4]) w0 w1 w2 w3 w4 := ⟨rfl, g0, g1, g2, g3, g4⟩
    have em : ((m + 1 : Nat) : Int) - 1 = (m : Int) := by omega
    refine ⟨_, rfl, b, 3, rfl, hb, by decide, by decide, fun way q1 q2 => ?_⟩
    refine ⟨_, rfl, _, rfl, _, rfl, _, _, rfl, rfl, trivial, b, _, w0, w1, w2, w3, w4, m, by show [D.ref b, _, D.int (((m + 1 : Nat) : Int) - 1)] = _; rw [em], hb, five, by omega, by omega, fun part hp => ⟨_, _, rfl, ?_⟩⟩
    refine ⟨_, rfl, _, rfl, ?_⟩
    by_cases hw : way = 0
    · subst hw
      exact ⟨_, rfl, sz_le (by show 2 ≤ 1000000; decide), hk _ (.not hp)⟩
    · rw [show (if false = true then !decide (way = 0) else decide (way = 0)) = false from decide_eq_false hw]
      refine ⟨_, rfl, _, rfl, _, rfl, _, rfl, _, _, rfl, rfl, trivial, _, _, rfl, ?_⟩
      have hmin : 0 < (if (2 : Int) < ((m + 1 : Nat) : Int) - 1 then 2 else ((m + 1 : Nat) : Int) - 1) ∧ (if (2 : Int) < ((m + 1 : Nat) : Int) - 1 then 2 else ((m + 1 : Nat) : Int) - 1) ≤ m ∧ (if (2 : Int) < ((m + 1 : Nat) : Int) - 1 then 2 else ((m + 1 : Nat) : Int) - 1) ≤ 2 := by
        split <;> omega
      dsimp only
      generalize (if (2 : Int) < ((m + 1 : Nat) : Int) - 1 then 2 else ((m + 1 : Nat) : Int) - 1) = mn at hmin
      refine ⟨b, mn, rfl, hb, by omega, by omega, fun r r1 r2 => ?_⟩
      obtain ⟨rn, rfl⟩ : ∃ rn : Nat, r = (rn : Int) := ⟨r.toNat, by omega⟩
      refine ⟨b, _, w0, w1, w2, w3, w4, rn + 1, by show [D.ref b, _, D.int (1 + (rn : Int))] = _; rw [show 1 + (rn : Int) = ((rn + 1 : Nat) : Int) by omega], hb, five, by omega, by omega, fun other ho => ⟨_, rfl, ?_⟩⟩
      refine ⟨_, rfl, b, 2, rfl, hb, by decide, by decide, fun r3 _ _ => ⟨_, rfl, ?_⟩⟩
      have hw2 : way = 1 ∨ way = 2 := by omega
      by_cases h3 : r3 = 0
      · rw [show (if false = true then !decide (r3 = 0) else decide (r3 = 0)) = true from decide_eq_true h3]
        rcases hw2 with rfl | rfl
        · exact ⟨sz_le (by show 2 ≤ 1000000; decide), _, rfl, _, _, rfl, rfl, trivial, 0, _, _, rfl, rfl, rfl, _, rfl, _, rfl, sz_le (by show 3 ≤ 1000000; decide), hk _ (.two (.inl rfl) hp ho (by omega))⟩
        · exact ⟨sz_le (by show 2 ≤ 1000000; decide), _, rfl, _, _, rfl, rfl, trivial, 1, _, _, rfl, rfl, rfl, _, rfl, _, rfl, sz_le (by show 3 ≤ 1000000; decide), hk _ (.two (.inr rfl) hp ho (by omega))⟩
      · rw [show (if false = true then !decide (r3 = 0) else decide (r3 = 0)) = false from decide_eq_false h3]
        rcases hw2 with rfl | rfl
        · exact ⟨sz_le (by show 2 ≤ 1000000; decide), _, rfl, _, _, rfl, rfl, trivial, 0, _, _, rfl, rfl, rfl, _, rfl, _, rfl, sz_le (by show 3 ≤ 1000000; decide), hk _ (.owt (.inl rfl) hp ho (by omega))⟩
        · exact ⟨sz_le (by show 2 ≤ 1000000; decide), _, rfl, _, _, rfl, rfl, trivial, 1, _, _, rfl, rfl, rfl, _, rfl, _, rfl, sz_le (by show 3 ≤ 1000000; decide), hk _ (.owt (.inr rfl) hp ho (by omega))⟩

/-! ### what a test says of a row -/
def trIs (kvs : List (Key × D)) : D → D → Bool
  | .str c, .str w => eqS ((getG kvs (.inr c)).getD .non) (.str w) == some true
  | _, _ => false
def blOf : Option D → Bool
  | some (.bl b) => b
  | _ => false
def trHas (kvs : List (Key × D)) : D → Bool
  | .str c => blOf (getG kvs (.inr c))
  | _ => false
def tr (kvs : List (Key × D)) : Nat → D → Bool
  | n + 1, .tup (.str h :: ds) => if h = "is" then trIs kvs (ds.getD 0 .non) (ds.getD 1 .non) else if h = "has" then trHas kvs (ds.getD 0 .non) else if h = "not" then !tr kvs n (ds.getD 0 .non) else if h = "and" then ds.all (tr kvs n) else ds.any (tr kvs n)
  | _, _ => false
section
variable {kvs : List (Key × D)} {n : Nat} {c d e : D}
theorem tr_is : tr kvs (n + 1) (.tup [.str "is", c, d]) = trIs kvs c d := rfl
theorem tr_has : tr kvs (n + 1) (.tup [.str "has", c]) = trHas kvs c := rfl
theorem tr_not : tr kvs (n + 1) (.tup [.str "not", c]) = !tr kvs n c := rfl
theorem tr_and : tr kvs (n + 1) (.tup [.str "and", c, d]) = (tr kvs n c && tr kvs n d) := by
  show (tr kvs n c && (tr kvs n d && true)) = _
  rw [Bool.and_true]
theorem tr_or : tr kvs (n + 1) (.tup [.str "or", c, d]) = (tr kvs n c || tr kvs n d) := by
  show (tr kvs n c || (tr kvs n d || false)) = _
  rw [Bool.or_false]
end
theorem tr_up {kvs : List (Key × D)} {w0 w1 w2 w3 w4 : Str} {m : Nat} {t : D} (h : GT w0 w1 w2 w3 w4 m t) : ∀ n, m ≤ n → tr kvs (n + 1) t = tr kvs n t := by
  induction h with
  | is hc =>
    intro n hn
    obtain ⟨n, rfl⟩ : ∃ k, n = k + 1 := ⟨n - 1, by omega⟩
    rw [tr_is, tr_is]
  | has =>
    intro n hn
    obtain ⟨n, rfl⟩ : ∃ k, n = k + 1 := ⟨n - 1, by omega⟩
    rw [tr_has, tr_has]
  | not _ ih =>
    intro n hn
    obtain ⟨n, rfl⟩ : ∃ k, n = k + 1 := ⟨n - 1, by omega⟩
    rw [tr_not, tr_not, ih n (by omega)]
  | two hh _ _ hl ih1 ih2 =>
    intro n hn
    obtain ⟨n, rfl⟩ : ∃ k, n = k + 1 := ⟨n - 1, by omega⟩
    rcases hh with rfl | rfl
    · rw [tr_and, tr_and, ih1 n (by omega), ih2 n (by omega)]
    · rw [tr_or, tr_or, ih1 n (by omega), ih2 n (by omega)]
  | owt hh _ _ hl ih1 ih2 =>
    intro n hn
    obtain ⟨n, rfl⟩ : ∃ k, n = k + 1 := ⟨n - 1, by omega⟩
    rcases hh with rfl | rfl
    · rw [tr_and, tr_and, ih1 n (by omega), ih2 n (by omega)]
    · rw [tr_or, tr_or, ih1 n (by omega), ih2 n (by omega)]
def RowOk (w4 : Str) (kvs : List (Key × D)) : Prop := (∀ p ∈ kvs, flat p.2 = true) ∧ ∀ x, getG kvs (.inr w4) = some x → ∃ b, x = .bl b
theorem getG_mem {j : Key} : ∀ {kvs : List (Key × D)} {x : D}, getG kvs j = some x → ∃ p ∈ kvs, p.2 = x
  | [], x, h => by cases h
  | p :: r, x, h => by
    by_cases e : p.1 = j
    · rw [getG_pos e] at h
      exact ⟨p, List.mem_cons_self, Option.some.inj h⟩
    · rw [getG_neg e] at h
      obtain ⟨q, h1, h2⟩ := getG_mem h
      exact ⟨q, List.mem_cons_of_mem _ h1, h2⟩
theorem eq_flat {d : D} {w : Str} {M : Mh} {k : DK} (h : flat d = true) (hk : k (.bl (eqS d (.str w) == some true)) M) : dEqB false d (.str w) M k := by
  cases d with
  | non => exact hk
  | bl _ => exact hk
  | int _ => exact hk
  | str z =>
    have e : (some (decide (z = w)) == some true) = decide (z = w) := by cases decide (z = w) <;> rfl
    have hk : k (.bl (some (decide (z = w)) == some true)) M := hk
    rw [e] at hk
    exact hk
  | _ => cases h
def sHolds (n : Nat) : MF := fun ds M k _ => ∃ w0 w1 w2 w3 w4 t a kvs, ∃ m : Nat, ds = [t, .ref a] ∧ M a = some (.dct kvs) ∧ RowOk w4 kvs ∧ GT w0 w1 w2 w3 w4 m t ∧ m ≤ n ∧ k (.bl (tr kvs n t)) M
def sTruth (n : Nat) : MF := sHolds n
/-! ### a dict that grows -/
theorem getG_map (k j : Key) (d : D) : ∀ kvs : List (Key × D), getG (kvs.map fun kv => if kv.1 = k then (kv.1, d) else kv) j = (getG kvs j).map fun x => if j = k then d else x
  | [] => rfl
  | p :: r => by
    have ih := getG_map k j d r
    rw [List.map_cons]
    by_cases h : p.1 = k
    · rw [if_pos h]
      by_cases e : p.1 = j
      · rw [getG_pos (p := (p.1, d)) e, getG_pos e, Option.map_some, if_pos (e.symm.trans h)]
      · rw [getG_neg (p := (p.1, d)) e, getG_neg e, ih]
    · rw [if_neg h]
      by_cases e : p.1 = j
      · rw [getG_pos (p := p) e, getG_pos e, Option.map_some, if_neg (fun z => h (e.trans z))]
      · rw [getG_neg (p := p) e, getG_neg e, ih]
theorem getG_other {k j : Key} (h : j ≠ k) (d : D) : ∀ kvs : List (Key × D), getG (kvs ++ [(k, d)]) j = getG kvs j
  | [] => getG_neg (p := (k, d)) (r := []) fun e => h e.symm
  | p :: r => by
    rw [List.cons_append]
    by_cases e : p.1 = j
    · rw [getG_pos e, getG_pos e]
    · rw [getG_neg e, getG_neg e, getG_other h d r]
theorem getG_put_ne {k j : Key} (h : j ≠ k) (d : D) (kvs : List (Key × D)) : getG (putG kvs k d) j = getG kvs j := by
  unfold putG
  split
  · rw [getG_map]
    simp only [if_neg h]
    cases getG kvs j <;> rfl
  · exact getG_other h d kvs
theorem put_flat {k : Key} {d : D} {kvs : List (Key × D)} (hd : flat d = true) (h : ∀ p ∈ kvs, flat p.2 = true) : ∀ p ∈ putG kvs k d, flat p.2 = true := by
  intro p hp
  unfold putG at hp
  split at hp
  · obtain ⟨q, h1, h2⟩ := List.mem_map.mp hp
    split at h2
    · rw [← h2]; exact hd
    · rw [← h2]; exact h q h1
  · rcases List.mem_append.mp hp with hp | hp
    · exact h p hp
    · rw [List.mem_singleton.mp hp]; exact hd
theorem put_len (kvs : List (Key × D)) (k : Key) (d : D) : (putG kvs k d).length ≤ kvs.length + 1 := by
  unfold putG
  split
  · rw [List.length_map]; omega
  · rw [List.length_append]; exact Nat.le_refl _
theorem put_nd {k : Key} {d : D} {kvs : List (Key × D)} (h : (kvs.map (·.1)).Nodup) : ((putG kvs k d).map (·.1)).Nodup := by
  unfold putG
  split
  · rw [List.map_map]
    have e : ((fun p : Key × D => p.1) ∘ fun kv => if kv.1 = k then (kv.1, d) else kv) = fun p => p.1 := by
      funext p
      show (if p.1 = k then (p.1, d) else p).1 = p.1
      split <;> rfl
    rw [e]
    exact h
  · rename_i hn
    rw [List.map_append, List.nodup_append]
    refine ⟨h, by simp, fun a ha b hb e => ?_⟩
    simp only [List.map_cons, List.map_nil, List.mem_singleton] at hb
    subst e hb
    obtain ⟨p, h1, h2⟩ := List.mem_map.mp ha
    exact hn (List.any_eq_true.mpr ⟨p, h1, decide_eq_true h2⟩)
theorem getG_put_some {k : Key} {d : D} : ∀ {kvs : List (Key × D)} {x : D}, getG (putG kvs k d) k = some x → x = d := by
  intro kvs x h
  unfold putG at h
  split at h
  · rw [getG_map] at h
    cases q : getG kvs k with
    | none => rw [q] at h; cases h
    | some y =>
      rw [q] at h
      simp only [Option.map_some, if_true] at h
      exact (Option.some.inj h).symm
  · rename_i hn
    have key : ∀ l : List (Key × D), ¬ (l.any fun kv => decide (kv.1 = k)) = true → getG (l ++ [(k, d)]) k = some d := fun l => by
      induction l with
      | nil => intro _; exact getG_pos (p := (k, d)) rfl
      | cons p r ih =>
        intro hl
        rw [List.any_cons, Bool.or_eq_true, not_or] at hl
        rw [List.cons_append, getG_neg (p := p) (fun e => hl.1 (decide_eq_true e))]
        exact ih hl.2
    rw [key kvs hn] at h
    exact (Option.some.inj h).symm
theorem for_invN {t : Tg} {G : Mh → Prop} {body : MS} {De : DEnds} {kx : XKd} (P : Nat → DL.Env → Mh → Prop) : ∀ (ds : List D) {Γ : DL.Env} {M : Mh}, P ds.length Γ M →
    (∀ d ∈ ds, ∀ n Γ M, P (n + 1) Γ M → G M ∧ ∃ Γ1, bindT t d Γ = some Γ1 ∧ ∀ nx : DL.Env → Mh → Prop, (∀ Γ2 M2, P n Γ2 M2 → nx Γ2 M2) → body { De with nx := nx, ct := nx, bk := De.nx } Γ1 M kx) →
    (∀ Γ M, P 0 Γ M → G M ∧ De.nx Γ M) → loopFor t G body De kx ds Γ M
  | [], Γ, M, h, _, he => he Γ M h
  | d :: ds, Γ, M, h, hs, he => by
    obtain ⟨g, Γ1, e, hb⟩ := hs d List.mem_cons_self ds.length Γ M h
    exact ⟨g, Γ1, e, hb _ fun Γ2 M2 h2 => for_invN P ds h2 (fun d' hd => hs d' (List.mem_cons_of_mem _ hd)) he⟩
end CM
set_option maxHeartbeats 4000000
/-! super().__init__(..) in the hand layer -/
namespace DX
open PySem PySem.Spec PyProof.Rows L2
section
variable {X : Cx} {pins : List (Addr × Obj)} {σ : L2.St} {H : Hp} {s : Shared} {E : Value → Shared → Prop}
/-- what the written part says of a def that says super() -/
structure SupDef (X : Cx) (f cda cc D : Addr) (fd : FuncData) (slf : Str) : Prop where
  fn : ∃ oc od osl, X.K.lookup f = some ⟨oc, od, .func fd, osl⟩
  par : ∃ ar, (fd.params.posonlyargs ++ fd.params.args).head? = some ar ∧ ar.arg = slf
  code : ∃ ccl cdd vs ccs file tf, X.K.lookup cda = some ⟨ccl, cdd, .fields vs, ccs⟩ ∧ vs[2]? = some (.str file tf) ∧ ((X.prog.main.file : Str) == file) = true
  cell : ∃ cl cld csl, X.K.lookup cc = some ⟨cl, cld, .cell (some (.ref D)), csl⟩
  cls : ∃ cdD, PySem.W.clsIn X.K D = some cdD
  top : (X.prog.main.scope.names.lookup ("super" : Str)).isSome = false
  mg : X.mg "super" = none
theorem boot_super : bootBuiltins "super" = some (.type "super") := by decide +kernel
/-- super(): a new super object -/
theorem at_super {f cda cc D x C : Addr} {fd : FuncData} {slf : Str} {body : List Stmt} {ox : Obj} {p0 p1 : Pos} {attr : Str} {whole : Sem Value} {Q : Value → Shared → Prop} (I : Inv X pins σ H s) (T : SupDef X f cda cc D fd slf)
    (e1 : X.env.func = some f) (e2 : X.env.code = .ref cda) (e3 : X.env.cells = [(("__class__" : Str), cc)])
    (hN : X.N[0]? = some slf) (hv : σ[0]? = some (some (.ref x))) (hl : X.env.scope.names.lookup slf = some .local)
    (hks : X.env.kindOf "super" = some .globalImplicit) (hkc : X.env.kindOf "__class__" = some .free)
    (hx : s.heap.get? x = some ox) (hxc : ox.cls = .ref C) (hnc : ∀ c, ox.data ≠ .cls c) (hsub : PySem.W.mroIn X.K C (.ref D) = some true) (hat : (attr == ("__class__" : Str)) = false)
    (h : ∀ so h', (∀ b o, s.heap.get? b = some o → h'.get? b = some o) → h'.get? so = some (PySem.W.ks_superObj D x C) → s.heap.objs.size ≤ so → Q (.ref so) { s with heap := h' }) :
    _root_.PySem.wpAt (model X.prog X.w) X.A (.func body X.env) (attributeBase (.Call (.Name "super" p0) [] [] p1) attr X.env whole) Q E s := by
  obtain ⟨oc, od, osl, hf⟩ := T.fn
  obtain ⟨ar, har, rfl⟩ := T.par
  obtain ⟨ccl, cdd, vs, ccs, file, tf, hcode, hvs, hfile⟩ := T.code
  obtain ⟨cl, cld, csl, hcell⟩ := T.cell
  obtain ⟨cdD, hD⟩ := T.cls
  have KX := I.kIn
  obtain ⟨hh, g, d, t, os⟩ := s
  obtain ⟨oD, hD1, hD2⟩ : ∃ oD, hh.get? D = some oD ∧ oD.data = .cls cdD := by
    unfold PySem.W.clsIn at hD
    split at hD
    · rename_i c d cd' sl ho
      cases hD
      exact ⟨_, KX _ _ ho, rfl⟩
    · cases hD
  refine ks_wpAt_super_base (env := X.env) hks hkc hat e1 (KX _ _ hf) rfl har e2 (KX _ _ hcode) rfl hvs hfile T.top ?_
  obtain ⟨mb, b1, b2⟩ := I.mod.blt
  refine PySem.W.ks_loadName_global I.ok.kind hks (Calls.loadGlobal_builtin (by rw [I.ok.glob]; exact I.mod.glob.keeps I.bk) T.mg (by rw [I.ok.blt]; exact b1.keeps I.bk) ((b2 "super" (by decide)).trans boot_super) ⟨rfl, ?_⟩)
  refine wpAny_loadName_free I.ok.kind hkc (c := cc) (by rw [e3]; rfl) ⟨_, KX _ _ hcell, rfl⟩ ?_
  obtain ⟨m, hn, hlk⟩ := I.loc
  obtain ⟨u, ru, lk⟩ := hlk 0 ar.arg (.ref x) hN hv (.inl hl)
  obtain rfl : u = Value.ref x := ru
  have hm : m ar.arg = some (.ref x) := by
    rcases lk with ⟨_, hm⟩ | ⟨hk, _⟩
    · exact hm
    · have hl' : X.env.kindOf ar.arg = some .local := hl
      rw [hl'] at hk
      rcases hk with hk | hk <;> cases hk
  refine wpAny_loadName_local I.ok.kind hl hn hm ?_
  refine ks_wpAny_isType_cls hD1 hD2 ⟨rfl, ?_⟩
  exact ks_wpAny_call_super hD1 hD2 hx hxc hnc (PySem.W.looks_mroIn KX hsub) fun h' e k => h _ h' k e (Nat.le_refl _)
end
end DX
set_option maxHeartbeats 4000000
namespace DX
open PySem PySem.Spec PyProof.Rows L2 ClX
section
variable {X : Cx} {pins : List (Addr × Obj)} {σ : L2.St} {H : Hp} {s : Shared} {CX : CXT} {k : Nat} {sp : Sp} {EE : XK} {Q : VK} {e : Expr} {es : List Expr} {ta : TA} {p0 p1 apos pos : Pos}
/-- what stands behind the class D in the order of the class C -/
structure SupTo (X : Cx) (C D : Addr) (to : Value) : Prop where
  sub : PySem.W.mroIn X.K C (.ref D) = some true
  along : PySem.W.ks_superIn X.K C D "__init__" = some (some to)
  op : PySem.W.nsIn X.K PySem.cStatics "thirdparty.any" = some none
/-- super().__init__(e, ..), the next __init__ a def of the program's own -/
theorem at_sup_own {f cda cc D x C f2 : Addr} {fd : FuncData} {slf : Str} {body : List Stmt} {dx : Option Addr} {pl : Sem Bool} (I : Inv X pins σ H s) (T : SupDef X f cda cc D fd slf) (U : SupTo X C D (.ref f2)) (hf2 : PySem.W.fnIn X.K f2 = true) (ht2 : PySem.W.typeIn X.K (.ref f2) = some (.type "function"))
    (e1 : X.env.func = some f) (e2 : X.env.code = .ref cda) (e3 : X.env.cells = [(("__class__" : Str), cc)])
    (hN : X.N[0]? = some slf) (hv : σ[0]? = some (some (.ref x))) (hl : X.env.scope.names.lookup slf = some .local)
    (hks : X.env.kindOf "super" = some .globalImplicit) (hkc : X.env.kindOf "__class__" = some .free)
    (hx : H x = some (exo x C dx)) (F : FnR X.prog X.w X.K X.mg X.base CX k f2 sp) (hr : Room k X.A) (hxx : Passes CX X EE)
    (ha : PA X (e :: es) ta) (h : ta σ H fun vs H1 => sp (.ref x :: vs) H1 Q EE)
    (hev : eval (.Call (.Attribute (.Call (.Name "super" p0) [] [] p1) "__init__" apos) (e :: es) [] pos) X.env = (do
      let ov ← attributeBase (.Call (.Name "super" p0) [] [] p1) "__init__" X.env (eval (.Call (.Name "super" p0) [] [] p1) X.env)
      standAt apos.atName
      let (f, first) ← holding [ov] (getMethod ov "__init__" pl)
      callWith pos f first (backTo pos (starEach (e :: es) X.env)) []) := by rfl)
    (he : starEach (e :: es) X.env = (false, eval e X.env) :: starEach es X.env := by rfl) (hpl : (backTo pos (starEach es X.env)).any (·.1) = false := by rfl) :
    _root_.PySem.wpAt (model X.prog X.w) X.A (.func body X.env) (eval (.Call (.Attribute (.Call (.Name "super" p0) [] [] p1) "__init__" apos) (e :: es) [] pos) X.env) (EP X pins σ Q) X.xe s := by
  obtain ⟨t1, ho⟩ := exo_at I.hok hx
  refine ks_wpAt_MethodCall (pl := pl) ?_ hev
  refine at_super I T e1 e2 e3 hN hv hl hks hkc ho rfl (fun c z => by cases z) U.sub (by decide) fun so h' kp hso hsz => ?_
  have I1 : Inv X pins σ H { s with heap := h' } := I.kept (t' := s.toks) kp
  have KX := I1.kIn
  obtain ⟨cd, hcl⟩ : ∃ cd, PySem.W.clsIn X.K C = some cd := by
    have := U.along
    unfold PySem.W.ks_superIn at this
    cases q : PySem.W.clsIn X.K C with
    | none => rw [q] at this; cases this
    | some cd => exact ⟨cd, rfl⟩
  have hal : PySem.W.alongIn X.K "__init__" ((cd.mro.dropWhile (· != .ref D)).drop 1) = some (some (.ref f2)) := by
    have := U.along
    unfold PySem.W.ks_superIn at this
    rw [hcl] at this
    exact this
  obtain ⟨of, hof, hofc⟩ : ∃ of, h'.get? f2 = some of ∧ of.cls = .type "function" := by
    have ht' : (X.K.lookup f2).map (·.cls) = some (.type "function") := ht2
    cases z : X.K.lookup f2 with
    | none => rw [z] at ht'; cases ht'
    | some of => rw [z] at ht'; exact ⟨of, KX _ _ z, Option.some.inj ht'⟩
  have hxC : x ≠ C := fun z => by
    have h1 := kp _ _ ho
    rw [z] at h1
    unfold PySem.W.clsIn at hcl
    split at hcl
    · rename_i c d cd' sl hoC
      have := (KX _ _ hoC).symm.trans h1
      cases this
    · cases hcl
  refine ks_wpAny_getMethod_super hso (PySem.W.looks_opaque KX U.op) (l₀ := cd.mro) (fun A Q E s k q => wpAny_bind ((PySem.W.looks_clsIn KX hcl) A _ E s k (wpAny_pure q))) rfl KX hal hof hofc hxC (by decide) ?_
  have I2 := met_new (g := f2) (C := x) I1
  refine callwith_cm I2 (base_none I1 (Nat.le_refl _)) hf2 (thn (ha.run pos _ _ σ H _ I2 h) fun us s3 ⟨vs, H3, I3, r3, q3⟩ => ⟨⟨pin_at I3, I3.kIn⟩, ?_⟩) he hpl
  exact run_cm F hr hxx I3 r3 q3
end
end DX
set_option maxHeartbeats 4000000
namespace DX
open PySem PySem.Spec PyProof.Rows L2 ClX
section
variable {X : Cx} {pins : List (Addr × Obj)} {σ : L2.St} {H : Hp} {s : Shared} {Q : VK} {e : Expr} {es : List Expr} {ta : TA} {p0 p1 apos pos : Pos}
/-- the class C is an exception class over the built-in class B -/
structure OverB (X : Cx) (C : Addr) (B newId i : String) (bmB : List Value) : Prop where
  kf : PySem.W.KxsFacts B i
  fb : ExcBaseFacts B newId i bmB
  obj : ∃ nm q N bs bm hd sn sub ab col dd k0 k1 k2 k3 k5, X.K.lookup C = some (excClassObj nm q C N bs bm hd sn sub ab col dd k0 k1 k2 k3 k5 newId)
  sub : PySem.W.subIn X.K (.ref C) (.type B) = some true
/-- super().__init__(e, ..), the next __init__ the built-in one: nothing of it is told -/
theorem at_sup_blt {f cda cc D x C : Addr} {fd : FuncData} {slf : Str} {body : List Stmt} {dx : Option Addr} {pl : Sem Bool} {B newId i : String} {bmB : List Value} (I : Inv X pins σ H s) (T : SupDef X f cda cc D fd slf) (U : SupTo X C D (.builtin i)) (O : OverB X C B newId i bmB)
    (e1 : X.env.func = some f) (e2 : X.env.code = .ref cda) (e3 : X.env.cells = [(("__class__" : Str), cc)])
    (hN : X.N[0]? = some slf) (hv : σ[0]? = some (some (.ref x))) (hl : X.env.scope.names.lookup slf = some .local)
    (hks : X.env.kindOf "super" = some .globalImplicit) (hkc : X.env.kindOf "__class__" = some .free)
    (hx : H x = some (exo x C dx)) (ha : PA X (e :: es) ta) (h : ta σ H fun vs H1 => vs.length ≤ 1000 ∧ H1 x = some (exo x C dx) ∧ Q .non H1)
    (hev : eval (.Call (.Attribute (.Call (.Name "super" p0) [] [] p1) "__init__" apos) (e :: es) [] pos) X.env = (do
      let ov ← attributeBase (.Call (.Name "super" p0) [] [] p1) "__init__" X.env (eval (.Call (.Name "super" p0) [] [] p1) X.env)
      standAt apos.atName
      let (f, first) ← holding [ov] (getMethod ov "__init__" pl)
      callWith pos f first (backTo pos (starEach (e :: es) X.env)) []) := by rfl)
    (he : starEach (e :: es) X.env = (false, eval e X.env) :: starEach es X.env := by rfl) (hpl : (backTo pos (starEach es X.env)).any (·.1) = false := by rfl) :
    _root_.PySem.wpAt (model X.prog X.w) X.A (.func body X.env) (eval (.Call (.Attribute (.Call (.Name "super" p0) [] [] p1) "__init__" apos) (e :: es) [] pos) X.env) (EP X pins σ Q) X.xe s := by
  obtain ⟨t1, ho⟩ := exo_at I.hok hx
  refine ks_wpAt_MethodCall (pl := pl) ?_ hev
  refine at_super I T e1 e2 e3 hN hv hl hks hkc ho rfl (fun c z => by cases z) U.sub (by decide) fun so h' kp hso hsz => ?_
  have I1 : Inv X pins σ H { s with heap := h' } := I.kept (t' := s.toks) kp
  have KX := I1.kIn
  obtain ⟨cd, hcl⟩ : ∃ cd, PySem.W.clsIn X.K C = some cd := by
    have := U.along
    unfold PySem.W.ks_superIn at this
    cases q : PySem.W.clsIn X.K C with
    | none => rw [q] at this; cases this
    | some cd => exact ⟨cd, rfl⟩
  have hal : PySem.W.alongIn X.K "__init__" ((cd.mro.dropWhile (· != .ref D)).drop 1) = some (some (.builtin i)) := by
    have := U.along
    unfold PySem.W.ks_superIn at this
    rw [hcl] at this
    exact this
  have hxC : x ≠ C := fun z => by
    have h1 := kp _ _ ho
    rw [z] at h1
    unfold PySem.W.clsIn at hcl
    split at hcl
    · rename_i c d cd' sl hoC
      have := (KX _ _ hoC).symm.trans h1
      cases this
    · cases hcl
  have hI : PySem.W.Looks (model X.prog X.w) h' (isInstance (.ref x) (.type B)) true := by
    have ty : PySem.W.Looks (model X.prog X.w) h' (typeOf (.ref x)) (.ref C) := (PySem.W.Looks.ld (kp _ _ ho)).andThen .now
    exact ty.andThen (PySem.W.looks_subIn KX O.sub)
  refine PySem.W.kxs_getMethod O.kf hso (PySem.W.looks_opaque KX U.op) (l₀ := cd.mro) (fun A Q E s k q => wpAny_bind ((PySem.W.looks_clsIn KX hcl) A _ E s k (wpAny_pure q))) rfl KX hal hI hxC (by decide) ?_
  have I2 : Inv X ((h'.objs.size, PySem.W.kxs_mw i x) :: pins) σ H { s with heap := h'.push (PySem.W.kxs_mw i x), toks := s.toks + 1 } :=
    pin_new (s := { s with heap := h' }) (t' := s.toks + 1) I1 (fun _ _ z => Heap.get?_push_of_some _ z) (Nat.le_refl _) (Heap.get?_push_size h' rfl) (fun v z => nomatch z)
  show wpAny _ _ (callWith pos (.ref h'.objs.size) [] (backTo pos (starEach (e :: es) X.env)) []) _ _ _
  have key : wpAny (model X.prog X.w) X.A (spliced (backTo pos (starEach (e :: es) X.env))) (fun us s3 => PySem.W.KxsAt i h'.objs.size x s3.heap ∧ wpAny (model X.prog X.w) X.A (call (.ref h'.objs.size) us) (EP X pins σ Q) X.xe s3) X.xe { s with heap := h'.push (PySem.W.kxs_mw i x), toks := s.toks + 1 } := ?key
  · rw [he] at key ⊢
    refine PySem.W.kxs_callWith (i := i) (x := x) (by show (false || (backTo pos (starEach es X.env)).any (·.1)) = false; rw [hpl]; rfl) ?_
    exact Calls.evalArgs_plain key
  refine thn (ha.run pos _ _ σ H _ I2 h) fun us s3 ⟨vs, H3, I3, r3, hlen, hx3, q3⟩ => ⟨pin_at I3, ?_⟩
  show wpAny _ _ (call (.ref h'.objs.size) us) _ _ _
  obtain ⟨t3, ho3⟩ := exo_at I3.hok hx3
  obtain ⟨nm, q, N, bs, bm, hd, sn, sub, ab, col, dd, k0, k1, k2, k3, k5, hC⟩ := O.obj
  have hu := pin_at I3
  have hz : us.length ≤ sizeLine := by
    rw [← Paired.length r3, sizeLine_eq]
    omega
  obtain ⟨hh, g, d, tk, os⟩ := s3
  have fin : ∀ h2, (∀ b o, b ≠ x → hh.get? b = some o → h2.get? b = some o) → h2.get? x = some (PySem.W.excObj C hh.objs.size dx .none) → h2.get? hh.objs.size = some (PySem.W.excTup us) → EP X pins σ Q .none ⟨h2, g, d, tk, os⟩ := fun h2 k2 e2 _ => by
    have J := I3.write (t' := tk) (x := x) (e := x) (o := exo x C dx) (by rw [hx3]; exact True.intro) (.inl rfl) k2 ⟨_, e2⟩ (exo_ok e2)
    have eu : upd H3 x (exo x C dx) = H3 := by
      funext b
      by_cases hb : b = x
      · rw [hb, upd_same, hx3]
      · rw [upd_ne hb]
    rw [eu] at J
    exact ⟨.non, H3, unpin J, rfl, q3⟩
  refine wpAny_call (codeAny_of_tree ?_)
  show wpAny _ X.A.in1 (callAny (.ref h'.objs.size) ⟨us, []⟩) _ _ _
  simp only [callAny]
  refine wpAny_bind (wpAny_load hu ?_)
  simp only [PySem.W.kxs_mw, show (Value.type "method-wrapper" == Value.type "method" || Value.type "method-wrapper" == Value.type "builtin_function_or_method" || Value.type "method-wrapper" == Value.type "method-wrapper") = true by decide, if_true]
  refine PySem.W.KFB.if_so (by decide) ?_
  refine wpAny_bind (PySem.W.check_bound_init O.fb.toExcCallFacts (I3.kIn _ _ hC) ho3 rfl ?_)
  refine wpAny_bind (wpAny_pure (wpAny_pure ?_))
  refine ⟨plainId_quiet O.fb.init.plain _, codeAny_builtin O.fb.initEntry ?_⟩
  exact PySem.W.exc_init_tree (cls := .ref C) (t0 := t3) (dv := dx) (c2 := .none) (c3 := .none) (b4 := .bool false) ho3 hz fin
end
end DX
set_option maxHeartbeats 4000000
namespace DX
open PySem PySem.Spec PyProof.Rows L2 ClX NdefX
/-- a def whose first statement says super() -/
abbrev supF (name qual : Str) (params : Arguments) (body : List Stmt) (scope : Scope) (cc cda : Addr) : NF := ⟨name, qual, params, body, scope, [(("__class__" : Str), cc)], cda⟩
theorem fn_sup {CX : CXT} {P : Program} {w : World} {K : PySem.W.Frag} {mg : Str → Option Value} {base : Heap} {k : Nat} {f cc cda D : Addr} {name qual : Str} {params : Arguments} {ex : Expr} {p4 : Pos} {rest : List Stmt} {scope : Scope} {dV kV doc pm ct oc cl : Value} {an od cld : Option Addr}
    {osl csl : Array (Option Value)} {N ps : List Str} {sp : Sp} (lk : K.lookup f = some ⟨oc, od, .func (PySem.W.fnX name qual params (.Expr ex p4 :: rest) scope [(("__class__" : Str), cc)] dV kV doc pm an (.ref cda) ct), osl⟩) (hcd : PySem.W.codeIn K (.ref cda) qual = true)
    (hcell : K.lookup cc = some ⟨cl, cld, .cell (some (.ref D)), csl⟩) (S : NScope N ps ["__class__"] scope) (len : ∀ vs H Q E, sp vs H Q E → vs.length = ps.length)
    (hs : ∀ L, swapsWith ex none p4.line (envF (supF name qual params (.Expr ex p4 :: rest) scope cc cda) f L) = pure false)
    (hbody : ∀ (A : Around) (outer : List Env) (s : Shared) (H : Hp) (vs : List V) (Q : VK) (E : XK), Room k (A.deeper (envF (supF name qual params (.Expr ex p4 :: rest) scope cc cda) f s.heap.objs.size)) → sp vs H Q E →
      ∃ (t : TS) (Q1 : VK), PSs (ncx CX P w K mg base N (supF name qual params (.Expr ex p4 :: rest) scope cc cda) f A outer s H E) rest t ∧
        (∀ s1, Inv (ncx CX P w K mg base N (supF name qual params (.Expr ex p4 :: rest) scope cc cda) f A outer s H E) [] (startF N vs [none]) H s1 →
          _root_.PySem.wpAt (model P w) (A.deeper (envF (supF name qual params (.Expr ex p4 :: rest) scope cc cda) f s.heap.objs.size)) (.func (.Expr ex p4 :: rest) (envF (supF name qual params (.Expr ex p4 :: rest) scope cc cda) f s.heap.objs.size)) (eval ex (envF (supF name qual params (.Expr ex p4 :: rest) scope cc cda) f s.heap.objs.size))
            (EP (ncx CX P w K mg base N (supF name qual params (.Expr ex p4 :: rest) scope cc cda) f A outer s H E) [] (startF N vs [none]) Q1) (ncx CX P w K mg base N (supF name qual params (.Expr ex p4 :: rest) scope cc cda) f A outer s H E).xe s1) ∧
        ∀ v H1, Q1 v H1 → t { nx := fun _ H' => Q .non H', rt := Q } (startF N vs [none]) H1) :
    FnOk P w K mg base CX (k + 1) f (PySem.W.fnX name qual params (.Expr ex p4 :: rest) scope [(("__class__" : Str), cc)] dV kV doc pm an (.ref cda) ct) ps sp := by
  refine ⟨len, fun A outer s H args us vs Q E hr e0 hb r hsp => ?_⟩
  have hl := len _ _ _ _ hsp
  have up := fun b o e => (e0.bs b o e).1
  have KX : K.In s.heap := e0.mod.kin.keeps up
  have lim : s.heap.NoLimit := e0.mod.nolimit.keeps up
  have C : CellsAt [(("__class__" : Str), cc)] ["__class__"] [none] s.heap H := by
    have key : ∀ y c, ([(("__class__" : Str), cc)] : List (Str × Addr)).lookup y = some c → y = "__class__" ∧ c = cc := fun y c h => by
      rw [List.lookup_cons] at h
      cases q : y == ("__class__" : Str) with
      | true =>
        rw [q] at h
        exact ⟨beq_iff_eq.mp q, (Option.some.inj h).symm⟩
      | false =>
        rw [q] at h
        cases h
    refine ⟨rfl, fun y c h => ?_, fun x y c h1 h2 => (key x c h1).1.trans (key y c h2).1.symm, fun i y h => ?_⟩
    · obtain ⟨_, rfl⟩ := key y c h
      exact ⟨(e0.bs _ _ (e0.mod.kin _ _ hcell)).2, _, ⟨_, KX _ _ hcell, rfl⟩⟩
    · cases i with
      | zero =>
        cases h
        exact ⟨cc, rfl, fun v hv => by cases hv⟩
      | succ i => cases h
  refine codeAny_call_function hr.depth (KX _ _ lk) rfl S.co S.gen rfl (PySem.W.codeRec_of KX hcd) (hb _ _ _ _ ?_)
  refine wpAny_newFunctionEnv S.nocell (fun ⟨n, _⟩ hy => S.par n (List.of_mem_zip hy).1) (fun h₁ hns hsb => ⟨lim.fresh _ hsb, ?_⟩) S.kind
  show codeAny _ _ (.func (.Expr ex p4 :: rest) (envF (supF name qual params (.Expr ex p4 :: rest) scope cc cda) f s.heap.objs.size)) _ _
  have kp : ∀ b o, s.heap.get? b = some o → h₁.get? b = some o := fun b o e => hsb.extBut b o (Nat.ne_of_lt (Heap.lt_size e)) (Heap.get?_push_of_some _ e)
  obtain ⟨t, Q1, ht, h0, hq⟩ := hbody A outer s H vs Q E (hr.deeper _) hsp
  have I : Inv (ncx CX P w K mg base N (supF name qual params (.Expr ex p4 :: rest) scope cc cda) f A outer s H E) [] (startF N vs [none]) H { s with heap := h₁, toks := s.toks + (ps.zip us).length } := inv_startN S hr.hd e0 hl r C hns kp
  refine ks_codeAny_funcAt ?_
  refine ks_wpAt_execs_cons ?_
  refine ks_wpAt_Expr_any ?_ I.quiet (hs _)
  refine ks_wpAt_mono (h0 _ I) (fun v s1 hv => ?_) fun e s' hs => hs
  obtain ⟨v', H1, I1, r1, q1⟩ := hv
  refine wpAt_of_wpAny (wpAny_mono (ht.run [] s1 (startF N vs [none]) H1 _ I1 (hq v' H1 q1)) (fun fl s' hs => ?_) fun e s' hs => hs)
  cases fl with
  | ret u => obtain ⟨v2, σ2, H2, J, rv, q⟩ := hs; exact ⟨v2, H2, J.os, J.bare, J.base, J.hok, rv, q⟩
  | next => obtain ⟨σ2, H2, J, q⟩ := hs; exact ⟨.non, H2, J.os, J.bare, J.base, J.hok, rfl, q⟩
  | brk => obtain ⟨_, _, _, q⟩ := hs; exact q.elim
  | cont => obtain ⟨_, _, _, q⟩ := hs; exact q.elim
end DX
set_option maxHeartbeats 4000000
/-! own classes of exceptions over ValueError, LookupError, IndexError: what HandS.ExcInit says of ValueError, for each of the three -/
namespace DX
open PySem PySem.Spec PyProof.Rows L2
/-- own classes, then the built-in ones -/
def RefsB (tl l : List Value) : Prop := ∃ cs : List Addr, l = cs.map Value.ref ++ tl
def isRef : Value → Bool
  | .ref _ => true
  | _ => false
theorem refs_ok {tl : List Value} : ∀ l : List Value, (l.dropWhile isRef == tl) = true → RefsB tl l
  | [], e => ⟨[], beq_iff_eq.mp e⟩
  | v :: r, e => by
    cases q : isRef v with
    | true =>
      rw [List.dropWhile_cons_of_pos q] at e
      obtain ⟨cs, rfl⟩ := refs_ok r e
      cases v with
      | ref a => exact ⟨a :: cs, rfl⟩
      | _ => cases q
    | false =>
      rw [List.dropWhile_cons_of_neg (by rw [q]; decide)] at e
      exact ⟨[], beq_iff_eq.mp e⟩
/-- what is known of the built-in class -/
structure TailF (B newId i : String) (tl : List Value) : Prop where
  st : StoreFacts B tl "object.__setattr__" "object"
  fb : ExcBaseFacts B newId i tl
  kf : PySem.W.KxsFacts B i
abbrev tlV : List Value := [.type "ValueError", .type "Exception", .type "BaseException", .type "object"]
abbrev tlL : List Value := [.type "LookupError", .type "Exception", .type "BaseException", .type "object"]
abbrev tlI : List Value := [.type "IndexError", .type "LookupError", .type "Exception", .type "BaseException", .type "object"]
theorem tfV : TailF "ValueError" "ValueError.__new__" "ValueError.__init__" tlV := ⟨F.store_ValueError, F.excBase_ValueError, PySem.W.kxs_ValueError⟩
theorem tfL : TailF "LookupError" "LookupError.__new__" "LookupError.__init__" tlL := ⟨F.store_LookupError, F.excBase_LookupError, PySem.W.kxs_LookupError⟩
theorem tfI : TailF "IndexError" "IndexError.__new__" "IndexError.__init__" tlI := ⟨F.store_IndexError, F.excBase_IndexError, PySem.W.kxs_IndexError⟩
section
variable {B newId i : String} {tl l : List Value}
theorem RefsB.pass (h : RefsB tl l) (T : TailF B newId i tl) (self : Value) : refuseLoop self "__setattr__" l = pure () := by
  obtain ⟨cs, rfl⟩ := h
  induction cs with
  | nil => exact T.st.passes self
  | cons c cs ih => rw [List.map_cons, List.cons_append, refuseLoop_ref]; exact ih
theorem RefsB.contains (h : RefsB tl l) (X : String) : l.contains (.type X) = tl.contains (.type X) := by
  obtain ⟨cs, rfl⟩ := h
  induction cs with
  | nil => rfl
  | cons c cs ih => rw [List.map_cons, List.cons_append, List.contains_cons, ih]; rfl
theorem RefsB.ne (h : RefsB tl l) (T : TailF B newId i tl) : l.isEmpty = false := by
  have z := (h.contains "object").trans T.st.hasOwner
  cases l with
  | nil => cases z
  | cons _ _ => rfl
theorem RefsB.cons (h : RefsB tl l) (C : Addr) : RefsB tl (.ref C :: l) := by
  obtain ⟨cs, rfl⟩ := h
  exact ⟨C :: cs, rfl⟩
end
/-- what the written part says of the class -/
structure OexA (K : PySem.W.Frag) (C : Addr) : Prop where
  cls : ∃ B newId i tl, TailF B newId i tl ∧ ∃ nm q N bs bm sn sub ab col dd k0 k1 k2 k3 k5, K.lookup C = some (excClassObj nm q C N bs bm true sn sub ab col dd k0 k1 k2 k3 k5 newId) ∧ RefsB tl bm
  sa : PySem.W.findIn K (.ref C) "__setattr__" = some (some (.builtin "object.__setattr__"))
  exC : PySem.W.subIn K (.ref C) (.type "BaseException") = some true
  tyC : PySem.W.typeIn K (.ref C) = some (.type "type")
  kC : PySem.W.keepIn K (.ref C) = true
section
open Builtin Builtin.ObjectAttr
variable {prog : Program} {w : World} {A : Around} {E : Value → Shared → Prop} {R : Result → Shared → Prop} {hp : Heap} {g : Array GenState} {d : Drawn} {t : Nat} {os : OsState} {B newId i : String} {tl : List Value}
theorem osa_first {K : PySem.W.Frag} {name : Str} {tk : Tok} {v : Value} {x C : Addr} {fv : Array Value} {cd : ClassData} (T : TailF B newId i tl)
    (X : K.In hp) (hx : hp.get? x = some { cls := .ref C, data := .fields fv }) (hcd : PySem.W.clsIn K C = some cd) (hm : RefsB tl cd.mro) (hh : cd.hasDict = true) (ha : PySem.W.findIn K (.ref C) name = some none)
    (hq : ∀ h' tk' dx, (∀ b o, b ≠ x → hp.get? b = some o → h'.get? b = some o) → hp.objs.size ≤ dx → dx ≠ x → h'.get? x = some { cls := .ref C, dict := some dx, data := .fields fv } →
      h'.Ns1 dx (fun y => if y = name then some v else none) → R (.ok (.ret .none)) ⟨h', g, d, tk', os⟩) :
    codeAny (model prog w) A (.call (.builtin "object.__setattr__") ⟨[.ref x, .str name tk, v], []⟩) R ⟨hp, g, d, t, os⟩ := by
  have I : PySem.W.InstAt hp x { cls := .ref C, data := .fields fv } C none := ⟨hx, rfl, rfl, trivial⟩
  have SF := F.store_object
  have ne := hm.ne T
  have hob : cd.mro.contains (.type "object") = true := (hm.contains "object").trans T.st.hasOwner
  have hxs : x ≠ hp.objs.size := Nat.ne_of_lt (Heap.lt_size hx)
  have sub : PySem.W.Looks (model prog w) hp (isInstance (.ref x) (.type "object")) true := I.type.andThen (PySem.W.looks_mroIn X (by unfold PySem.W.mroIn; rw [hcd, Option.bind_some, if_neg (by rw [ne]; decide), hob]))
  refine codeAny_call_builtin SF.slot.plain SF.entry (@PySem.W.check_slot (model prog w) _ _ ⟨hp, g, d, t, os⟩ "object.__setattr__" "object" "__setattr__" (.ref x) [.str name tk, v] [] _ SF.kind SF.split sub (SF.args (.ref x) (.str name tk) v) ?_)
  have hmr : PySem.W.Looks (model prog w) hp (mroOf (.ref C)) cd.mro := (PySem.W.looks_clsIn X hcd).andThen .now
  have L3 : PySem.W.Looks (model prog w) hp (storeTaker? none) none := .now
  have hcls : PySem.W.Looks (model prog w) hp (classData C) cd := PySem.W.looks_clsIn X hcd
  rw [PySem.W.osa_eq, refuse_eq]
  refine wpAny_bind (wpAny_bind (I.type.at (wpAny_bind (hmr.at ?_))))
  rw [hm.pass T]
  refine wpAny_pure (wpAny_bind (I.type.at (wpAny_bind ((PySem.W.looks_findIn X ha).at (wpAny_bind (L3.at ?_))))))
  show wpAny _ _ (storeInOwnDict (.ref x) (.ref C) (.str name tk) name v false) _ _ _
  obtain ⟨nm, bs, mro, ns, qn, hd, sn, sb, ab, col, del⟩ := cd
  dsimp only at hh
  subst hh
  unfold storeInOwnDict ownDictForStores
  repeat (first | with_reducible refine PySem.HandSPX.store_in_new ?_ ?_ | with_reducible refine wpAny_loadPart_at hx ?_ | with_reducible refine hcls.at ?_ | wp_step)
  · exact ⟨_, #[], _, (Heap.get?_update_ne _ _ _ _ hxs.symm).trans (Heap.get?_push_at rfl rfl), rfl, fun e he => absurd he (by simp), fun _ => rfl⟩
  · intro h' tk' hn' hs
    have hx₁ : (hp.push { cls := .type "dict", data := .dict #[] }).get? x = some { cls := .ref C, data := .fields fv } := Heap.get?_push_of_some _ hx
    refine hq h' tk' hp.objs.size (fun b o hb ho => ?_) (Nat.le_refl _) hxs.symm ?_ hn'
    · exact (hs.2 b (Nat.ne_of_lt (Heap.lt_size ho))).trans ((Heap.get?_update_ne _ _ _ _ hb).trans (Heap.get?_push_of_some _ ho))
    · exact (hs.2 x hxs).trans (Heap.get?_update_self _ hx₁ rfl)
theorem osa_more {K : PySem.W.Frag} {name : Str} {tk : Tok} {v : Value} {x C dx : Addr} {fv : Array Value} {cd : ClassData} {m0 : Str → Option Value} {nl : List Str} (T : TailF B newId i tl)
    (X : K.In hp) (hx : hp.get? x = some { cls := .ref C, dict := some dx, data := .fields fv }) (hns : hp.Ns1 dx m0) (hw : Within m0 nl) (hz : nl.length ≤ 1000) (hcd : PySem.W.clsIn K C = some cd) (hm : RefsB tl cd.mro) (hh : cd.hasDict = true)
    (ha : PySem.W.findIn K (.ref C) name = some none)
    (hq : ∀ h' tk', (∀ b o, b ≠ dx → hp.get? b = some o → h'.get? b = some o) → h'.Ns1 dx (fun y => if y = name then some v else m0 y) → R (.ok (.ret .none)) ⟨h', g, d, tk', os⟩) :
    codeAny (model prog w) A (.call (.builtin "object.__setattr__") ⟨[.ref x, .str name tk, v], []⟩) R ⟨hp, g, d, t, os⟩ := by
  obtain ⟨oD, esD, epD, hoD, hdD, _⟩ := hns.count hw
  have I : PySem.W.InstAt hp x { cls := .ref C, dict := some dx, data := .fields fv } C (some oD) := ⟨hx, rfl, rfl, hoD⟩
  have SF := F.store_object
  have ne := hm.ne T
  have hob : cd.mro.contains (.type "object") = true := (hm.contains "object").trans T.st.hasOwner
  have sub : PySem.W.Looks (model prog w) hp (isInstance (.ref x) (.type "object")) true := I.type.andThen (PySem.W.looks_mroIn X (by unfold PySem.W.mroIn; rw [hcd, Option.bind_some, if_neg (by rw [ne]; decide), hob]))
  refine codeAny_call_builtin SF.slot.plain SF.entry (@PySem.W.check_slot (model prog w) _ _ ⟨hp, g, d, t, os⟩ "object.__setattr__" "object" "__setattr__" (.ref x) [.str name tk, v] [] _ SF.kind SF.split sub (SF.args (.ref x) (.str name tk) v) ?_)
  have hmr : PySem.W.Looks (model prog w) hp (mroOf (.ref C)) cd.mro := (PySem.W.looks_clsIn X hcd).andThen .now
  have L3 : PySem.W.Looks (model prog w) hp (storeTaker? none) none := .now
  have hcls : PySem.W.Looks (model prog w) hp (classData C) cd := PySem.W.looks_clsIn X hcd
  rw [PySem.W.osa_eq, refuse_eq]
  refine wpAny_bind (wpAny_bind (I.type.at (wpAny_bind (hmr.at ?_))))
  rw [hm.pass T]
  refine wpAny_pure (wpAny_bind (I.type.at (wpAny_bind ((PySem.W.looks_findIn X ha).at (wpAny_bind (L3.at ?_))))))
  show wpAny _ _ (storeInOwnDict (.ref x) (.ref C) (.str name tk) name v false) _ _ _
  obtain ⟨nm, bs, mro, ns, qn, hd, sn, sb, ab, col, del⟩ := cd
  dsimp only at hh
  subst hh
  unfold storeInOwnDict ownDictForStores
  repeat (first | with_reducible refine PySem.OEX.store_in_old hns hw hz ?_ | with_reducible refine wpAny_loadPart_at hx ?_ | with_reducible refine hcls.at ?_ | wp_step)
  intro h' tk' hn' hs
  exact hq h' tk' (fun b o hb ho => (hs.2 b hb).trans ho) hn'
end
section
variable {X : Cx} {pins : List (Addr × Obj)} {σ : L2.St} {H : Hp} {s : Shared} {a C dx : Addr} {f : Str} {y : V} {u : Value} {fs : List (Str × V)} {Q : Unit → Shared → Prop} {E : Value → Shared → Prop} {A : Around}
theorem ostA_new (T : OexA X.K C) (I : Inv X pins σ H s) (e : H a = some (exo a C none)) (hno : PySem.W.findIn X.K (.ref C) f = some none) (ry : RelV y u)
    (h : ∀ dx s', H dx = none → dx ≠ a → Inv X pins σ (upd (upd H dx (exd dx [(f, y)])) a (exo a C (some dx))) s' → Q () s') : wpAny (model X.prog X.w) A (setAttr (.ref a) f u) Q E s := by
  obtain ⟨B, newId, i, tl, TF, nm, q, N, bs, bm, sn, sub, ab, col, dd, k0, k1, k2, k3, k5, hC, hbm⟩ := T.cls
  have hcl : PySem.W.clsIn X.K C = some { name := nm, bases := bs, mro := .ref C :: bm, ns := N, qualname := q, hasDict := true, slotNames := sn, subclasses := sub, abstract := ab, collection := col, hasDel := false } := by unfold PySem.W.clsIn; rw [hC] <;> rfl
  obtain ⟨t1, ho⟩ := exo_at I.hok e
  obtain ⟨hp, g, d, t, os⟩ := s
  refine PySem.W.set_plain I.kIn (ox := { cls := .ref C, dict := none, data := .fields #[.ref t1, .none, .none, .none, .bool false, .none] }) (od := none) ⟨ho, rfl, rfl, trivial⟩ T.sa ?_
  refine osa_first TF I.kIn ho hcl (hbm.cons C) rfl hno (fun h' tk' dx k dn dne hx hn => ?_)
  have hnd : H dx = none := I.hok.fresh dn
  have nd : ∀ {b : Addr} {o : Obj}, hp.get? b = some o → b ≠ dx := fun {b o} q => Nat.ne_of_lt (Nat.lt_of_lt_of_le (Heap.lt_size q) dn)
  have na : ∀ {b : Addr}, H b = none → b ≠ a := fun {b} n z => by
    rw [z, e] at n
    cases n
  have Un1 : Un X.fs [] H (upd (upd H dx (exd dx [(f, y)])) a (exo a C (some dx))) hp h' := {
    keep := fun b o q n _ _ => k b o (na n) q
    slot := fun b o q n _ _ => ⟨o.slots, k b o (na n) q⟩
    free := fun b o q n _ => by rw [upd_ne (na n), upd_ne (nd q)]; exact n
    there := fun b o q _ => by
      by_cases hb : b = a
      · exact ⟨_, by rw [hb]; exact hx⟩
      · exact ⟨o, k b o hb q⟩
    tups := fun b xs q => by rw [upd_ne (at_ne e q exo_tup), upd_ne (ne_of_none q hnd)]; exact q
    frzs := fun b o v q => by rw [upd_ne (at_ne e q exo_frz), upd_ne (ne_of_none q hnd)]; exact q
    tbls := fun b ps q => ⟨#[], by rw [upd_ne (at_ne e q exo_tbl), upd_ne (ne_of_none q hnd), q]; simp⟩ }
  refine h dx _ hnd dne (I.un (t' := tk') Un1 fun b o q => ?_)
  by_cases hb : b = a
  · subst hb
    rw [upd_same] at q
    cases q
    exact exo_ok hx
  · rw [upd_ne hb] at q
    by_cases hd : b = dx
    · subst hd
      rw [upd_same] at q
      cases q
      exact exd_ok hn (relO_put (fs := []) ry fun g => True.intro)
    · rw [upd_ne hd] at q
      exact (I.hok b o q).stay (fun c v hc z => k c v (by
          rcases hc with hc | hc
          · rw [hc]
            exact hb
          · exact at_ne e hc exo_own) z)
        (fun c hc => by rw [upd_ne (at_ne e hc exo_own), upd_ne (ne_of_none hc hnd)]; exact hc) (fun c xs hc => by rw [upd_ne (at_ne e hc exo_tup), upd_ne (ne_of_none hc hnd)]; exact hc)
theorem ostA_old (T : OexA X.K C) (I : Inv X pins σ H s) (e : H a = some (exo a C (some dx))) (ed : H dx = some (exd dx fs)) (hl : fs.length ≤ 900) (hno : PySem.W.findIn X.K (.ref C) f = some none) (ry : RelV y u)
    (h : ∀ s', Inv X pins σ (upd H dx (exd dx ((f, y) :: fs))) s' → Q () s') : wpAny (model X.prog X.w) A (setAttr (.ref a) f u) Q E s := by
  obtain ⟨B, newId, i, tl, TF, nm, q, N, bs, bm, sn, sub, ab, col, dd, k0, k1, k2, k3, k5, hC, hbm⟩ := T.cls
  have hcl : PySem.W.clsIn X.K C = some { name := nm, bases := bs, mro := .ref C :: bm, ns := N, qualname := q, hasDict := true, slotNames := sn, subclasses := sub, abstract := ab, collection := col, hasDel := false } := by unfold PySem.W.clsIn; rw [hC] <;> rfl
  obtain ⟨t1, ho⟩ := exo_at I.hok e
  obtain ⟨mA, hns, rel⟩ := exd_at I.hok ed
  have hw := within_of rel
  obtain ⟨hp, g, d, t, os⟩ := s
  obtain ⟨oD, _, _, hoD, _, _⟩ := hns.count hw
  refine PySem.W.set_plain I.kIn (ox := { cls := .ref C, dict := some dx, data := .fields #[.ref t1, .none, .none, .none, .bool false, .none] }) (od := some oD) ⟨ho, rfl, rfl, hoD⟩ T.sa ?_
  refine osa_more TF I.kIn ho hns hw (by rw [List.length_map]; omega) hcl (hbm.cons C) rfl hno (fun h' tk' k hn => ?_)
  have hd : ∃ o, h'.get? dx = some o := by
    obtain ⟨o, _, _, e', _⟩ := hn
    exact ⟨o, e'⟩
  exact h _ (I.write (t' := tk') (x := dx) (e := dx) (o := exd dx ((f, y) :: fs)) (by rw [ed]; exact True.intro) (.inl rfl) k hd (exd_ok hn (relO_put ry rel)))
end
/-- self.f = e, self an exception that is being made -/
def tOstA (K : PySem.W.Frag) (f : Str) (to te : TE) : TS := fun D σ H => te σ H fun y H1 => to σ H1 fun x H2 => ∃ a C : Addr, x = .ref a ∧ OexA K C ∧ PySem.W.findIn K (.ref C) f = some none ∧
  ((H2 a = some (exo a C none) ∧ ∀ dx, H2 dx = none → dx ≠ a → D.nx σ (upd (upd H2 dx (exd dx [(f, y)])) a (exo a C (some dx)))) ∨
    ∃ (dx : Addr) (fs : List (Str × V)), H2 a = some (exo a C (some dx)) ∧ H2 dx = some (exd dx fs) ∧ fs.length ≤ 900 ∧ D.nx σ (upd H2 dx (exd dx ((f, y) :: fs))))
section
variable {X : Cx} {o e : Expr} {es : List Expr} {to te : TE} {ta : TA} {f : Str} {p p' p1 p2 pos : Pos}
theorem ps_ostA (ho : PE X o to) (he : PE X e te) (hs : swapsWith e (some (.Attribute o f p')) pos.line X.env = pure false := by rfl) : PS X (.Assign [.Attribute o f p'] e pos) (tOstA X.K f to te) := by
  refine ⟨fun pins s σ H D I h => ?_⟩
  refine plainObj_wpAny_Assign_Attribute (thn (he.run pins s σ H _ I h) fun v s1 ⟨y, H1, I1, r1, q1⟩ => thn (ho.run pins s1 σ H1 _ I1 q1) fun u s2 ⟨x, H2, I2, r2, a, C, ex, T, hno, q⟩ => ?_) hs
  subst ex
  obtain rfl : u = Value.ref a := r2
  rcases q with ⟨ea, q⟩ | ⟨dx, fs, ea, ed, hl, q⟩
  · exact ostA_new T I2 ea hno r1 fun dx s' n ne J => ⟨σ, _, J, q dx n ne⟩
  · exact ostA_old T I2 ea ed hl hno r1 fun s' J => ⟨σ, _, J, q⟩
/-- C(us), C's own __init__ keeping sp: what stands then -/
theorem run_mkA {CX : CXT} {C fI : Addr} {k : Nat} {fd : FuncData} {ps : List Str} {sp : Sp} {ds : List Value} {dvs : List V} {pins : List (Addr × Obj)} {σ : L2.St} {H1 : Hp} {s1 : Shared} {us : List Value} {vs : List V} {Qq : Value → Shared → Prop} {QV : Addr → VK} (T : OexA X.K C) (iC : PySem.W.findIn X.K (.ref C) "__init__" = some (some (.ref fI))) (tI : PySem.W.typeIn X.K (.ref fI) = some (.type "function"))
    (F1 : FnOk X.prog X.w X.K X.mg X.base CX k fI fd ps sp) (hr : Room (k + 1) X.A) (hb : Binds X.K fd ps ds) (hd : Vals dvs ds) (hx : Passes CX X (fun _ _ _ => False)) (I1 : Inv X pins σ H1 s1) (r1 : Vals vs us) (hz : vs.length ≤ 1000)
    (q1 : ∀ a, H1 a = none → sp (.ref a :: (vs ++ dvs)) (upd H1 a (exo a C none)) (fun v H2 => v = .non ∧ QV a v H2) (fun _ _ _ => False))
    (fin : ∀ a H2 s2 s2', H1 a = none → s1.heap.objs.size ≤ a → (∀ b o, s1.heap.get? b = some o → s2'.get? b = some o) → Un (frs X.stack) [] (upd H1 a (exo a C none)) H2 s2' s2.heap → HOk X.prog X.w H2 s2.heap → s2.os = s1.os → AllBare s2.gens → Inv X pins σ H2 s2 → QV a .non H2 → Qq (.ref a) s2) :
    wpAny (model X.prog X.w) X.A (call (.ref C) us) Qq X.xe s1 := by
  obtain ⟨B, newId, i, tl, TF, nm, q, N, bs, bm, sn, sub, ab, col, dd, k0, k1, k2, k3, k5, hC, hbm⟩ := T.cls
  obtain ⟨hp, g, dr, tk, os⟩ := s1
  have hsz : hp.objs.size ≤ hp.objs.size + 1 := Nat.le_succ _
  have hn : H1 (hp.objs.size + 1) = none := I1.hok.fresh hsz
  have hq := q1 (hp.objs.size + 1) hn
  have kk : ∀ b o, hp.get? b = some o → ((hp.push (PySem.W.kdv_tup us)).push (PySem.HandSPX.excO C hp.objs.size)).get? b = some o := fun b o e => Heap.get?_push_of_some _ (Heap.get?_push_of_some _ e)
  have hget : ((hp.push (PySem.W.kdv_tup us)).push (PySem.HandSPX.excO C hp.objs.size)).get? (hp.objs.size + 1) = some (PySem.HandSPX.excO C hp.objs.size) := by heap_get
  have I2 : Inv X pins σ (upd H1 (hp.objs.size + 1) (exo (hp.objs.size + 1) C none)) ⟨(hp.push (PySem.W.kdv_tup us)).push (PySem.HandSPX.excO C hp.objs.size), g, dr, tk, os⟩ :=
    I1.laid (t' := tk) (a := hp.objs.size + 1) (o := exo (hp.objs.size + 1) C none) (h' := (hp.push (PySem.W.kdv_tup us)).push (PySem.HandSPX.excO C hp.objs.size)) kk hsz (exo_ok hget)
  have r2 : Vals (V.ref (hp.objs.size + 1) :: (vs ++ dvs)) (Value.ref (hp.objs.size + 1) :: (us ++ ds)) := .cons rfl (r1.append hd)
  have hl : (Value.ref (hp.objs.size + 1) :: us ++ ds).length = ps.length := by
    have e := r2.length
    rw [F1.len _ _ _ _ hq] at e
    exact e.symm
  have hus : us.length ≤ sizeLine := by
    rw [← Paired.length r1, sizeLine_eq]
    omega
  refine wpAny_call (PySem.HandSPX.call_own TF.fb (fun Y => hbm.contains Y) (I1.kIn _ _ hC) (PySem.W.looks_findIn I1.kIn iC) (fun self => PySem.W.bind_fn I1.kIn self tI) hus
    (codeAny_mono (F1.run _ X.stack _ _ ⟨Value.ref (hp.objs.size + 1) :: us, []⟩ (Value.ref (hp.objs.size + 1) :: (us ++ ds)) _ _ (fun _ _ _ => False) (hr.make C us []) (I2.env0.make C us []) (hb _ (Value.ref (hp.objs.size + 1) :: us) I2.kIn hl) r2 hq) fun r s' hq' => ?_))
  cases r with
  | error er => exact hx pins σ _ _ er s' I2 hq'
  | ok fl =>
    cases fl with
    | ret u =>
      obtain ⟨v, H2, os2, bare2, un2, hok2, rv, ev, qv⟩ := hq'
      subst ev
      obtain ⟨h2, g2, d2, t2, os'⟩ := s'
      have J : Inv X pins σ H2 ⟨h2, g2, d2, t2, os'⟩ := I2.call' (ch := []) os2 un2 hok2 bare2 (fun b z => absurd z (by simp))
      exact ⟨rv, fin _ H2 ⟨h2, g2, d2, t2, os'⟩ _ hn hsz kk un2 hok2 os2 bare2 J qv⟩
    | next => exact False.elim hq'
    | brk => exact False.elim hq'
    | cont => exact False.elim hq'
/-- raise C(e, ..) -/
theorem pmk_oexA {CX : CXT} {x : Str} {C fI : Addr} {k : Nat} {fd : FuncData} {ps : List Str} {sp : Sp} {ds : List Value} {dvs : List V} (T : OexA X.K C) (iC : PySem.W.findIn X.K (.ref C) "__init__" = some (some (.ref fI))) (tI : PySem.W.typeIn X.K (.ref fI) = some (.type "function"))
    (F1 : FnOk X.prog X.w X.K X.mg X.base CX k fI fd ps sp) (hr : Room (k + 1) X.A) (hb : Binds X.K fd ps ds) (hd : Vals dvs ds) (hx : Passes CX X (fun _ _ _ => False)) (hg : Gl X x) (hm : X.mg x = some (.ref C)) (ha : PA X (e :: es) ta)
    (hdb : (x == ("__debug__" : Str)) = false := by decide) (he : starEach (e :: es) X.env = (false, eval e X.env) :: starEach es X.env := by rfl) (hpl : (backTo pos (starEach es X.env)).any (·.1) = false := by rfl) :
    PMk X (.Call (.Name x p) (e :: es) [] pos) (tMkO C sp dvs ta) := by
  intro pins s σ H Q I h
  refine wpAny_Call_Name_kw (ld_glob I hg hm ?_ hdb)
  refine PySem.W.callWith_K (h₀ := X.base) I.ok.mod.kin T.kC (thn (ha.run pos pins s σ H _ I h) fun us s1 ⟨vs, H1, I1, r1, hz, q1⟩ => ⟨I1.kIn, ?_⟩) he hpl
  show wpAny _ _ (call (.ref C) us) _ _ _
  refine run_mkA T iC tI F1 hr hb hd hx I1 r1 hz (QV := fun a v H2 => ∃ (d : Addr) (fs : List (Str × V)), H2 a = some (exo a C (some d)) ∧ H2 d = some (exd d fs) ∧ H1 d = none ∧ Q (.ref C) (some d) (upd (del H2 a) d (.xd fs))) q1 fun a H2 s2 h2' hn ha kk un hok ho hbr J ⟨d, fs, ea, ed, hd1, q⟩ => ?_
  obtain ⟨hp, g, dr, tk, os⟩ := s1
  obtain ⟨h2, g2, d2, t2, os'⟩ := s2
  exact mk_end (raises_own T.exC T.tyC) I1 ha kk un hok ho hbr ea ed hd1 q
/-- C(e, ..) as a value -/
theorem pe_mkA {CX : CXT} {x : Str} {C fI : Addr} {k : Nat} {fd : FuncData} {ps : List Str} {sp : Sp} {ds : List Value} {dvs : List V} (T : OexA X.K C) (iC : PySem.W.findIn X.K (.ref C) "__init__" = some (some (.ref fI))) (tI : PySem.W.typeIn X.K (.ref fI) = some (.type "function"))
    (F1 : FnOk X.prog X.w X.K X.mg X.base CX k fI fd ps sp) (hr : Room (k + 1) X.A) (hb : Binds X.K fd ps ds) (hd : Vals dvs ds) (hx : Passes CX X (fun _ _ _ => False)) (hg : Gl X x) (hm : X.mg x = some (.ref C)) (ha : PA X (e :: es) ta)
    (hdb : (x == ("__debug__" : Str)) = false := by decide) (he : starEach (e :: es) X.env = (false, eval e X.env) :: starEach es X.env := by rfl) (hpl : (backTo pos (starEach es X.env)).any (·.1) = false := by rfl) :
    PE X (.Call (.Name x p) (e :: es) [] pos) (fun σ H Q => ta σ H fun vs H1 => vs.length ≤ 1000 ∧ ∀ a, H1 a = none → sp (.ref a :: (vs ++ dvs)) (upd H1 a (exo a C none)) (fun v H2 => v = .non ∧ Q (.ref a) H2) (fun _ _ _ => False)) := by
  refine ⟨fun pins s σ H Q I h => ?_⟩
  refine wpAny_Call_Name_kw (ld_glob I hg hm ?_ hdb)
  refine PySem.W.callWith_K (h₀ := X.base) I.ok.mod.kin T.kC (thn (ha.run pos pins s σ H _ I h) fun us s1 ⟨vs, H1, I1, r1, hz, q1⟩ => ⟨I1.kIn, ?_⟩) he hpl
  show wpAny _ _ (call (.ref C) us) _ _ _
  exact run_mkA T iC tI F1 hr hb hd hx I1 r1 hz (QV := fun a v H2 => Q (.ref a) H2) q1 fun a H2 s2 h2' hn ha kk un hok ho hbr J q => ⟨.ref a, H2, J, rfl, q⟩
end
end DX
set_option maxHeartbeats 4000000
namespace DX
open PySem PySem.Spec PyProof.Rows L2 ClX NdefX
/-- what an __init__ promises that leaves these fields: all that is looked at of the class -/
def spI (K : PySem.W.Frag) (ok : Addr → Prop) (n : Nat) (fs : List V → List (Str × V)) : Sp := fun vs H Q _ => ∃ a C ws, vs = .ref a :: ws ∧ ws.length = n ∧ H a = some (exo a C none) ∧ OexA K C ∧ ok C ∧
  ∀ dx, H dx = none → dx ≠ a → Q .non (upd (upd H dx (exd dx (fs ws))) a (exo a C (some dx)))
theorem upd2 {H : Hp} {a : Addr} {o u : HO} : upd (upd H a o) a u = upd H a u := by
  funext b
  by_cases e : b = a
  · rw [e, upd_same, upd_same]
  · rw [upd_ne e, upd_ne e, upd_ne e]
theorem upd_comm {H : Hp} {a b : Addr} {o u : HO} (h : a ≠ b) : upd (upd H a o) b u = upd (upd H b u) a o := by
  funext c
  by_cases e : c = b
  · subst e
    rw [upd_same, upd_ne (Ne.symm h), upd_same]
  · rw [upd_ne e]
    by_cases e2 : c = a
    · subst e2
      rw [upd_same, upd_same]
    · rw [upd_ne e2, upd_ne e2, upd_ne e]
section
variable {P : Program} {w : World} {K : PySem.W.Frag} {mg : Str → Option Value} {base : Heap}
/-- the class C, as a def of the class D asks it: what comes behind D is the built-in __init__ -/
structure ToBlt (K : PySem.W.Frag) (C D : Addr) (B newId i : String) (bmB : List Value) : Prop where
  kf : PySem.W.KxsFacts B i
  fb : ExcBaseFacts B newId i bmB
  obj : ∃ nm q N bs bm hd sn sub ab col dd k0 k1 k2 k3 k5, K.lookup C = some (excClassObj nm q C N bs bm hd sn sub ab col dd k0 k1 k2 k3 k5 newId)
  isB : PySem.W.subIn K (.ref C) (.type B) = some true
  sub : PySem.W.mroIn K C (.ref D) = some true
  along : PySem.W.ks_superIn K C D "__init__" = some (some (.builtin i))
  op : PySem.W.nsIn K PySem.cStatics "thirdparty.any" = some none
/-- .. or a def of the program's own -/
structure ToOwn (K : PySem.W.Frag) (C D f2 : Addr) : Prop where
  sub : PySem.W.mroIn K C (.ref D) = some true
  along : PySem.W.ks_superIn K C D "__init__" = some (some (.ref f2))
  op : PySem.W.nsIn K PySem.cStatics "thirdparty.any" = some none
/-- what the written part says of a def that says super(), with no context -/
structure SupK (P : Program) (K : PySem.W.Frag) (mg : Str → Option Value) (f cda cc D : Addr) (fd : FuncData) (slf : Str) : Prop where
  fn : ∃ oc od osl, K.lookup f = some ⟨oc, od, .func fd, osl⟩
  par : ∃ ar, (fd.params.posonlyargs ++ fd.params.args).head? = some ar ∧ ar.arg = slf
  code : ∃ ccl cdd vs ccs file tf, K.lookup cda = some ⟨ccl, cdd, .fields vs, ccs⟩ ∧ vs[2]? = some (.str file tf) ∧ ((P.main.file : Str) == file) = true
  cell : ∃ cl cld csl, K.lookup cc = some ⟨cl, cld, .cell (some (.ref D)), csl⟩
  cls : ∃ cdD, PySem.W.clsIn K D = some cdD
  top : (P.main.scope.names.lookup ("super" : Str)).isSome = false
  mg : mg "super" = none
theorem SupK.to {X : Cx} {f cda cc D : Addr} {fd : FuncData} {slf : Str} (T : SupK X.prog X.K X.mg f cda cc D fd slf) : SupDef X f cda cc D fd slf := ⟨T.fn, T.par, T.code, T.cell, T.cls, T.top, T.mg⟩
abbrev supEx (p0 p1 apos p3 : Pos) (e : Expr) : Expr := .Call (.Attribute (.Call (.Name "super" p0) [] [] p1) "__init__" apos) [e] [] p3
/-- how such a call is read -/
def SupEv (p0 p1 apos p3 : Pos) (e : Expr) (env : Env) (pl : Sem Bool) : Prop :=
  eval (supEx p0 p1 apos p3 e) env = (do
      let ov ← attributeBase (.Call (.Name "super" p0) [] [] p1) "__init__" env (eval (.Call (.Name "super" p0) [] [] p1) env)
      standAt apos.atName
      let (f, first) ← holding [ov] (getMethod ov "__init__" pl)
      callWith p3 f first (backTo p3 (starEach [e] env)) [])
/-- def __init__(self, x): super().__init__(x); self.x = x, over a built-in class -/
theorem init_blt {f cc cda D : Addr} {name qual par : Str} {params : Arguments} {p0 p1 apos p3 p4 p2 q1 q2 q3 q4 : Pos} {scope : Scope} {dV kV doc pm ct oc : Value} {an od : Option Addr} {osl : Array (Option Value)} {B newId i : String} {bmB : List Value} {pl : Sem Bool}
    (lk : K.lookup f = some ⟨oc, od, .func (PySem.W.fnX name qual params [.Expr (supEx p0 p1 apos p3 (.Name par p2)) p4, .Assign [.Attribute (.Name "self" q1) par q2] (.Name par q3) q4] scope [(("__class__" : Str), cc)] dV kV doc pm an (.ref cda) ct), osl⟩) (hcd : PySem.W.codeIn K (.ref cda) qual = true)
    (T : SupK P K mg f cda cc D (PySem.W.fnX name qual params [.Expr (supEx p0 p1 apos p3 (.Name par p2)) p4, .Assign [.Attribute (.Name "self" q1) par q2] (.Name par q3) q4] scope [(("__class__" : Str), cc)] dV kV doc pm an (.ref cda) ct) "self")
    (S : NScope ["self", par, "__class__"] ["self", par] ["__class__"] scope) (hks : scope.names.lookup ("super" : Str) = some .globalImplicit)
    (hev : ∀ env, SupEv p0 p1 apos p3 (.Name par p2) env pl) (hsw : ∀ env, swapsWith (supEx p0 p1 apos p3 (.Name par p2)) none p4.line env = pure false) (hsw2 : ∀ env, swapsWith (.Name par q3) (some (.Attribute (.Name "self" q1) par q2)) q4.line env = pure false)
    (hd : (par == ("__debug__" : Str)) = false) (hdc : (par == ("__classdict__" : Str)) = false) :
    FnOk P w K mg base CX0 1 f (PySem.W.fnX name qual params [.Expr (supEx p0 p1 apos p3 (.Name par p2)) p4, .Assign [.Attribute (.Name "self" q1) par q2] (.Name par q3) q4] scope [(("__class__" : Str), cc)] dV kV doc pm an (.ref cda) ct) ["self", par]
      (spI K (fun C => ToBlt K C D B newId i bmB ∧ PySem.W.findIn K (.ref C) par = some none) 1 fun ws => (ws.map fun c => (par, c))) := by
  obtain ⟨cl, cld, csl, hcell⟩ := T.cell
  refine fn_sup (k := 0) lk hcd hcell S (fun vs H Q E ⟨a, C, ws, e, hl, _⟩ => by rw [e, List.length_cons, hl]; rfl) (fun L => hsw _) fun A outer s H vs Q E hr ⟨a, C, ws, e, hl, ha, hox, ⟨hb, hfi⟩, hq⟩ => ?_
  obtain ⟨c, rfl⟩ : ∃ c, ws = [c] := by
    match ws, hl with
    | [c], _ => exact ⟨c, rfl⟩
  subst e
  have v0 : Vis scope "self" := .inl (S.par "self" (by simp))
  have v1 : Vis scope par := .inl (S.par par (by simp))
  refine ⟨_, fun v H1 => H1 = H, pss_one (ps_ostA (pe_var (i := 0) (x := "self") rfl v0) (pe_var (i := 1) (x := par) rfl v1 hd hdc) (hsw2 _)), fun s1 I => ?_, fun v H1 e => ?_⟩
  · refine at_sup_blt (x := a) (C := C) (dx := none) (B := B) (newId := newId) (i := i) (bmB := bmB) (pl := pl) I (SupK.to T) ⟨hb.sub, hb.along, hb.op⟩ ⟨hb.kf, hb.fb, hb.obj, hb.isB⟩ rfl rfl rfl rfl rfl (S.par "self" (by simp)) hks (S.frk "__class__" (by simp)) ha (pa_cons (pe_var (i := 1) (x := par) rfl v1 hd hdc) pa_nil) ?_ (hev _)
    exact ⟨c, rfl, by show 1 ≤ 1000; decide, ha, rfl⟩
  · subst e
    exact ⟨c, rfl, .ref a, rfl, a, C, rfl, hox, hfi, .inl ⟨ha, fun dx h1 h2 => hq dx h1 h2⟩⟩
end
end DX
set_option maxHeartbeats 4000000
namespace DX
open PySem PySem.Spec PyProof.Rows L2 ClX NdefX
section
variable {P : Program} {w : World} {K : PySem.W.Frag} {mg : Str → Option Value} {base : Heap}
theorem FnOk.r {CX : CXT} {k : Nat} {f : Addr} {fd : FuncData} {ps : List Str} {sp : Sp} (F : FnOk P w K mg base CX k f fd ps sp) (hb : Binds K fd ps []) : FnR P w K mg base CX k f sp := fun A outer s H us vs Q E hr e0 r h => by
  have KX : K.In s.heap := e0.mod.kin.keeps fun b o e => (e0.bs b o e).1
  have hl : us.length = ps.length := by rw [← r.length]; exact F.len _ _ _ _ h
  have b := hb s us KX (by rw [List.append_nil]; exact hl)
  rw [List.append_nil] at b
  exact F.run A outer s H ⟨us, []⟩ us vs Q E hr e0 b r h
abbrev asgS (par : Str) (q1 q2 q3 q4 : Pos) : Stmt := .Assign [.Attribute (.Name "self" q1) par q2] (.Name par q3) q4
def codeF (z : Str) : V → List (Str × V) := fun _ => [("code", .str z)]
/-- def __init__(self): super().__init__('Z') -/
theorem init_own0 {f f2 cc cda D : Addr} {name qual z : Str} {params : Arguments} {p0 p1 apos p3 p4 p2 : Pos} {j : Nat} {scope : Scope} {dV kV doc pm ct oc : Value} {an od : Option Addr} {osl : Array (Option Value)} {pl : Sem Bool} {k : Nat} {ok : Addr → Prop}
    (lk : K.lookup f = some ⟨oc, od, .func (PySem.W.fnX name qual params [.Expr (supEx p0 p1 apos p3 (.Constant (.str z) j p2)) p4] scope [(("__class__" : Str), cc)] dV kV doc pm an (.ref cda) ct), osl⟩) (hcd : PySem.W.codeIn K (.ref cda) qual = true)
    (T : SupK P K mg f cda cc D (PySem.W.fnX name qual params [.Expr (supEx p0 p1 apos p3 (.Constant (.str z) j p2)) p4] scope [(("__class__" : Str), cc)] dV kV doc pm an (.ref cda) ct) "self")
    (S : NScope ["self", "__class__"] ["self"] ["__class__"] scope) (hks : scope.names.lookup ("super" : Str) = some .globalImplicit)
    (hev : ∀ env, SupEv p0 p1 apos p3 (.Constant (.str z) j p2) env pl) (hsw : ∀ env, swapsWith (supEx p0 p1 apos p3 (.Constant (.str z) j p2)) none p4.line env = pure false)
    (hf2 : PySem.W.fnIn K f2 = true) (ht2 : PySem.W.typeIn K (.ref f2) = some (.type "function")) (F2 : FnR P w K mg base CX0 k f2 (spI K ok 1 fun ws => (ws.map fun c => ("code", c)))) :
    FnOk P w K mg base CX0 (k + 1) f (PySem.W.fnX name qual params [.Expr (supEx p0 p1 apos p3 (.Constant (.str z) j p2)) p4] scope [(("__class__" : Str), cc)] dV kV doc pm an (.ref cda) ct) ["self"]
      (spI K (fun C => ToOwn K C D f2 ∧ ok C) 0 fun _ => [("code", .str z)]) := by
  obtain ⟨cl, cld, csl, hcell⟩ := T.cell
  refine fn_sup (k := k) lk hcd hcell S (fun vs H Q E ⟨a, C, ws, e, hl, _⟩ => by rw [e, List.length_cons, hl]; rfl) (fun L => hsw _) fun A outer s H vs Q E hr ⟨a, C, ws, e, hl, ha, hox, ⟨ho, hok⟩, hq⟩ => ?_
  obtain rfl : ws = [] := List.length_eq_zero_iff.mp hl
  subst e
  refine ⟨_, fun v H1 => ∃ dx, H dx = none ∧ dx ≠ a ∧ H1 = upd (upd H dx (exd dx [("code", .str z)])) a (exo a C (some dx)), pss_nil, fun s1 I => ?_, fun v H1 ⟨dx, h1, h2, e⟩ => ?_⟩
  · refine at_sup_own (x := a) (C := C) (dx := none) (pl := pl) (EE := fun _ _ _ => False) I (SupK.to T) ⟨ho.sub, ho.along, ho.op⟩ hf2 ht2 rfl rfl rfl rfl rfl (S.par "self" (by simp)) hks (S.frk "__class__" (by simp)) ha F2 hr (fun _ _ _ _ _ _ _ h => h.elim) (pa_cons pe_str pa_nil) ?_ (hev _)
    exact ⟨a, C, [.str z], rfl, rfl, ha, hox, hok, fun dx h1 h2 => ⟨dx, h1, h2, rfl⟩⟩
  · subst e
    exact hq dx h1 h2
/-- def __init__(self, x): super().__init__('Z'); self.x = x -/
theorem init_own1 {f f2 cc cda D : Addr} {name qual z par : Str} {params : Arguments} {p0 p1 apos p3 p4 p2 q1 q2 q3 q4 : Pos} {j : Nat} {scope : Scope} {dV kV doc pm ct oc : Value} {an od : Option Addr} {osl : Array (Option Value)} {pl : Sem Bool} {k : Nat} {ok : Addr → Prop}
    (lk : K.lookup f = some ⟨oc, od, .func (PySem.W.fnX name qual params [.Expr (supEx p0 p1 apos p3 (.Constant (.str z) j p2)) p4, asgS par q1 q2 q3 q4] scope [(("__class__" : Str), cc)] dV kV doc pm an (.ref cda) ct), osl⟩) (hcd : PySem.W.codeIn K (.ref cda) qual = true)
    (T : SupK P K mg f cda cc D (PySem.W.fnX name qual params [.Expr (supEx p0 p1 apos p3 (.Constant (.str z) j p2)) p4, asgS par q1 q2 q3 q4] scope [(("__class__" : Str), cc)] dV kV doc pm an (.ref cda) ct) "self")
    (S : NScope ["self", par, "__class__"] ["self", par] ["__class__"] scope) (hks : scope.names.lookup ("super" : Str) = some .globalImplicit)
    (hev : ∀ env, SupEv p0 p1 apos p3 (.Constant (.str z) j p2) env pl) (hsw : ∀ env, swapsWith (supEx p0 p1 apos p3 (.Constant (.str z) j p2)) none p4.line env = pure false) (hsw2 : ∀ env, swapsWith (.Name par q3) (some (.Attribute (.Name "self" q1) par q2)) q4.line env = pure false)
    (hd : (par == ("__debug__" : Str)) = false) (hdc : (par == ("__classdict__" : Str)) = false)
    (hf2 : PySem.W.fnIn K f2 = true) (ht2 : PySem.W.typeIn K (.ref f2) = some (.type "function")) (F2 : FnR P w K mg base CX0 k f2 (spI K ok 1 fun ws => (ws.map fun c => ("code", c)))) :
    FnOk P w K mg base CX0 (k + 1) f (PySem.W.fnX name qual params [.Expr (supEx p0 p1 apos p3 (.Constant (.str z) j p2)) p4, asgS par q1 q2 q3 q4] scope [(("__class__" : Str), cc)] dV kV doc pm an (.ref cda) ct) ["self", par]
      (spI K (fun C => ToOwn K C D f2 ∧ ok C ∧ PySem.W.findIn K (.ref C) par = some none) 1 fun ws => (ws.map fun c => (par, c)) ++ [(("code" : Str), V.str z)]) := by
  obtain ⟨cl, cld, csl, hcell⟩ := T.cell
  refine fn_sup (k := k) lk hcd hcell S (fun vs H Q E ⟨a, C, ws, e, hl, _⟩ => by rw [e, List.length_cons, hl]; rfl) (fun L => hsw _) fun A outer s H vs Q E hr ⟨a, C, ws, e, hl, ha, hox, ⟨ho, hok, hfi⟩, hq⟩ => ?_
  obtain ⟨c, rfl⟩ : ∃ c, ws = [c] := by
    match ws, hl with
    | [c], _ => exact ⟨c, rfl⟩
  subst e
  have v0 : Vis scope "self" := .inl (S.par "self" (by simp))
  have v1 : Vis scope par := .inl (S.par par (by simp))
  refine ⟨_, fun v H1 => ∃ dx, H dx = none ∧ dx ≠ a ∧ H1 = upd (upd H dx (exd dx [("code", .str z)])) a (exo a C (some dx)), pss_one (ps_ostA (pe_var (i := 0) (x := "self") rfl v0) (pe_var (i := 1) (x := par) rfl v1 hd hdc) (hsw2 _)), fun s1 I => ?_, fun v H1 ⟨dx, h1, h2, e⟩ => ?_⟩
  · refine at_sup_own (x := a) (C := C) (dx := none) (pl := pl) (EE := fun _ _ _ => False) I (SupK.to T) ⟨ho.sub, ho.along, ho.op⟩ hf2 ht2 rfl rfl rfl rfl rfl (S.par "self" (by simp)) hks (S.frk "__class__" (by simp)) ha F2 hr (fun _ _ _ _ _ _ _ h => h.elim) (pa_cons pe_str pa_nil) ?_ (hev _)
    exact ⟨a, C, [.str z], rfl, rfl, ha, hox, hok, fun dx h1 h2 => ⟨dx, h1, h2, rfl⟩⟩
  · subst e
    refine ⟨c, rfl, .ref a, rfl, a, C, rfl, hox, hfi, .inr ⟨dx, _, upd_same, by rw [upd_ne h2, upd_same], by show 1 ≤ 900; decide, ?_⟩⟩
    have := hq dx h1 h2
    show Q .non (upd (upd (upd H dx (exd dx [("code", .str z)])) a (exo a C (some dx))) dx (exd dx [(par, c), ("code", .str z)]))
    rw [upd_comm (Ne.symm h2), upd2]
    exact this
/-- .. two of them -/
theorem init_own2 {f f2 cc cda D : Addr} {name qual z par par2 : Str} {params : Arguments} {p0 p1 apos p3 p4 p2 q1 q2 q3 q4 r1 r2 r3 r4 : Pos} {j : Nat} {scope : Scope} {dV kV doc pm ct oc : Value} {an od : Option Addr} {osl : Array (Option Value)} {pl : Sem Bool} {k : Nat} {ok : Addr → Prop}
    (lk : K.lookup f = some ⟨oc, od, .func (PySem.W.fnX name qual params [.Expr (supEx p0 p1 apos p3 (.Constant (.str z) j p2)) p4, asgS par q1 q2 q3 q4, asgS par2 r1 r2 r3 r4] scope [(("__class__" : Str), cc)] dV kV doc pm an (.ref cda) ct), osl⟩) (hcd : PySem.W.codeIn K (.ref cda) qual = true)
    (T : SupK P K mg f cda cc D (PySem.W.fnX name qual params [.Expr (supEx p0 p1 apos p3 (.Constant (.str z) j p2)) p4, asgS par q1 q2 q3 q4, asgS par2 r1 r2 r3 r4] scope [(("__class__" : Str), cc)] dV kV doc pm an (.ref cda) ct) "self")
    (S : NScope ["self", par, par2, "__class__"] ["self", par, par2] ["__class__"] scope) (hks : scope.names.lookup ("super" : Str) = some .globalImplicit)
    (hev : ∀ env, SupEv p0 p1 apos p3 (.Constant (.str z) j p2) env pl) (hsw : ∀ env, swapsWith (supEx p0 p1 apos p3 (.Constant (.str z) j p2)) none p4.line env = pure false) (hsw2 : ∀ env, swapsWith (.Name par q3) (some (.Attribute (.Name "self" q1) par q2)) q4.line env = pure false) (hsw3 : ∀ env, swapsWith (.Name par2 r3) (some (.Attribute (.Name "self" r1) par2 r2)) r4.line env = pure false)
    (hd : (par == ("__debug__" : Str)) = false) (hdc : (par == ("__classdict__" : Str)) = false) (hd2 : (par2 == ("__debug__" : Str)) = false) (hdc2 : (par2 == ("__classdict__" : Str)) = false)
    (hf2 : PySem.W.fnIn K f2 = true) (ht2 : PySem.W.typeIn K (.ref f2) = some (.type "function")) (F2 : FnR P w K mg base CX0 k f2 (spI K ok 1 fun ws => (ws.map fun c => ("code", c)))) :
    FnOk P w K mg base CX0 (k + 1) f (PySem.W.fnX name qual params [.Expr (supEx p0 p1 apos p3 (.Constant (.str z) j p2)) p4, asgS par q1 q2 q3 q4, asgS par2 r1 r2 r3 r4] scope [(("__class__" : Str), cc)] dV kV doc pm an (.ref cda) ct) ["self", par, par2]
      (spI K (fun C => ToOwn K C D f2 ∧ ok C ∧ PySem.W.findIn K (.ref C) par = some none ∧ PySem.W.findIn K (.ref C) par2 = some none) 2 fun ws => (([par, par2].zip ws).reverse) ++ [(("code" : Str), V.str z)]) := by
  obtain ⟨cl, cld, csl, hcell⟩ := T.cell
  refine fn_sup (k := k) lk hcd hcell S (fun vs H Q E ⟨a, C, ws, e, hl, _⟩ => by rw [e, List.length_cons, hl]; rfl) (fun L => hsw _) fun A outer s H vs Q E hr ⟨a, C, ws, e, hl, ha, hox, ⟨ho, hok, hfi, hfi2⟩, hq⟩ => ?_
  obtain ⟨c, c2, rfl⟩ : ∃ c c2, ws = [c, c2] := by
    match ws, hl with
    | [c, c2], _ => exact ⟨c, c2, rfl⟩
  subst e
  have v0 : Vis scope "self" := .inl (S.par "self" (by simp))
  have v1 : Vis scope par := .inl (S.par par (by simp))
  have v2 : Vis scope par2 := .inl (S.par par2 (by simp))
  refine ⟨_, fun v H1 => ∃ dx, H dx = none ∧ dx ≠ a ∧ H1 = upd (upd H dx (exd dx [("code", .str z)])) a (exo a C (some dx)), pss_cons (ps_ostA (pe_var (i := 0) (x := "self") rfl v0) (pe_var (i := 1) (x := par) rfl v1 hd hdc) (hsw2 _)) (pss_one (ps_ostA (pe_var (i := 0) (x := "self") rfl v0) (pe_var (i := 2) (x := par2) rfl v2 hd2 hdc2) (hsw3 _))), fun s1 I => ?_, fun v H1 ⟨dx, h1, h2, e⟩ => ?_⟩
  · refine at_sup_own (x := a) (C := C) (dx := none) (pl := pl) (EE := fun _ _ _ => False) I (SupK.to T) ⟨ho.sub, ho.along, ho.op⟩ hf2 ht2 rfl rfl rfl rfl rfl (S.par "self" (by simp)) hks (S.frk "__class__" (by simp)) ha F2 hr (fun _ _ _ _ _ _ _ h => h.elim) (pa_cons pe_str pa_nil) ?_ (hev _)
    exact ⟨a, C, [.str z], rfl, rfl, ha, hox, hok, fun dx h1 h2 => ⟨dx, h1, h2, rfl⟩⟩
  · subst e
    refine ⟨c, rfl, .ref a, rfl, a, C, rfl, hox, hfi, .inr ⟨dx, _, upd_same, by rw [upd_ne h2, upd_same], by show 1 ≤ 900; decide, ?_⟩⟩
    rw [upd_comm (Ne.symm h2), upd2]
    refine ⟨c2, rfl, .ref a, rfl, a, C, rfl, hox, hfi2, .inr ⟨dx, _, upd_same, by rw [upd_ne h2, upd_same], by show 2 ≤ 900; decide, ?_⟩⟩
    rw [upd_comm (Ne.symm h2), upd2]
    exact hq dx h1 h2
end
end DX
set_option maxHeartbeats 4000000
namespace DX
open PySem PySem.Spec PyProof.Rows L2 DL
theorem pmk_le {X : Cx} {e : Expr} {t u : L2.St → Hp → XK → Prop} (h : PMk X e t) (le : ∀ σ H Q, u σ H Q → t σ H Q) : PMk X e u := fun pins s σ H Q I q => h pins s σ H Q I (le σ H Q q)
/-- X(e, ..): an exception with its fields, over data -/
def tMkD (K : PySem.W.Frag) (E : XK) (C : Addr) (n : Nat) (fs : List D → List (Str × D)) (m : MA) : L2.St → Hp → XK → Prop := fun σ H Q => ∃ M S Γ kr kx, R K M S H ∧ EnvR K (hid M S H) Γ σ ∧
  m Γ M (fun ds M1 => ds.length = n ∧ kr ⟨.ref C, some (fs ds)⟩ M1) kx ∧ KeepX K S (hid M S H) kr Q ∧ KeepX K S (hid M S H) kx E
/-- the fields of data stand for the fields of values -/
def FsOk (K : PySem.W.Frag) (n : Nat) (fd : List D → List (Str × D)) (fv : List V → List (Str × V)) : Prop := ∀ F ds vs, DVs K F ds vs → ds.length = n → KVD K F (fd ds) (fv vs)
/-- raise X(e, ..) -/
def mRaise (C : Addr) (n : Nat) (fs : List D → List (Str × D)) (m : MA) : MS := fun De Γ M kx => m Γ M (fun ds M1 => ds.length = n ∧ kx ⟨.ref C, some (fs ds)⟩ M1) kx
section
variable {X : Cx} {e : Expr} {es : List Expr} {E : XK} {mA : MA} {p pos rpos : Pos} {x : Str} {C fI : Addr} {k n : Nat} {fd : FuncData} {ps : List Str} {ok : Addr → Prop} {fs : List V → List (Str × V)} {fsD : List D → List (Str × D)}
theorem made2 {H1 : Hp} {a d : Addr} {fv : List (Str × V)} {o1 o2 o3 : HO} (ha : H1 a = none) (hd : d ≠ a) : upd (del (upd (upd (upd H1 a o1) d o2) a o3) a) d (.xd fv) = upd H1 d (.xd fv) := by
  funext b
  by_cases e1 : b = d
  · rw [e1, upd_same, upd_same]
  · rw [upd_ne e1, upd_ne e1]
    by_cases e2 : b = a
    · rw [e2, del_same, ha]
    · rw [del_ne e2, upd_ne e2, upd_ne e1, upd_ne e2]
theorem pmk_err (T : OexA X.K C) (iC : PySem.W.findIn X.K (.ref C) "__init__" = some (some (.ref fI))) (tI : PySem.W.typeIn X.K (.ref fI) = some (.type "function"))
    (F1 : FnOk X.prog X.w X.K X.mg X.base CX0 k fI fd ps (DX.spI X.K ok n fs)) (hok : ok C) (hn : n ≤ 1000) (hr : Room (k + 1) X.A) (hb : Binds X.K fd ps []) (hg : Gl X x) (hm : X.mg x = some (.ref C)) (hfs : FsOk X.K n fsD fs) (ha : PA X (e :: es) (tA X.K E mA))
    (hdb : (x == ("__debug__" : Str)) = false := by decide) (he : starEach (e :: es) X.env = (false, eval e X.env) :: starEach es X.env := by rfl) (hpl : (backTo pos (starEach es X.env)).any (·.1) = false := by rfl) :
    PMk X (.Call (.Name x p) (e :: es) [] pos) (tMkD X.K E C n fsD mA) := by
  refine pmk_le (pmk_oexA T iC tI F1 hr hb .nil (fun _ _ _ _ _ _ _ h => h.elim) hg hm ha hdb he hpl) fun σ H Q ⟨M, S, Γ, kr, kx, r, er, h, kq, kxx⟩ => ?_
  refine ⟨M, S, Γ, _, kx, r, er, h, fun ds M1 ⟨hl, q⟩ H1 vs r1 e1 d1 => ?_, kxx⟩
  have hv : vs.length = n := by rw [← d1.length]; exact hl
  refine ⟨by omega, fun a hn0 => ⟨a, C, vs ++ [], rfl, by rw [List.append_nil]; exact hv, upd_same, T, hok, fun dx h1 h2 => ?_⟩⟩
  rw [upd_ne h2] at h1
  refine ⟨rfl, dx, fs (vs ++ []), upd_same, by rw [upd_ne h2, upd_same], h1, ?_⟩
  rw [made2 hn0 h2, List.append_nil]
  obtain ⟨g1, g2, g3⟩ := r1.new (o := .xd (fs vs)) h1
  exact kq _ M1 q _ _ _ g1 (e1.trans g2) ⟨rfl, dx, fs vs, rfl, g3, KVD.mono g2 (hfs _ _ _ d1 hl)⟩
theorem ds_raise {ce : Expr} (hc : X.calm = true) (tk : Takes X fun c d _ H => E c d H) (mk : PMk X ce (tMkD X.K E C n fsD mA)) : PS X (.Raise (some ce) none rpos) (tSt X.K E (mRaise C n fsD mA)) :=
  ps_le (ps_raise hc tk mk) fun D σ H ⟨M, S, Γ, De, kx, r, er, h, h1, h2, h3, h4, h5⟩ => ⟨M, S, Γ, kx, kx, r, er, h, h5, h5⟩
end
end DX
set_option maxHeartbeats 4000000
namespace DX
open PySem PySem.Spec PyProof.Rows L2 DL
section
variable {P : Program} {w : World} {K : PySem.W.Frag} {mg : Str → Option Value} {base : Heap} {x qual : Str} {params : Arguments} {body : List Stmt} {scope : Scope} {dvs : List V} {kws : List (Str × V)} {f : Addr} {fd : FuncData}
/-- what leaves a def that may raise -/
theorem takesX {N : List Str} {cdv : Value} {A : Around} {outer : List PySem.Env} {sh : Shared} {H : Hp} {E : XK} : Takes (cxOf (L2.CX P w) P w K mg base N qual scope f cdv A outer sh H E) fun c d _ H' => E c d H' := takes_of rfl rfl rfl rfl
/-- a def that may raise, by its reading -/
theorem d_okX {N ps : List Str} {k : Nat} {m : MS} {s : MF} (F : FunD K x qual params body scope dvs kws f fd) (S : FnScope N ps scope)
    (hb : ∀ (cdv : Value) (A : Around) (outer : List PySem.Env) (sh : Shared) (H : Hp) (E : XK), Room k (A.deeper (envOfC qual scope sh.heap.objs.size f cdv)) → PSs (cxOf (L2.CX P w) P w K mg base N qual scope f cdv A outer sh H E) body (tSt K E m))
    (len : ∀ ds M k kx, s ds M k kx → ds.length = ps.length)
    (hs : ∀ ds M k kx, s ds M k kx → m { nx := fun _ M' => k .non M', rt := k } (startD N.length ds) M kx) : FnOk P w K mg base (L2.CX P w) (k + 1) f fd ps (DL.spI K s) := by
  refine F.ok S (fun vs H Q E ⟨M, S, ds, k, kx, r, hd, h, _⟩ => by rw [← hd.length]; exact len _ _ _ _ h) fun cdv A outer sh H vs Q E hr ⟨M, S, ds, k, kx, r, hd, h, kv, kxx⟩ => ⟨_, hb cdv A outer sh H E hr, ?_⟩
  exact ⟨M, S, _, _, kx, r, start_ok hd, hs _ _ _ _ h, fun Γ' M' q H' σ' r' e' er' => kv _ M' q H' _ r' e' (dv_non.mpr rfl), kv, fun Γ' M' q => q.elim, fun Γ' M' q => q.elim, kxx⟩
/-- a call of a def that may raise -/
theorem passX {X : Cx} {E : XK} (tk : Takes X fun c d _ H => E c d H) : Passes (L2.CX X.prog X.w) X E := passes_call tk fun _ _ _ _ h => h
end
end DX
set_option maxHeartbeats 4000000
namespace DX
open PySem PySem.Spec PyProof.Rows L2
theorem fly_up {base h1 h2 : Heap} {l : List PySem.Env} {e : Addr} {Z : Obj → Prop} (k : ∀ b o, h1.get? b = some o → h2.get? b = some o) (fl : HandSPX.FlyingZ base l e Z h1) : HandSPX.FlyingZ base l e Z h2 := by
  obtain ⟨g1, g2, g3, oe, vs, T, oT, ts, i1, i2, i3, i4, i5, i6, i7, i8, i9⟩ := fl
  exact ⟨fun b o q => k b o (g1 b o q), g2, Heap.FunFrames.of_keeps (fun b o q _ => ⟨o, k b o q, rfl⟩) g3, oe, vs, T, oT, ts, k _ _ i1, i2, i3, i4, i5, i6, k _ _ i7, i8, i9⟩
theorem slots_up {h1 h2 : Heap} (k : ∀ b o, h1.get? b = some o → h2.get? b = some o) : h1.UpToSlots h2 := fun b o q _ => ⟨o.slots, k b o q⟩
/-- an exception that the clause takes: slot i is the clause's name -/
def wTake (K : PySem.W.Frag) (cs : List Value) (n i : Nat) (ts : Addr → Value → Option Addr → TS) (D : Ends) : WX := fun cls d σ H => PySem.W.exmAny K cls cs = some true ∧
  (σ.length = n → ∀ a, H a = none → ts a cls d { nx := fun σ' H' => D.nx (σ'.set i none) H', rt := D.rt, bk := fun σ' H' => D.bk (σ'.set i none) H', ct := fun σ' H' => D.ct (σ'.set i none) H' } (σ.set i (some (.ref a))) H)
section
variable {X : Cx} {x1 x2 x3 n : Str} {c1 c2 c3 : Value} {i kk : Nat} {body suite : List Stmt} {b₀ : Stmt} {np1 np2 np3 tpos pos pos' : Pos} {tb : WX → TS} {ts : Addr → Value → Option Addr → TS}
/-- try: body / except (x1, x2, x3) as n: suite, where all that is raised is taken -/
theorem ps_try3 (hs : X.stack = X.env :: X.outer) (hf : X.env.frame = some X.env.locals) (hN : X.N.Nodup) (hi : X.N[i]? = some n) (hln : X.env.kindOf n = some .local) (m1 : Names X x1 c1) (m2 : Names X x2 c2) (m3 : Names X x3 c3)
    (hb : ∀ (W : WX) (pn : List (Addr × Obj)) (xe : Value → Shared → Prop), Takes (X.tr pn xe) W → PassesOwn (model X.prog X.w) X.A X.env xe → PSs (X.tr pn xe) body (tb W))
    (hsu : ∀ (a : Addr) (oe : Obj) (cls : Value) (d : Option Addr) (pn : List (Addr × Obj)), Zc cls d oe → (∃ vs, oe.data = .fields vs) → PSs (X.suite a ((a, oe) :: pn)) (b₀ :: suite) (ts a cls d)) :
    PS X (.Try body [.ExceptHandler (some (.Tuple [.Name x1 np1, .Name x2 np2, .Name x3 np3] kk tpos)) (some n) (b₀ :: suite) pos'] [] [] pos) (fun D σ H => tb (wTake X.K [c1, c2, c3] X.N.length i ts D) D σ H) := by
  refine ⟨fun pins s σ H D I h => wpAny_Try_except ?_⟩
  have ok := I.ok
  have hfr : X.A.frames = some (X.env :: X.outer) := ok.frames.trans (congrArg some hs)
  refine wpAny_mono ((hb (wTake X.K [c1, c2, c3] X.N.length i ts D) (X.pn ++ pins) _ (fun u s' xx => ?_) PassesOwn.looking).run [] s σ H D (I.toTry _) h) (fun fl s1 hsp => ?_) (fun _ _ z => z)
  rotate_left
  · cases fl with
    | next => obtain ⟨σ1, H1, J1, q⟩ := hsp; exact wpAny_execs_nil ⟨σ1, H1, J1.ofTry ok, q⟩
    | brk => obtain ⟨σ1, H1, J1, q⟩ := hsp; exact ⟨σ1, H1, J1.ofTry ok, q⟩
    | cont => obtain ⟨σ1, H1, J1, q⟩ := hsp; exact ⟨σ1, H1, J1.ofTry ok, q⟩
    | ret u => obtain ⟨v, σ1, H1, J1, r, q⟩ := hsp; exact ⟨v, σ1, H1, J1.ofTry ok, r, q⟩
  obtain ⟨a, B, sI, pins1, σ1, H1, cls, d, rfl, J0, nb, up, sky, na, os, ag, hm, hyes⟩ := xx
  have J : Inv X pins σ1 H1 sI := J0.ofTry ok
  rw [show (X.tr (X.pn ++ pins) _).stack = X.env :: X.outer from hs] at sky
  refine Sky.land Zc.steady hfr hf sky fun h3 fl3 up3 => ?_
  have J3 : Inv X pins σ1 H1 { s' with heap := h3 } := J.landed nb fl3.1 (up.trans up3) os ag
  have off : ∀ {hh : Heap}, HandSPX.FlyingZ B (X.env :: X.outer) a (Zc cls d) hh → ∃ o vs, hh.get? a = some o ∧ Zc cls d o ∧ o.data = .fields vs ∧ a ∉ frs (X.env :: X.outer) := fun {hh} fl => by
    obtain ⟨o, vs, e1, e2, e3⟩ := fl.there
    refine ⟨o, vs, e1, e2, e3, fun hm => ?_⟩
    obtain ⟨_, o2, e4, hnf⟩ := fl.2.2.1.mem hm
    cases e1.symm.trans e4
    exact hnf _ e3
  obtain ⟨oe3, vs3, he3, hz3, hd3, nfr⟩ := off fl3
  have nL : a ≠ X.env.locals := fun z => nfr (List.mem_filterMap.mpr ⟨X.env, List.mem_cons_self, hf.trans (congrArg some z.symm)⟩)
  have nF : a ∉ X.fs := fun hm => by
    obtain ⟨en, he, q⟩ := List.mem_filterMap.mp hm
    exact nfr (List.mem_filterMap.mpr ⟨en, List.mem_cons_of_mem _ he, q⟩)
  have S3 := J3.suite he3 hd3 na nL nF
  have LT : PySem.W.Looks (model X.prog X.w) h3 (typeOf (.ref a)) cls := fun A Q E s k q => wpAny_typeOf_ref (k _ _ he3) (by rw [hz3.1]; exact q)
  have nm : ∀ {x : Str} {c : Value} {np : Pos}, Names X x c → ∀ {Q : Value → Shared → Prop} {E : Value → Shared → Prop}, Q c { s' with heap := h3 } → wpAny (model X.prog X.w) (X.A.mark (some (.ref a))) (eval (.Name x np) X.env) Q E { s' with heap := h3 } := fun {x c np} hc {Q E} q => by
    obtain ⟨hg, hdbg, hm | ⟨hm, hv, hnn⟩⟩ := hc
    · exact ld_glob (X := X.suite a ((a, oe3) :: (X.pn ++ pins))) S3 hg hm q hdbg
    · exact ld_blt (X := X.suite a ((a, oe3) :: (X.pn ++ pins))) S3 hg hm hv q hnn hdbg
  refine wpAny_handleBy_cons (codeAny_handlers_test (wpAny_Tuple (wpAny_items_cons (nm m1 (wpAny_items_cons (nm m2 (wpAny_items_cons (nm m3 (wpAny_items_nil ⟨by size_fits, ?_⟩)))))))) ) (by intro q; cases q)
  have kp : ∀ q o, h3.get? q = some o → (h3.push { cls := .type "tuple", data := .seq [c1, c2, c3].toArray }).get? q = some o := fun _ _ z => Heap.get?_push_of_some _ z
  refine (PySem.W.exm_tup3 (J3.kIn.keeps kp) (LT.keeps kp) (Heap.get?_push_size h3 rfl) hm).here ?_
  refine codeAny_handlers_suite_as (HandSPX.lands_againZ (fly_up kp fl3) fun h4 fl4 up4 => ?_)
  have J4 : Inv X pins σ1 H1 { s' with heap := h4 } := J.landed nb fl4.1 (((up.trans up3).trans (slots_up kp)).trans up4) os ag
  obtain ⟨oe4, vs4, he4, hz4, hd4, _⟩ := off fl4
  refine store_ok (X := X.suite a ((a, oe4) :: (X.pn ++ pins))) (v := .ref a) (J4.suite he4 hd4 na nL nF) hN hi (.inl hln) rfl (fun s5 S5 => ?_) (.inr hln)
  refine wpAny_mono ((hsu a oe4 cls d (X.pn ++ pins) hz4 ⟨_, hd4⟩).run [] s5 _ H1 _ S5 (hyes J.len a na)) (fun fl s6 hsp => ?_) (fun _ _ z => False.elim z)
  have gone : ∀ {σ6 : L2.St} {H6 : Hp} {Q : Shared → Prop}, Inv (X.suite a ((a, oe4) :: (X.pn ++ pins))) [] σ6 H6 s6 → (∀ s7, Inv X pins (σ6.set i none) H6 s7 → Q s7) →
      wpAny (model X.prog X.w) X.A (do bindName X.env n .none; unbindBehindTheSuite X.env n pos') (fun _ s7 => Q s7) X.xe s6 := fun {σ6 H6 Q} S6 hq => gone_ok (S6.unsuite ok) hN hi hln hq
  cases fl with
  | next => obtain ⟨σ6, H6, S6, q6⟩ := hsp; exact gone S6 fun s7 J7 => ⟨_, _, J7, q6⟩
  | brk => obtain ⟨σ6, H6, S6, q6⟩ := hsp; exact gone S6 fun s7 J7 => ⟨_, _, J7, q6⟩
  | cont => obtain ⟨σ6, H6, S6, q6⟩ := hsp; exact gone S6 fun s7 J7 => ⟨_, _, J7, q6⟩
  | ret u => obtain ⟨v6, σ6, H6, S6, r6, q6⟩ := hsp; exact gone S6 fun s7 J7 => ⟨_, _, _, J7, r6, q6⟩
end
end DX
set_option maxHeartbeats 4000000
namespace DX
open PySem PySem.Spec PyProof.Rows L2
/-- the reading of e.f, e the exception at a that the context keeps -/
abbrev PinX (X : Cx) (a : Addr) (oe : Obj) (cls : Value) (d : Option Addr) : Prop := (a, oe) ∈ X.pn ∧ Zc cls d oe ∧ ∃ vs, oe.data = .fields vs
theorem pe_field {X : Cx} {a C : Addr} {oe : Obj} {cls : Value} {d : Option Addr} {e : Expr} {te : TE} {pos : Pos} {n : Str} (T : XfC X.K C) (hno : PySem.W.findIn X.K (.ref C) n = some none) (hp : PinX X a oe cls d)
    (he : PE X e te) (hb : attributeBase e n X.env (eval e X.env) = eval e X.env := by rfl) : PE X (.Attribute e n pos) (tXf a cls d C n te) := by
  obtain ⟨hm, hz, vs, hd⟩ := hp
  refine ⟨fun pins s σ H Q I h => attr_of hb (thn (he.run pins s σ H _ I h) fun u s1 hh => ?_)⟩
  obtain ⟨x, H1, I1, rx, ex, ec, dd, fs, v, ed, ea, l, q⟩ := hh
  subst ex ec ed
  cases (show u = Value.ref a from rx)
  have hx : ObjOk X.prog X.w H1 s1.heap dd (.xd fs) := I1.hok dd _ ea
  obtain ⟨mA, hns, hr⟩ := hx
  obtain ⟨od, ho, hl⟩ := lookIn_ns hns
  obtain ⟨u2, hu, ru⟩ := RelO.some_of (v := v) (o := mA n) (l ▸ hr n)
  have J : PySem.W.InstAt s1.heap a oe C (some od) := ⟨(I1.pin (a, oe) (List.mem_append_left _ hm)).1, hz.1, by unfold PySem.W.notCls; rw [hd] <;> rfl, by rw [hz.2]; exact ho⟩
  exact HandSPX.exc_get I1.kIn J T.ga T.gg T.exC (PySem.W.findObj_own T.hdC hno rfl (by rw [hl, hu])) (handed_of ru) ⟨v, H1, I1.tok _, ru, q⟩
/-- a def that is called where p's exception is handled: its promise may speak of p -/
structure FnE (P : Program) (w : World) (K : PySem.W.Frag) (mg : Str → Option Value) (base : Heap) (k : Nat) (f : Addr) (fd : FuncData) (ps : List Str) (sp : Addr × Obj → Sp) : Prop where
  len : ∀ p vs H Q E, sp p vs H Q E → vs.length = ps.length
  run : ∀ (A : Around) (outer : List PySem.Env) (s : Shared) (H : Hp) (args : Args) (us : List Value) (vs : List V) (Q : VK) (E : XK) (p : Addr × Obj), L2H.RoomH k A → L2H.PinOk outer H s p → Env0 P w K mg base A outer s H → BindsTo s fd args (ps.zip us) → Vals vs us → sp p vs H Q E →
    codeAny (model P w) A (.call (.ref f) args) (CR CX0 outer P w H s Q E) s
theorem fn_e {P : Program} {w : World} {K : PySem.W.Frag} {mg : Str → Option Value} {base : Heap} {k : Nat} {f : Addr} {x qual : Str} {params : Arguments} {body : List Stmt} {scope : Scope} {kws : List (Str × V)} {dvs : List V} {fd : FuncData} {N ps : List Str} {sp : Addr × Obj → Sp}
    (F : FunD K x qual params body scope dvs kws f fd) (S : FnScope N ps scope) (len : ∀ p vs H Q E, sp p vs H Q E → vs.length = ps.length)
    (hbody : ∀ (cdv : Value) (A : Around) (outer : List PySem.Env) (s : Shared) (H : Hp) (vs : List V) (Q : VK) (E : XK) (p : Addr × Obj), L2H.RoomH k (A.deeper (envOfC qual scope s.heap.objs.size f cdv)) → sp p vs H Q E →
      ∃ t, PSs (L2H.cxH CX0 P w K mg base N qual scope f cdv A outer s H E p) body t ∧ t { nx := fun _ H' => Q .non H', rt := Q } (L2.start N vs) H) :
    FnE P w K mg base (k + 1) f fd ps sp := by
  obtain ⟨oc, od, dV, kV, doc, pm, an, cdv, ct, osl, rfl, lk, hcd, _, _⟩ := F.ex
  refine ⟨len, fun A outer s H args us vs Q E p hr hpin e0 hb r hsp => ?_⟩
  have up := fun b o e => (e0.bs b o e).1
  have KX : K.In s.heap := e0.mod.kin.keeps up
  refine codeAny_call_function hr.depth (KX _ _ lk) rfl S.co S.gen rfl (PySem.W.codeRec_of KX hcd) (hb _ _ _ _ (wpAny_newFunctionEnv_cells S.kind (fun y hy => ?_) fun env he s1 z => ?_))
  · rcases S.par y.1 (List.of_mem_zip (a := y.1) (b := y.2) hy).1 with g | g
    · exact .inl g
    · exact .inr ⟨g, PySem.W.cellsFrom_some _ _ _ (.inl g)⟩
  subst he
  obtain ⟨t, ht, hq⟩ := hbody cdv A outer s H vs Q E p (hr.deeper _) hsp
  refine ⟨(e0.mod.nolimit.keeps up).keeps z.toInCall.keep, codeAny_func (wpAny_mono (ht.run [] s1 (L2.start N vs) H _ (L2H.inv_startH S hpin e0 (len _ _ _ _ _ hsp) r z) hq) (fun fl s2 hs => ?_) fun _ _ h => h)⟩
  cases fl with
  | ret u => obtain ⟨v, σ2, H2, J, rv, q⟩ := hs; exact ⟨v, H2, J.os, J.bare, J.base, J.hok, rv, q⟩
  | next => obtain ⟨σ2, H2, J, q⟩ := hs; exact ⟨.non, H2, J.os, J.bare, J.base, J.hok, rfl, q⟩
  | brk => obtain ⟨_, _, _, q⟩ := hs; exact q.elim
  | cont => obtain ⟨_, _, _, q⟩ := hs; exact q.elim
/-- f(e, ..) in a suite: p is pinned there -/
def tCallE (sp : Addr × Obj → Sp) (p : Addr × Obj) (ta : TA) : TE := fun σ H Q => ta σ H fun vs H1 => sp p vs H1 Q fun _ _ _ => False
theorem pe_callE {X : Cx} {k : Nat} {f : Addr} {fd : FuncData} {ps : List Str} {sp : Addr × Obj → Sp} {p : Addr × Obj} {x : Str} {q pos : Pos} {e : Expr} {es : List Expr} {ta : TA} (F : FnE X.prog X.w X.K X.mg X.base k f fd ps sp) (hr : L2H.RoomH k X.A) (hp : p ∈ X.pn) (hg : Gl X x) (hm : X.mg x = some (.ref f)) (hk : PySem.W.keepIn X.K (.ref f) = true) (hb : Binds X.K fd ps [])
    (ha : PA X (e :: es) ta) (hdb : (x == ("__debug__" : Str)) = false := by decide) (he : starEach (e :: es) X.env = (false, eval e X.env) :: starEach es X.env := by rfl) (hpl : (backTo pos (starEach es X.env)).any (·.1) = false := by rfl) :
    PE X (.Call (.Name x q) (e :: es) [] pos) (tCallE sp p ta) := by
  refine ⟨fun pins s σ H Q I h => wpAny_Call_Name_kw (ld_glob I hg hm ?_ hdb)⟩
  refine PySem.W.callWith_K (h₀ := X.base) I.ok.mod.kin hk (thn (ha.run pos pins s σ H _ I h) fun us s1 ⟨vs, H1, I1, r, hq⟩ => ⟨I1.kIn, ?_⟩) he hpl
  have hl : us.length = ps.length := r.length.symm.trans (F.len _ _ _ _ _ hq)
  have b := hb s1 us I1.kIn ((List.append_nil us).symm ▸ hl)
  rw [List.append_nil] at b
  have P1 := I1.pin p (List.mem_append_left _ hp)
  show wpAny _ _ (call (.ref f) us) _ _ _
  refine wpAny_call (codeAny_mono (F.run X.A X.stack s1 H1 ⟨us, []⟩ us vs Q _ p hr ⟨P1.1, P1.2.1, fun hm => (List.mem_cons.mp (I1.stkSub p.1 hm)).elim P1.2.2.1 P1.2.2.2.1, P1.2.2.2.2⟩ I1.env0 b r hq) fun r s2 hr2 => ?_)
  cases r with
  | error _ => exact (show False from hr2).elim
  | ok fl => cases fl with
    | ret u => exact I1.after hr2
    | next => exact False.elim hr2
    | brk => exact False.elim hr2
    | cont => exact False.elim hr2
end DX
set_option maxHeartbeats 4000000
namespace DX
open PySem PySem.Spec PyProof.Rows L2 DL
theorem look_zip {K : PySem.W.Frag} {F : Hp} {n : Str} : ∀ {ns : List Str} {ds : List D} {vs : List V} {d : D}, DVs K F ds vs → (ns.zip ds).lookup n = some d → ∃ v, (ns.zip vs).lookup n = some v ∧ DV K F d v
  | [], ds, vs, d, _, h => by
    rw [List.zip_nil_left] at h
    cases h
  | m :: ns, [], vs, d, _, h => by
    rw [List.zip_nil_right] at h
    cases h
  | m :: ns, e :: ds, vs, d, hd, h => by
    obtain ⟨v, r, rfl, g1, g2⟩ := dvs_cons.mp hd
    rw [List.zip_cons_cons, List.lookup_cons] at h ⊢
    cases q : n == m with
    | true =>
      rw [q] at h
      cases h
      exact ⟨v, rfl, g1⟩
    | false =>
      rw [q] at h
      exact look_zip g2 h
/-- e.f of the handled exception, over data -/
def mFld (a dd : Addr) (n : Str) (me : ME) : ME := fun Γ M k kx => me Γ M (fun d M1 => ∃ ns ds v, d = .exc a dd ns ds ∧ (ns.zip ds).lookup n = some v ∧ k v M1) kx
theorem de_fld {X : Cx} {E : XK} {a dd C : Addr} {oe : Obj} {e : Expr} {me : ME} {pos : Pos} {n : Str} (T : XfC X.K C) (hno : PySem.W.findIn X.K (.ref C) n = some none) (hp : PinX X a oe (.ref C) (some dd)) (he : PE X e (tI X.K E me)) (hb : attributeBase e n X.env (eval e X.env) = eval e X.env := by rfl) :
    PE X (.Attribute e n pos) (tI X.K E (mFld a dd n me)) := by
  refine pe_le (pe_field T hno hp he hb) fun σ H Q ⟨M, S, Γ, k, kx, r, er, h, kv, kxx⟩ => ?_
  refine ⟨M, S, Γ, _, kx, r, er, h, fun d M1 ⟨ns, ds, v, ed, el, q⟩ H1 x r1 e1 d1 => ?_, kxx⟩
  subst ed
  obtain ⟨g1, vs, g2, g3⟩ := dv_exc.mp d1
  obtain ⟨u, g4, g5⟩ := look_zip g3 el
  exact ⟨g1, rfl, dd, _, u, rfl, hid_le _ _ _ _ _ g2, g4, kv _ M1 q H1 u r1 e1 g5⟩
end DX
set_option maxHeartbeats 4000000
namespace DX
open PySem PySem.Spec PyProof.Rows L2 DL
/-- the promise of a def that is called with the handled exception, over data: a where it stands, dd its dict -/
def spE (K : PySem.W.Frag) (ok : Addr → Prop) (s : Addr → Addr → MF) : Addr × Obj → Sp := fun p vs H Q _ => ∃ C dd M S ds k, ok C ∧ Zc (.ref C) (some dd) p.2 ∧ (∃ fv, p.2.data = .fields fv) ∧ R K M S H ∧ DVs K (hid M S H) ds vs ∧ s p.1 dd ds M k noX ∧ KeepV K S (hid M S H) k Q
section
variable {P : Program} {w : World} {K : PySem.W.Frag} {mg : Str → Option Value} {base : Heap} {x qual : Str} {params : Arguments} {body : List Stmt} {scope : Scope} {dvs : List V} {kws : List (Str × V)} {f : Addr} {fd : FuncData}
theorem d_okE {N ps : List Str} {k : Nat} {ok : Addr → Prop} {m : Addr → Addr → MS} {s : Addr → Addr → MF} (F : FunD K x qual params body scope dvs kws f fd) (S : FnScope N ps scope)
    (hb : ∀ (cdv : Value) (A : Around) (outer : List PySem.Env) (sh : Shared) (H : Hp) (E : XK) (p : Addr × Obj) (C dd : Addr), L2H.RoomH k (A.deeper (envOfC qual scope sh.heap.objs.size f cdv)) → ok C →
      PinX (L2H.cxH CX0 P w K mg base N qual scope f cdv A outer sh H E p).nox p.1 p.2 (.ref C) (some dd) → PSs (L2H.cxH CX0 P w K mg base N qual scope f cdv A outer sh H E p).nox body (tSt K E0 (m p.1 dd)))
    (len : ∀ a dd ds M k kx, s a dd ds M k kx → ds.length = ps.length)
    (hs : ∀ a dd ds M k, s a dd ds M k noX → m a dd { nx := fun _ M' => k .non M', rt := k } (startD N.length ds) M noX) : FnE P w K mg base (k + 1) f fd ps (spE K ok s) := by
  refine fn_e F S (fun p vs H Q E ⟨C, dd, M, T, ds, k, _, _, _, _, hd, h, _⟩ => by rw [← hd.length]; exact len _ _ _ _ _ _ h) fun cdv A outer sh H vs Q E p hr ⟨C, dd, M, T, ds, k, h1, h2, h3, r, hd, h, kv⟩ => ?_
  refine ⟨_, PSs.nox (hb cdv A outer sh H E p C dd hr h1 ⟨List.mem_singleton.mpr rfl, h2, h3⟩), ?_⟩
  exact ⟨M, T, _, _, noX, r, start_ok hd, hs _ _ _ _ _ h, fun Γ' M' q H' σ' r' e' er' => kv _ M' q H' _ r' e' (dv_non.mpr rfl), kv, fun Γ' M' q => q.elim, fun Γ' M' q => q.elim, fun _ _ q => q.elim⟩
end
/-- f(e, ..) in the suite, over data -/
theorem de_callE {X : Cx} {E : XK} {k : Nat} {f a dd C : Addr} {oe : Obj} {fd : FuncData} {ps : List Str} {ok : Addr → Prop} {s : Addr → Addr → MF} {x : Str} {q pos : Pos} {e : Expr} {es : List Expr} {mA : MA} (F : FnE X.prog X.w X.K X.mg X.base k f fd ps (spE X.K ok s)) (hok : ok C) (hr : L2H.RoomH k X.A) (hp : PinX X a oe (.ref C) (some dd))
    (hg : Gl X x) (hm : X.mg x = some (.ref f)) (hk : PySem.W.keepIn X.K (.ref f) = true) (hb : Binds X.K fd ps []) (ha : PA X (e :: es) (tA X.K E mA))
    (hdb : (x == ("__debug__" : Str)) = false := by decide) (he : starEach (e :: es) X.env = (false, eval e X.env) :: starEach es X.env := by rfl) (hpl : (backTo pos (starEach es X.env)).any (·.1) = false := by rfl) :
    PE X (.Call (.Name x q) (e :: es) [] pos) (tI X.K E (fun Γ M k kx => mA Γ M (fun ds M1 => s a dd ds M1 k noX) kx)) := by
  refine pe_le (pe_callE F hr hp.1 hg hm hk hb ha hdb he hpl) fun σ H Q ⟨M, S, Γ, k, kx, r, er, h, kv, kxx⟩ => ?_
  exact ⟨M, S, Γ, _, kx, r, er, h, fun ds M1 q1 H1 vs r1 e1 d1 => ⟨C, dd, M1, S, ds, k, hok, hp.2.1, hp.2.2, r1, d1, q1, kv.ex e1⟩, kxx⟩
end DX
set_option maxHeartbeats 4000000
namespace DX
open PySem PySem.Spec PyProof.Rows L2 DL
theorem kvd_zip {K : PySem.W.Frag} {F : Hp} : ∀ {ns : List Str} {ds : List D} {ps : List (Str × V)}, ns.length = ds.length → KVD K F (ns.zip ds) ps → ∃ vs, ps = ns.zip vs ∧ DVs K F ds vs
  | [], [], ps, _, h => ⟨[], h, dvs_nil.mpr rfl⟩
  | [], _ :: _, _, e, _ => by cases e
  | _ :: _, [], _, e, _ => by cases e
  | n :: ns, d :: ds, ps, e, h => by
    obtain ⟨v, t, rfl, h2, h3⟩ := h
    obtain ⟨vs, rfl, h4⟩ := kvd_zip (Nat.succ.inj e) h3
    exact ⟨v :: vs, rfl, dvs_cons.mpr ⟨v, vs, rfl, h2, h4⟩⟩
/-- try: body / except (..) as n: suite, the suite returns -/
def mTry (n i : Nat) (ok : Addr → Prop) (mb : MS) (ms : Addr → Addr → Addr → MS) : MS := fun De Γ M _ => mb De Γ M fun x M1 => ∃ C ns ds, x.cls = .ref C ∧ x.fs = some (ns.zip ds) ∧ ns.length = ds.length ∧ ok C ∧
  ∀ a dd, ms a dd C { nx := fun _ _ => False, rt := De.rt } ((List.replicate n none).set i (some (.exc a dd ns ds))) M1 noX
section
variable {X : Cx} {E : XK} {x1 x2 x3 nm : Str} {c1 c2 c3 : Value} {i kk : Nat} {body suite : List Stmt} {b₀ : Stmt} {np1 np2 np3 tpos pos pos' : Pos} {ok : Addr → Prop} {mb : MS} {ms : Addr → Addr → Addr → MS}
theorem ds_try3 (hs : X.stack = X.env :: X.outer) (hf : X.env.frame = some X.env.locals) (hN : X.N.Nodup) (hi : X.N[i]? = some nm) (hln : X.env.kindOf nm = some .local) (m1 : Names X x1 c1) (m2 : Names X x2 c2) (m3 : Names X x3 c3)
    (hex : ∀ C, ok C → PySem.W.exmAny X.K (.ref C) [c1, c2, c3] = some true)
    (hb : ∀ (E' : XK) (pn : List (Addr × Obj)) (xe : Value → Shared → Prop), (Takes (X.tr pn xe) fun c d _ H => E' c d H) → PSs (X.tr pn xe) body (tSt X.K E' mb))
    (hsu : ∀ (a dd C : Addr) (oe : Obj) (pn : List (Addr × Obj)), ok C → PinX (X.suite a ((a, oe) :: pn)) a oe (.ref C) (some dd) → PSs (X.suite a ((a, oe) :: pn)) (b₀ :: suite) (tSt X.K E0 (ms a dd C))) :
    PS X (.Try body [.ExceptHandler (some (.Tuple [.Name x1 np1, .Name x2 np2, .Name x3 np3] kk tpos)) (some nm) (b₀ :: suite) pos'] [] [] pos) (tSt X.K E (mTry X.N.length i ok mb ms)) := by
  refine ps_le (ps_try3 (tb := fun W D σ H => ∃ Ech : XK, (∀ cls d σ' H', Ech cls d H' → W cls d σ' H') ∧ tSt X.K Ech mb D σ H) (ts := fun a cls d D σ H => ∃ C dd, cls = .ref C ∧ d = some dd ∧ ok C ∧ tSt X.K E0 (ms a dd C) D σ H) hs hf hN hi hln m1 m2 m3 (fun W pn xe tk _ => ?_) fun a oe cls d pn hz hfv => ?_) fun D σ H ⟨M, S, Γ, De, kx, r, er, h, h1, h2, h3, h4, h5⟩ => ?_
  · exact ⟨fun pins s σ H D I ⟨Ech, hW, q⟩ => (hb Ech pn xe (tk.imp fun c d σ H z => hW c d σ H z)).run pins s σ H D I q⟩
  · exact ⟨fun pins s σ H D I ⟨C, dd, e1, e2, hok, q⟩ => by
      subst e1 e2
      exact (hsu a dd C oe pn hok ⟨List.mem_cons_self, hz, hfv⟩).run pins s σ H D I q⟩
  · refine ⟨fun cls d H' => ∃ x M', (∃ C ns ds, x.cls = .ref C ∧ x.fs = some (ns.zip ds) ∧ ns.length = ds.length ∧ ok C ∧ ∀ a dd, ms a dd C { nx := fun _ _ => False, rt := De.rt } ((List.replicate X.N.length none).set i (some (.exc a dd ns ds))) M' noX) ∧ R X.K M' S H' ∧ Ex (hid M S H) (hid M' S H') ∧ XR X.K (hid M' S H') x cls d, ?_,
      M, S, Γ, De, _, r, er, h, h1, h2, h3, h4, fun x M' q H' c o r' e' xr => ⟨x, M', q, r', e', xr⟩⟩
    rintro cls d σ' H' ⟨⟨xc, xf⟩, M', ⟨C, ns, ds, rfl, rfl, hl, hok, q⟩, r', e', rfl, dd, ps, rfl, g1, g2⟩
    obtain ⟨vs, rfl, g3⟩ := kvd_zip hl g2
    refine ⟨hex C hok, fun hlen a na => ⟨C, dd, rfl, rfl, hok, M', S, _, _, noX, r', ?_, q a dd, fun _ _ z => z.elim, h2.ex e', fun _ _ z => z.elim, fun _ _ z => z.elim, fun _ _ z => z.elim⟩⟩
    refine EnvR.set ⟨by rw [List.length_replicate]; exact hlen.symm, fun j d q => ?_⟩ (dv_exc.mpr ⟨rfl, vs, g1, g3⟩)
    rw [List.getElem?_replicate] at q
    split at q <;> cases q
end
end DX
set_option maxHeartbeats 4000000
/-! a lambda handed to a def, the table of code objects told exactly -/
namespace DX
open PySem PySem.Spec PyProof.Rows L2 LamX
/-- the table at P may have grown by a code object; all else stays -/
structure Grown (H H1 : Hp) (P : Addr) (q : Str) : Prop where
  stay : ∀ b o, b ≠ P → H b = some o → H1 b = some o
  tab : ∃ ps us : Array Value, H P = some (.tbl ps) ∧ H1 P = some (.tbl us) ∧ TriplesOk us.toList ∧ ∀ (p : Pos) (v : Value), codeAmong p us.toList = some v → codeAmong p ps.toList = some v ∨ ∃ c, v = .ref c ∧ H c = none ∧ H1 c = some (CodeO c q)
section
variable {X : Cx} {pins : List (Addr × Obj)} {σ : L2.St} {H : Hp} {s : Shared}
theorem lam_mk {c P : Addr} {params : Arguments} {body : Expr} {scope : Scope} {pos : Pos} {E Q : Value → Shared → Prop} (J : Inv X pins σ H s) (TB : TabB X.base X.mg c P) (hcode : X.env.code = .ref c)
    (tb : TabS H P (X.env.qual ++ "<lambda>")) (hdef : defaultsOf params X.env = ([], [])) (hfree : ∀ y ∈ scope.names, y.2 = .free → ∃ c, X.env.cells.lookup y.1 = some c)
    (k : ∀ (f d : Addr) (pm ctv : Value) (H1 : Hp) (s1 : Shared), Inv X pins σ H1 s1 → Grown H H1 P (X.env.qual ++ "<lambda>") →
      s1.heap.get? f = some (PySem.W.kla_obj "<lambda>" (X.env.qual ++ "<lambda>") params body scope (cloFrom X.env.cells scope.names []) pm d ctv) → H1 f = none → f ∉ frs X.stack → H1 d = some (CodeO d (X.env.qual ++ "<lambda>")) → Q (.ref f) s1) :
    wpAny (model X.prog X.w) X.A (eval (.Lambda params body scope pos) X.env) Q E s := by
  obtain ⟨ps, eP, tr, am⟩ := tb
  refine PySem.W.kla_eval hdef ?_
  have gP : s.heap.get? P = some { cls := .none, data := .fields ps } := J.hok P _ eP
  have off : ∀ f, s.heap.objs.size ≤ f → f ∉ frs X.stack := fun f le z => by
    rcases List.mem_cons.mp (J.stkSub _ z) with e | e
    · have lt := J.lt
      rw [← e] at lt
      exact absurd lt (Nat.not_lt.mpr le)
    · exact J.nofs le e
  cases hit : codeAmong pos ps.toList with
  | some v =>
    obtain ⟨d, e, ed⟩ := am pos v hit
    subst e
    refine PySem.W.kla_makeFunctionHit (mg := X.mg) (c := c) (P := P) (ps := ps) (closure_ok hfree) J.ok.glob (J.mod.glob.keeps J.bk) hcode (TB.code.keeps J.bk) gP tr hit (TB.bm.keeps J.bk) fun ctv h2 tk kp sz => ?_
    exact k h2.objs.size d _ ctv H _ (J.kept fun b o e => Heap.get?_push_of_some _ (kp b o e)) ⟨fun _ _ _ e => e, ps, ps, eP, eP, tr, fun _ _ z => .inl z⟩ (Heap.get?_push_size _ rfl) (J.hok.fresh sz) (off _ sz) ed
  | none =>
    refine PySem.W.kla_makeFunction (mg := X.mg) (c := c) (P := P) (ps := ps) (closure_ok hfree) J.ok.glob (J.mod.glob.keeps J.bk) hcode (TB.code.keeps J.bk) gP tr hit TB.gP (TB.bm.keeps J.bk) fun d ctv h2 tk kp ge lt rec' tab' => ?_
    obtain ⟨d2, od, vs, t, e2, god, dat, nm⟩ := rec'
    cases e2
    have sz : s.heap.objs.size ≤ h2.objs.size := by omega
    have nd : H d = none := J.hok.fresh ge
    have J1 := inv_table (q := X.env.qual ++ "<lambda>") (t' := tk) (more := #[rawInt pos.line, rawInt pos.col, .ref d]) (h' := h2.push (PySem.W.kla_obj "<lambda>" (X.env.qual ++ "<lambda>") params body scope (cloFrom X.env.cells scope.names []) ((X.mg "__name__").getD .none) d ctv)) J eP
      (fun b o ne e => Heap.get?_push_of_some _ (kp b o ne e)) (Heap.get?_push_of_some _ tab') ge ⟨od, vs, t, Heap.get?_push_of_some _ god, dat, nm⟩
    have two : (ps ++ #[rawInt pos.line, rawInt pos.col, .ref d]).toList = ps.toList ++ [rawInt pos.line, rawInt pos.col, .ref d] := by simp
    refine k h2.objs.size d _ ctv _ _ J1 ⟨fun b o ne e => by rw [upd_ne (ne_of_none e nd), upd_ne ne]; exact e, ps, _, eP, by rw [upd_ne (ne_of_none eP nd), upd_same], by rw [two]; exact PySem.TriplesOk_snoc _ _ _ _ tr, fun p v z => ?_⟩ (Heap.get?_push_size _ rfl) ?_ (off _ sz) upd_same
    · rw [two] at z
      rcases among_app _ tr z with g | g
      · exact .inl g
      · exact .inr ⟨d, g, nd, upd_same⟩
    · rw [upd_ne (Nat.ne_of_gt lt), upd_ne (Nat.ne_of_gt (Nat.lt_of_lt_of_le (Heap.lt_size gP) sz))]
      exact J.hok.fresh sz
end
/-- x(lambda: body), told exactly -/
def tLamG (P : Addr) (q : Str) (TT : (XK → Hp → VK → Prop) → Hp → VK → Prop) (t : XK → TE) : TE := fun σ H Q => TabS H P q ∧ ∀ H1, Grown H H1 P q → TT (fun E H' Q' => t E σ H' Q') H1 Q
section
variable {X : Cx}
theorem pe_lamG {TT : (XK → Hp → VK → Prop) → Hp → VK → Prop} {x a : Str} {g c P : Addr} {k : Nat} {pg : Arguments} {bg : List Stmt} {sg : Scope} {dV kV doc pm cdv ct oc : Value} {an od : Option Addr} {osl : Array (Option Value)} {Ng : List Str}
    {params : Arguments} {body : Expr} {scope : Scope} {t : XK → TE} {p lpos pos : Pos} (hg : Gl X x) (hm : X.mg x = some (.ref g)) (hk : PySem.W.keepIn X.K (.ref g) = true)
    (lk : X.K.lookup g = some ⟨oc, od, .func (PySem.W.fnOf x x pg bg sg dV kV doc pm an cdv ct), osl⟩) (hcg : PySem.W.codeIn X.K cdv x = true) (hb : L2.Binds X.K (PySem.W.fnOf x x pg bg sg dV kV doc pm an cdv ct) [a] []) (Sg : FnScope Ng [a] sg) (hNg : Ng[0]? = some a) (hva : Vis sg a)
    (hG : GivesTo X Ng x sg g cdv bg a (X.env.qual ++ "<lambda>") TT) (TB : TabB X.base X.mg c P) (hcode : X.env.code = .ref c) (room : Room (k + 2) X.A) (L : LamS X.env.scope scope) (hdef : defaultsOf params X.env = ([], []))
    (hbind : ∀ (q : Str) (cl : List (Str × Addr)) (pm cv ctv : Value), bindArgs (PySem.W.kla_fn "<lambda>" q params body scope cl pm cv ctv) ⟨[], []⟩ = pure [])
    (hbody : ∀ (A : Around) (outer : List Env) (s : Shared) (H : Hp) (E : XK) (f d : Addr), Room k (A.deeper (lamEnv X scope s.heap.objs.size f d)) → PE (lamCx X A outer s H E scope f d) body (t E))
    (hdb : (x == ("__debug__" : Str)) = false := by decide) (hd : (a == ("__debug__" : Str)) = false := by decide) (hcd : (a == ("__classdict__" : Str)) = false := by decide) :
    PE X (.Call (.Name x p) [.Lambda params body scope lpos] [] pos) (tLamG P (X.env.qual ++ "<lambda>") TT t) := by
  refine ⟨fun pins s σ H Q J ⟨tb, h⟩ => wpAny_Call_Name_kw (ld_glob J hg hm ?_ hdb)⟩
  refine PySem.W.callWith_K (h₀ := X.base) J.ok.mod.kin hk ?_ (by rfl) (by rfl)
  show wpAny _ _ (spliced ((false, eval (.Lambda params body scope lpos) X.env) :: backTo pos (starEach [] X.env))) _ _ s
  refine Calls.spliced_cons (lam_mk J TB hcode tb hdef (L.has J.ok) fun f d pm2 ctv H1 s1 J1 gr hf hfn hfr hco => Calls.spliced_nil ⟨J1.kIn, ?_⟩)
  have run : codeAny (model X.prog X.w) X.A (.call (.ref g) ⟨[.ref f], []⟩) (CR C8.CX0 X.stack X.prog X.w H1 s1 Q C8.E0) s1 := by
    refine run_ofS (N := Ng) (ps := [a]) (us := [.ref f]) (vs := [.ref f]) lk hcg Sg room J1.env0 (hb s1 [.ref f] J1.kIn rfl) (.cons rfl .nil) rfl fun r2 => ?_
    obtain ⟨t2, p2, q2⟩ := hG f d s1 H1 Q (fun E H' Q' => t E σ H' Q') (fun W pn xe E p1 p2 tk hW => pe_act (i := 0) J1 L hf hfn hfr (hbind _ _ _ _ _) tk hW r2 (fun A outer s H r3 => hbody A outer s H E f d r3) hNg hva hd hcd) hco (h H1 gr)
    exact ⟨t2, p2.nox, q2⟩
  refine wpAny_call (codeAny_mono run fun r s2 z => ?_)
  match r, z with
  | .error e, z => exact (show False from z).elim
  | .ok (.ret u), z => exact J1.after z
  | .ok .next, z => exact False.elim z
  | .ok .brk, z => exact False.elim z
  | .ok .cont, z => exact False.elim z
end
end DX
set_option maxHeartbeats 4000000
/-! try: return ('', ask()) / except (A, B, C) as e: return (e.code, f(e)), over data -/
namespace DX
open PySem PySem.Spec PyProof.Rows L2 LamX DL
section
variable {K : PySem.W.Frag} {M : Mh} {S H H1 : Hp} {P : Addr} {q : Str}
theorem R.tabS (r : R K M S H) (h : M P = some (.tab q)) : TabS H P q := by
  obtain ⟨u, e, ps, rfl, h2, h3⟩ := r.chg P _ h
  exact ⟨ps, e, h2, fun p v z => let ⟨c, g1, g2⟩ := h3 p v z; ⟨c, g1, hid_le _ _ _ _ _ g2⟩⟩
theorem R.grown (r : R K M S H) (h : M P = some (.tab q)) (g : Grown H H1 P q) : R K M S H1 ∧ Ex (hid M S H) (hid M S H1) := by
  have np : ∀ a, M a = none → a ≠ P := fun a e z => by rw [z, h] at e; cases e
  have ex : Ex (hid M S H) (hid M S H1) := fun a o z => by
    obtain ⟨h1, h2, h3⟩ := hid_some.mp z
    exact hid_some.mpr ⟨h1, h2, g.stay a o (np a h1) h3⟩
  refine ⟨⟨fun a o z => ?_, fun a o z => ?_⟩, ex⟩
  · obtain ⟨h1, h2⟩ := r.hidden a o z
    exact ⟨g.stay a o (np a h2) h1, h2⟩
  · by_cases ne : a = P
    · subst ne
      rw [h] at z
      cases z
      obtain ⟨ps, us, e1, e2, e3, e4⟩ := g.tab
      refine ⟨_, e2, us, rfl, e3, fun p v w => ?_⟩
      rcases e4 p v w with w | ⟨c, rfl, n1, n2⟩
      · obtain ⟨u, f1, f2⟩ := r.chg a _ h
        rw [e1] at f1
        cases f1
        obtain ⟨ps', f3, f4, f5⟩ := f2
        cases f3
        obtain ⟨c, g1, g2⟩ := f5 p v w
        exact ⟨c, g1, ex _ _ g2⟩
      · exact ⟨c, rfl, hid_some.mpr ⟨r.freeM n1, r.freeS n1, n2⟩⟩
    · obtain ⟨u, h1, h2⟩ := r.chg a o z
      exact ⟨u, g.stay a u ne h1, h2.mono ex⟩
end
/-- what it makes of the lambda's reading -/
def TTgot (K : PySem.W.Frag) (ok : Addr → Prop) (fld : Addr → Addr → MF) : (XK → Hp → VK → Prop) → Hp → VK → Prop := fun tl H Q =>
  ∃ E : XK, (∀ cls d H', E cls d H' → ∃ C dd ns ds M S k, cls = .ref C ∧ d = some dd ∧ ok C ∧ R K M S H' ∧ (∃ vs, hid M S H' dd = some (.xd (ns.zip vs)) ∧ DVs K (hid M S H') ds vs) ∧ KeepV K S (hid M S H') k Q ∧
    ∀ a, ∃ c, (ns.zip ds).lookup ("code" : Str) = some c ∧ fld a dd [.exc a dd ns ds] M (fun v M1 => [c, v].length ≤ sizeLine ∧ k (.tup [c, v]) M1) noX) ∧
  tl E H fun v H1 => [V.str "", v].length ≤ sizeLine ∧ ∀ p, H1 p = none → Q (.ref p) (upd H1 p (.tup [.str "", v]))
abbrev gotBody (a nm x1 x2 x3 fl : Str) (j n1 n2 n3 : Nat) (p : Nat → Pos) : List Stmt :=
  [.Try [.Return (some (.Tuple [.Constant (.str "") j (p 0), .Call (.Name a (p 1)) [] [] (p 2)] n1 (p 3))) (p 4)]
    [.ExceptHandler (some (.Tuple [.Name x1 (p 5), .Name x2 (p 6), .Name x3 (p 7)] n2 (p 8))) (some nm) [.Return (some (.Tuple [.Attribute (.Name nm (p 9)) "code" (p 10), .Call (.Name fl (p 11)) [.Name nm (p 12)] [] (p 13)] n3 (p 14))) (p 15)] (p 16)] [] [] (p 17)]
section
variable {X : Cx} {E : XK} {k : Nat} {x a nm x1 x2 x3 fl q pf : Str} {sg : Scope} {g ff : Addr} {cdg c1 c2 c3 : Value} {ok : Addr → Prop} {fld : Addr → Addr → MF} {fdf : FuncData} {j n1 n2 n3 : Nat} {p : Nat → Pos}
theorem got_gives (nd : [a, nm].Nodup) (ln : sg.names.lookup nm = some .local) (k1 : sg.names.lookup x1 = some .globalImplicit) (k2 : sg.names.lookup x2 = some .globalImplicit) (k3 : sg.names.lookup x3 = some .globalImplicit) (kf : sg.names.lookup fl = some .globalImplicit)
    (m1 : X.mg x1 = some c1) (m2 : X.mg x2 = some c2) (m3 : X.mg x3 = some c3) (d1 : (x1 == ("__debug__" : Str)) = false) (d2 : (x2 == ("__debug__" : Str)) = false) (d3 : (x3 == ("__debug__" : Str)) = false) (df : (fl == ("__debug__" : Str)) = false) (dn : (nm == ("__debug__" : Str)) = false) (dc : (nm == ("__classdict__" : Str)) = false)
    (hex : ∀ C, ok C → PySem.W.exmAny X.K (.ref C) [c1, c2, c3] = some true) (okf : ∀ C, ok C → XfC X.K C ∧ PySem.W.findIn X.K (.ref C) "code" = some none)
    (F : FnE X.prog X.w X.K X.mg X.base k ff fdf [pf] (spE X.K ok fld)) (gf : X.mg fl = some (.ref ff)) (kp : PySem.W.keepIn X.K (.ref ff) = true) (bf : Binds X.K fdf [pf] []) (room : Room (k + 1) X.A) :
    GivesTo X [a, nm] x sg g cdg (gotBody a nm x1 x2 x3 fl j n1 n2 n3 p) a q (TTgot X.K ok fld) := by
  intro f d s H Q tl act hc h
  have vn : Vis sg nm := .inl ln
  have suite : ∀ (e dd C : Addr) (oe : Obj) (pn : List (Addr × Obj)), ok C → PinX ((cxOf C8.CX0 X.prog X.w X.K X.mg X.base [a, nm] x sg g cdg X.A X.stack s H C8.E0).nox.suite e ((e, oe) :: pn)) e oe (.ref C) (some dd) →
      PSs ((cxOf C8.CX0 X.prog X.w X.K X.mg X.base [a, nm] x sg g cdg X.A X.stack s H C8.E0).nox.suite e ((e, oe) :: pn)) [.Return (some (.Tuple [.Attribute (.Name nm (p 9)) "code" (p 10), .Call (.Name fl (p 11)) [.Name nm (p 12)] [] (p 13)] n3 (p 14))) (p 15)]
        (tSt X.K E0 (mRet (mTup (mCons (mFld e dd "code" (mVar 1)) (mCons (fun Γ M k kx => (mCons (mVar 1) mNil) Γ M (fun ds M1 => fld e dd ds M1 k noX) kx) mNil))))) := by
    intro e dd C oe pn hok hp
    have r2 : L2H.RoomH k ((cxOf C8.CX0 X.prog X.w X.K X.mg X.base [a, nm] x sg g cdg X.A X.stack s H C8.E0).nox.suite e ((e, oe) :: pn)).A := by
      have z : Room k (X.A.deeper (envOfC x sg s.heap.objs.size g cdg)) := room.deeper _
      exact ⟨z.dp, z.un⟩
    exact dss_one (ds_ret (de_tup (da_cons (de_fld (okf C hok).1 (okf C hok).2 hp (de_var 1 rfl vn dn dc)) (da_cons (de_callE F hok r2 hp kf gf kp bf (da_cons (de_var 1 rfl vn dn dc) da_nil) df) da_nil))))
  refine ⟨_, pss_one (ps_try3 (X := (cxOf C8.CX0 X.prog X.w X.K X.mg X.base [a, nm] x sg g cdg X.A X.stack s H C8.E0).nox) (i := 1) (c1 := c1) (c2 := c2) (c3 := c3)
    (tb := fun W D σ H => ∃ Ech : XK, (∀ cls d σ' H', Ech cls d H' → W cls d σ' H') ∧ σ[0]? = some (some (.ref f)) ∧ H d = some (CodeO d q) ∧ tl Ech H fun v H1 => [V.str "", v].length ≤ sizeLine ∧ ∀ p, H1 p = none → D.rt (.ref p) (upd H1 p (.tup [.str "", v])))
    (ts := fun e cls d D σ H => ∃ C dd, cls = .ref C ∧ d = some dd ∧ ok C ∧ tSt X.K E0 (mRet (mTup (mCons (mFld e dd "code" (mVar 1)) (mCons (fun Γ M k kx => (mCons (mVar 1) mNil) Γ M (fun ds M1 => fld e dd ds M1 k noX) kx) mNil)))) D σ H)
    rfl rfl nd rfl ln ⟨k1, d1, .inl m1⟩ ⟨k2, d2, .inl m2⟩ ⟨k3, d3, .inl m3⟩ (fun W pn xe tk _ => ?_) fun e oe cls d pn hz hfv => ?_), ?_⟩
  · refine ⟨fun pins s' σ H' D I ⟨Ech, hW, h1, h2, h3⟩ => ?_⟩
    have hp := act W pn xe Ech (p 1) (p 2) tk hW
    exact (pss_one (ps_ret (pos := p 4) (pe_tup (x1 := n1) (pos := p 3) (pa_cons (pe_str (pos := p 0) (j := j)) (pa_cons hp pa_nil))))).run pins s' σ H' D I ⟨h1, h2, h3⟩
  · exact ⟨fun pins s' σ H' D I ⟨C, dd, e1, e2, hok, z⟩ => by
      subst e1 e2
      exact (suite e dd C oe pn hok ⟨List.mem_cons_self, hz, hfv⟩).run pins s' σ H' D I z⟩
  · obtain ⟨E1, hE, ht⟩ := h
    refine ⟨E1, fun cls d' σ' H' z => ?_, rfl, hc, ht⟩
    obtain ⟨C, dd, ns, ds, M, S, kk, rfl, rfl, hok, r, ⟨vs, g1, g2⟩, kv, hf⟩ := hE _ _ _ z
    refine ⟨hex C hok, fun hl e ne => ⟨C, dd, rfl, rfl, hok, M, S, (List.replicate 2 none).set 1 (some (.exc e dd ns ds)), ⟨fun _ _ => False, kk, fun _ _ => False, fun _ _ => False⟩, noX, r, ?_, ?_, fun _ _ z => z.elim, kv, fun _ _ z => z.elim, fun _ _ z => z.elim, fun _ _ z => z.elim⟩⟩
    · refine EnvR.set ⟨by rw [List.length_replicate]; exact hl.symm, fun i d z => ?_⟩ (dv_exc.mpr ⟨rfl, vs, g1, g2⟩)
      rw [List.getElem?_replicate] at z
      split at z <;> cases z
    · obtain ⟨c, hl, hf⟩ := hf e
      exact ⟨.exc e dd ns ds, rfl, ns, ds, c, rfl, hl, .exc e dd ns ds, rfl, hf⟩
end
end DX
set_option maxHeartbeats 4000000
namespace DX
open PySem PySem.Spec PyProof.Rows L2 LamX DL
/-- _law_got(lambda: e) -/
def mGot (P : Addr) (q : Str) (ok : Addr → Prop) (fld : Addr → Addr → MF) (m : ME) : ME := fun Γ M k _ => M P = some (.tab q) ∧
  m Γ M (fun v M1 => k (.tup [.str "", v]) M1) fun x M1 => ∃ C ns ds, x.cls = .ref C ∧ x.fs = some (ns.zip ds) ∧ ns.length = ds.length ∧ ok C ∧
    ∀ a dd, ∃ c, (ns.zip ds).lookup ("code" : Str) = some c ∧ fld a dd [.exc a dd ns ds] M1 (fun v M2 => [c, v].length ≤ sizeLine ∧ k (.tup [c, v]) M2) noX
section
variable {X : Cx} {E : XK} {k : Nat} {x a : Str} {pg : Arguments} {bg : List Stmt} {sg : Scope} {g c P : Addr} {fd : FuncData} {ok : Addr → Prop} {fld : Addr → Addr → MF} {Ng : List Str}
  {params : Arguments} {body : Expr} {scope : Scope} {m : ME} {p lpos pos : Pos}
theorem de_got (F : FunD X.K x x pg bg sg [] [] g fd) (hm : X.mg x = some (.ref g)) (hb : L2.Binds X.K fd [a] []) (Sg : FnScope Ng [a] sg) (hNg : Ng[0]? = some a) (hva : Vis sg a) (TB : TabB X.base X.mg c P)
    (hG : ∀ cdv, GivesTo X Ng x sg g cdv bg a (X.env.qual ++ "<lambda>") (TTgot X.K ok fld)) (hg : Gl X x) (hcode : X.env.code = .ref c) (room : Room (k + 2) X.A) (L : LamS X.env.scope scope) (hdef : defaultsOf params X.env = ([], []))
    (hbind : ∀ (q : Str) (cl : List (Str × Addr)) (pm cv ctv : Value), bindArgs (PySem.W.kla_fn "<lambda>" q params body scope cl pm cv ctv) ⟨[], []⟩ = pure [])
    (hbody : ∀ (A : Around) (outer : List PySem.Env) (s : Shared) (H : Hp) (E : XK) (f d : Addr), Room k (A.deeper (lamEnv X scope s.heap.objs.size f d)) → PE (lamCx X A outer s H E scope f d) body (tI X.K E m))
    (hdb : (x == ("__debug__" : Str)) = false := by decide) (hd : (a == ("__debug__" : Str)) = false := by decide) (hcd : (a == ("__classdict__" : Str)) = false := by decide) :
    PE X (.Call (.Name x p) [.Lambda params body scope lpos] [] pos) (tI X.K E (mGot P (X.env.qual ++ "<lambda>") ok fld m)) := by
  obtain ⟨oc, od, dV, kV, doc, pm, an, cdv, ct, osl, rfl, lk, hcd2, _, _⟩ := F.ex
  refine pe_le (pe_lamG (k := k) (t := fun E => tI X.K E m) hg hm F.kp lk hcd2 hb Sg hNg hva (hG cdv) TB hcode room L hdef hbind hbody hdb hd hcd) fun σ H Q ⟨M, S, Γ, kk, kx, r, er, ⟨hP, h⟩, kv, _⟩ => ⟨R.tabS r hP, fun H1 gr => ?_⟩
  obtain ⟨r1, e1⟩ := R.grown r hP gr
  refine ⟨fun cls d H' => ∃ z M', (∃ C ns ds, z.cls = .ref C ∧ z.fs = some (ns.zip ds) ∧ ns.length = ds.length ∧ ok C ∧ ∀ a dd, ∃ c, (ns.zip ds).lookup ("code" : Str) = some c ∧ fld a dd [.exc a dd ns ds] M' (fun v M2 => [c, v].length ≤ sizeLine ∧ kk (.tup [c, v]) M2) noX) ∧ R X.K M' S H' ∧ Ex (hid M S H1) (hid M' S H') ∧ XR X.K (hid M' S H') z cls d,
    ?_, M, S, Γ, _, _, r1, er.mono e1, h, fun v M1 z H2 u r2 e2 d2 => ⟨by show 2 ≤ sizeLine; rw [sizeLine_eq]; decide, fun pp hp => ?_⟩, fun z M' w H' cl o r' e' xr => ⟨z, M', w, r', e', xr⟩⟩
  · rintro cls d H' ⟨⟨zc, zf⟩, M', ⟨C, ns, ds, rfl, rfl, hl, hok, w⟩, r', e', rfl, dd, ps, rfl, g1, g2⟩
    obtain ⟨vs, rfl, g3⟩ := kvd_zip hl g2
    exact ⟨C, dd, ns, ds, M', S, kk, rfl, rfl, hok, r', ⟨vs, g1, g3⟩, kv.ex (e1.trans e'), fun a => w a dd⟩
  · obtain ⟨h1, h2, h3⟩ := new_tup r2 hp (DVs.two (dv_str.mpr rfl) d2)
    exact kv _ M1 z _ _ h1 ((e1.trans e2).trans h2) h3
end
/-- what leaves the lambda -/
theorem takesL {X : Cx} {A : Around} {outer : List PySem.Env} {s : Shared} {H : Hp} {E : XK} {scope : Scope} {f d : Addr} : Takes (lamCx X A outer s H E scope f d) fun c o _ H' => E c o H' := takes_of rfl rfl rfl rfl
end DX
set_option maxHeartbeats 4000000
/-! the head's Hook with defs that say super() -/
namespace DX
open PySem PySem.Spec PyProof.Rows L2
/-- one __init__ that says super(): its class's name, its own text -/
structure IDef where
  cls : Str
  qual : Str
  params : Arguments
  body : List Stmt
  scope : Scope
abbrev IW : Type := Option (Str × Str × Arguments × FuncBody × Scope × Addr × List Str × Addr)
def iAt (d : IDef) : Str × Option Str := (d.cls, some "__init__")
def iSee (K : PySem.W.Frag) (d : IDef) : IW := match K.lookup (He.fAd K (iAt d)) with
  | some ⟨_, _, .func fd, _⟩ => some (fd.name, fd.qualname, fd.params, fd.body, fd.scope, fd.globals, fd.closure.map (·.1), fd.builtins)
  | _ => none
def iVal (d : IDef) : IW := some ("__init__", d.qual, d.params, .stmts d.body, d.scope, mainGlobals, ["__class__"], builtinsNs)
/-- the cell at c holds the class D -/
def cellB (K : PySem.W.Frag) (c D : Addr) : Bool := match K.lookup c with
  | some ⟨_, _, .cell (some (.ref a)), _⟩ => decide (a = D)
  | _ => false
def fileB (K : PySem.W.Frag) (c : Addr) (file : Str) : Bool := match K.lookup c with
  | some ⟨_, _, .fields vs, _⟩ => (match (vs[2]? : Option Value) with
    | some (.str x _) => file == x
    | _ => false)
  | _ => false
def codB (K : PySem.W.Frag) (file qual : Str) (D : Addr) : Value → List (Str × Addr) → Value → Bool
  | .ref c, [(_, cc)], .none => PySem.W.codeIn K (.ref c) qual && (cellB K cc D && fileB K c file)
  | _, _, _ => false
theorem codB_ok {K : PySem.W.Frag} {file qual : Str} {D : Addr} {v dv : Value} {l : List (Str × Addr)} (h : codB K file qual D v l dv = true) : ∃ c y cc, v = .ref c ∧ l = [(y, cc)] ∧ dv = .none ∧ PySem.W.codeIn K (.ref c) qual = true ∧ cellB K cc D = true ∧ fileB K c file = true := by
  unfold codB at h
  split at h
  · rename_i c y cc
    obtain ⟨h1, h⟩ := He.ba h
    obtain ⟨h2, h3⟩ := He.ba h
    exact ⟨c, y, cc, rfl, rfl, rfl, h1, h2, h3⟩
  · cases h
def iB (K : PySem.W.Frag) (file : Str) (d : IDef) : Bool := match K.lookup (He.fAd K (iAt d)) with
  | some ⟨_, _, .func fd, _⟩ => codB K file d.qual (He.ga K d.cls) fd.code fd.closure fd.defaults
  | _ => false
/-- the built-in classes behind -/
def tlOf (newId : String) : List Value := if newId = "LookupError.__new__" then tlL else if newId = "IndexError.__new__" then tlI else tlV
/-- what the class asks: an exception over the built-in one whose __new__ is newId -/
def oexB (K : PySem.W.Frag) (C : Addr) (newId : String) : Bool := match K.lookup C with
  | some ⟨.type t, _, .cls cd, sl⟩ => decide (t = "type") && (match cd.mro, sl.toList with
    | .ref a :: bm, [_, _, _, _, some (.builtin n), _] => decide (a = C) && (decide (n = newId) && (!cd.hasDel && (cd.hasDict && (bm.dropWhile isRef == tlOf newId))))
    | _, _ => false)
  | _ => false
theorem oexB_ok {K : PySem.W.Frag} {C : Addr} {newId : String} (h : oexB K C newId = true) : ∃ nm q N bs bm sn sub ab col dd k0 k1 k2 k3 k5, K.lookup C = some (excClassObj nm q C N bs bm true sn sub ab col dd k0 k1 k2 k3 k5 newId) ∧ RefsB (tlOf newId) bm := by
  unfold oexB at h
  split at h
  · rename_i t dd cd sl ho
    obtain ⟨h1, h⟩ := He.ba h
    split at h
    · rename_i a bm k0 k1 k2 k3 n k5 hm hs
      obtain ⟨h2, h⟩ := He.ba h
      obtain ⟨h3, h⟩ := He.ba h
      obtain ⟨h4, h⟩ := He.ba h
      obtain ⟨h5, h6⟩ := He.ba h
      obtain ⟨nm, bs, mro, ns, qn, hd, sn, sub, ab, col, del⟩ := cd
      have e1 := of_decide_eq_true h1
      have e2 := of_decide_eq_true h2
      have e3 := of_decide_eq_true h3
      dsimp only at hm h4 h5
      subst hm e1 e2 e3 h5
      have e4 : del = false := by
        cases del with
        | false => rfl
        | true => cases h4
      subst e4
      have e5 : sl = #[k0, k1, k2, k3, some (.builtin n), k5] := by
        obtain ⟨l⟩ := sl
        simp only at hs
        rw [hs]
      subst e5
      exact ⟨nm, qn, ns, bs, bm, sn, sub, ab, col, dd, k0, k1, k2, k3, k5, ho, refs_ok _ h6⟩
    · cases h
  · cases h
def dec {α : Type} [DecidableEq α] (a b : α) : Bool := decide (a = b)
/-- the facts of a class of exceptions: made by its own __init__; these names are no attributes of it -/
def clsB (K : PySem.W.Frag) (newId : String) (x : Str) (ns : List Str) : Bool :=
  oexB K (He.ga K x) newId && (dec (PySem.W.findIn K (.ref (He.ga K x)) "__setattr__") (some (some (.builtin "object.__setattr__"))) && (dec (PySem.W.subIn K (.ref (He.ga K x)) (.type "BaseException")) (some true) && (dec (PySem.W.typeIn K (.ref (He.ga K x))) (some (.type "type")) &&
  (PySem.W.keepIn K (.ref (He.ga K x)) && (xfB K (He.ga K x) && (dec (PySem.W.findIn K (.ref (He.ga K x)) "__init__") (some (some (.ref (He.fAd K (x, some "__init__"))))) && (dec (PySem.W.typeIn K (.ref (He.fAd K (x, some "__init__")))) (some (.type "function")) &&
  (PySem.W.fnIn K (He.fAd K (x, some "__init__")) && ns.all fun n => dec (PySem.W.findIn K (.ref (He.ga K x)) n) (some none)))))))))
structure ClsF (K : PySem.W.Frag) (newId : String) (x : Str) (ns : List Str) : Prop where
  obj : ∃ nm q N bs bm sn sub ab col dd k0 k1 k2 k3 k5, K.lookup (He.ga K x) = some (excClassObj nm q (He.ga K x) N bs bm true sn sub ab col dd k0 k1 k2 k3 k5 newId) ∧ RefsB (tlOf newId) bm
  sa : PySem.W.findIn K (.ref (He.ga K x)) "__setattr__" = some (some (.builtin "object.__setattr__"))
  exC : PySem.W.subIn K (.ref (He.ga K x)) (.type "BaseException") = some true
  tyC : PySem.W.typeIn K (.ref (He.ga K x)) = some (.type "type")
  kC : PySem.W.keepIn K (.ref (He.ga K x)) = true
  xf : XfC K (He.ga K x)
  ini : PySem.W.findIn K (.ref (He.ga K x)) "__init__" = some (some (.ref (He.fAd K (x, some "__init__"))))
  fty : PySem.W.typeIn K (.ref (He.fAd K (x, some "__init__"))) = some (.type "function")
  fin : PySem.W.fnIn K (He.fAd K (x, some "__init__")) = true
  no : ∀ n ∈ ns, PySem.W.findIn K (.ref (He.ga K x)) n = some none
theorem clsB_ok {K : PySem.W.Frag} {newId : String} {x : Str} {ns : List Str} (h : clsB K newId x ns = true) : ClsF K newId x ns := by
  obtain ⟨h1, h⟩ := He.ba h
  obtain ⟨h2, h⟩ := He.ba h
  obtain ⟨h3, h⟩ := He.ba h
  obtain ⟨h4, h⟩ := He.ba h
  obtain ⟨h5, h⟩ := He.ba h
  obtain ⟨h6, h⟩ := He.ba h
  obtain ⟨h7, h⟩ := He.ba h
  obtain ⟨h8, h⟩ := He.ba h
  obtain ⟨h9, h⟩ := He.ba h
  exact ⟨oexB_ok h1, of_decide_eq_true h2, of_decide_eq_true h3, of_decide_eq_true h4, h5, xfB_ok h6, of_decide_eq_true h7, of_decide_eq_true h8, h9, fun n hn => of_decide_eq_true (List.all_eq_true.mp h n hn)⟩
theorem ClsF.oexA {K : PySem.W.Frag} {newId B i : String} {x : Str} {ns : List Str} (c : ClsF K newId x ns) (T : TailF B newId i (tlOf newId)) : OexA K (He.ga K x) := ⟨⟨B, newId, i, _, T, c.obj⟩, c.sa, c.exC, c.tyC, c.kC⟩
theorem tlOf_V : tlOf "ValueError.__new__" = tlV := by decide
theorem tlOf_L : tlOf "LookupError.__new__" = tlL := by decide
theorem tlOf_I : tlOf "IndexError.__new__" = tlI := by decide
/-- which built-in class it is -/
structure BaseF (B newId i : String) : Prop where
  t : TailF B newId i (tlOf newId)
theorem bfV : BaseF "ValueError" "ValueError.__new__" "ValueError.__init__" := ⟨by rw [tlOf_V]; exact tfV⟩
theorem bfL : BaseF "LookupError" "LookupError.__new__" "LookupError.__init__" := ⟨by rw [tlOf_L]; exact tfL⟩
theorem bfI : BaseF "IndexError" "IndexError.__new__" "IndexError.__init__" := ⟨by rw [tlOf_I]; exact tfI⟩
/-! what stands behind a class in the order of another -/
def ownB (K : PySem.W.Frag) (C D : Str) (to : Value) : Bool := dec (PySem.W.mroIn K (He.ga K C) (.ref (He.ga K D))) (some true) && (dec (PySem.W.ks_superIn K (He.ga K C) (He.ga K D) "__init__") (some (some to)) && dec (PySem.W.nsIn K PySem.cStatics "thirdparty.any") (some none))
theorem ownB_ok {K : PySem.W.Frag} {C D : Str} {to : Value} (h : ownB K C D to = true) : PySem.W.mroIn K (He.ga K C) (.ref (He.ga K D)) = some true ∧ PySem.W.ks_superIn K (He.ga K C) (He.ga K D) "__init__" = some (some to) ∧ PySem.W.nsIn K PySem.cStatics "thirdparty.any" = some none := by
  obtain ⟨h1, h⟩ := He.ba h
  obtain ⟨h2, h3⟩ := He.ba h
  exact ⟨of_decide_eq_true h1, of_decide_eq_true h2, of_decide_eq_true h3⟩
/-! the Hook -/
abbrev AlI : Type := He.AlX × List IW
/-- the init of a class's text -/
def cInit : Stmt → Stmt
  | .ClassDef _ _ _ (st :: _) _ _ _ _ _ _ _ => st
  | st => st
structure SaysI (fa : List He.Fa) (fn : List He.DefD) (ts : List He.Tab) (tf : List He.Defn) (ex : PySem.W.Frag → Bool) (ins : List IDef) (w : World) (h : Heap) (K : PySem.W.Frag) : Prop where
  x : He.SaysX fa fn ts tf ex w h K
  i : ins.map (iSee K) = ins.map iVal
/-- what is looked at: what the names reach, and the place of the statics -/
def seeK (g : Addr → Option Obj) (n : Nat) : PySem.W.Frag := He.frT g (He.asD g n ++ [PySem.cStatics])
def obsI (n : Nat) (fa : List He.Fa) (fn : List He.DefD) (ts : List He.Tab) (tf : List He.Defn) (ex : PySem.W.Frag → Bool) (ins : List IDef) (g : Addr → Option Obj) : AlI :=
  ((He.obsT fa fn ts (seeK g n), ex (seeK g n) && He.tabsB g tf (seeK g n)), ins.map (iSee (seeK g n)))
theorem obsI_ok {n : Nat} {fa : List He.Fa} {fn : List He.DefD} {ts : List He.Tab} {tf : List He.Defn} {ex : PySem.W.Frag → Bool} {ins : List IDef} {w : World} {h : Heap} (e : obsI n fa fn ts tf ex ins h.get? = (He.valX fn ts w, ins.map iVal)) : SaysI fa fn ts tf ex ins w h (seeK h.get? n) := by
  have e1 : He.obsT fa fn ts (seeK h.get? n) = He.valT fn ts w := congrArg (fun z : AlI => z.1.1) e
  have e2 : (ex (seeK h.get? n) && He.tabsB h.get? tf (seeK h.get? n)) = true := congrArg (fun z : AlI => z.1.2) e
  have e3 : ins.map (iSee (seeK h.get? n)) = ins.map iVal := congrArg (fun z : AlI => z.2) e
  obtain ⟨x1, x2⟩ := He.ba e2
  have at_ : ∀ p ∈ tf, PySem.W.codeHdIn (seeK h.get? n) (He.cT (seeK h.get? n) p).1 (He.cT (seeK h.get? n) p).2 = true ∧ ∃ o, h.get? (He.cT (seeK h.get? n) p).2 = some o ∧ He.emptyTab o = true := fun p hp => by
    have y := List.all_eq_true.mp x2 p hp
    obtain ⟨y1, y2⟩ := He.ba y
    refine ⟨y1, ?_⟩
    cases z : h.get? (He.cT (seeK h.get? n) p).2 with
    | some o => rw [z] at y2; exact ⟨o, rfl, y2⟩
    | none => rw [z] at y2; cases y2
  refine ⟨⟨e1, x1, fun p hp => (at_ p hp).1, fun p hp => ?_, fun p hp => ?_⟩, e3⟩
  · obtain ⟨_, o, z1, z2⟩ := at_ p hp
    exact He.frT_none z1 z2
  · obtain ⟨_, o, z1, z2⟩ := at_ p hp
    rw [z1, He.emptyTab_eq z2]
def hookI (n : Nat) (fa : List He.Fa) (fn : List He.DefD) (ts : List He.Tab) (tf : List He.Defn) (ex : PySem.W.Frag → Bool) (ins : List IDef) : PySem.W.Hook where
  α := AlI
  obs := fun s => obsI n fa fn ts tf ex ins s.heap.get?
  val := fun w => (He.valX fn ts w, ins.map iVal)
  says := fun w h => ∃ K : PySem.W.Frag, K.In h ∧ SaysI fa fn ts tf ex ins w h K
  of := fun _ _ e => ⟨_, He.frT_in, obsI_ok e⟩
  keeps := fun _ _ _ ⟨K, hK, c⟩ k => ⟨K, PySem.W.Frag.In.keeps hK k, ⟨c.x.t, c.x.more, c.x.hd, c.x.out, fun p hp => k _ _ (c.x.empty p hp)⟩, c.i⟩
/-- what is told of such a def -/
theorem SaysI.at {fa : List He.Fa} {fn : List He.DefD} {ts : List He.Tab} {tf : List He.Defn} {ex : PySem.W.Frag → Bool} {ins : List IDef} {w : World} {h : Heap} {K : PySem.W.Frag} (c : SaysI fa fn ts tf ex ins w h K) (i : Nat) {d : IDef} (e : ins[i]? = some d) : iSee K d = iVal d := by
  have e2 : (ins.map (iSee K))[i]? = (ins.map iVal)[i]? := by rw [c.i]
  rw [List.getElem?_map, List.getElem?_map, e] at e2
  exact Option.some.inj e2
theorem iLook {K : PySem.W.Frag} {P : Program} {mg : Str → Option Value} {d : IDef} (e : iSee K d = iVal d) (b : iB K P.main.file d = true) (hc : ∃ cd, PySem.W.clsIn K (He.ga K d.cls) = some cd) (hp : ∃ ar, (d.params.posonlyargs ++ d.params.args).head? = some ar ∧ ar.arg = "self")
    (top : (P.main.scope.names.lookup ("super" : Str)).isSome = false) (hm : mg "super" = none) :
    ∃ (cc cda : Addr) (kV doc pm ct oc : Value) (an od : Option Addr) (osl : Array (Option Value)), K.lookup (He.fAd K (iAt d)) = some ⟨oc, od, .func (PySem.W.fnX "__init__" d.qual d.params d.body d.scope [(("__class__" : Str), cc)] .none kV doc pm an (.ref cda) ct), osl⟩ ∧
      PySem.W.codeIn K (.ref cda) d.qual = true ∧ SupK P K mg (He.fAd K (iAt d)) cda cc (He.ga K d.cls) (PySem.W.fnX "__init__" d.qual d.params d.body d.scope [(("__class__" : Str), cc)] .none kV doc pm an (.ref cda) ct) "self" := by
  unfold iSee at e
  unfold iB at b
  cases q : K.lookup (He.fAd K (iAt d)) with
  | none => rw [q] at b; cases b
  | some o =>
    obtain ⟨oc, od, dt, osl⟩ := o
    rw [q] at b e
    cases dt with
    | func fd =>
      obtain ⟨n1, n2, n3, n4, n5, n6, n7, n8, n9, n10, n11, n12, n13, n14, n15⟩ := fd
      have e2 : (some (n1, n2, n3, n4, n5, n6, n7.map (·.1), n15) : IW) = (some ((("__init__" : Str)), d.qual, d.params, .stmts d.body, d.scope, mainGlobals, [("__class__" : Str)], builtinsNs) : IW) := e
      simp only [Option.some.injEq, Prod.mk.injEq] at e2
      obtain ⟨h1, h2, h3, h4, h5, h6, h7, h8⟩ := e2
      subst h1 h2 h3 h4 h5 h6 h8
      have b2 : codB K P.main.file d.qual (He.ga K d.cls) n13 n7 n8 = true := b
      obtain ⟨c, y, cc, rfl, rfl, rfl, b3, b5, b6⟩ := codB_ok b2
      · have ey : y = "__class__" := by
          have z : [y] = [("__class__" : Str)] := h7
          exact (List.cons.inj z).1
        subst ey
        refine ⟨cc, c, n9, n10, n11, n14, oc, n12, od, osl, rfl, b3, ⟨⟨oc, od, osl, q⟩, hp, ?_, ?_, hc, top, hm⟩⟩
        · unfold fileB at b6
          split at b6
          · rename_i ccl cdd vs ccs ho
            split at b6
            · rename_i x t hx
              exact ⟨_, _, vs, _, x, t, ho, hx, b6⟩
            · cases b6
          · cases b6
        · unfold cellB at b5
          split at b5
          · rename_i cl cld a csl ho
            have ea : a = He.ga K d.cls := of_decide_eq_true b5
            rw [ea] at ho
            exact ⟨_, _, _, ho⟩
          · cases b5
    | _ => cases b
end DX
set_option maxHeartbeats 4000000
namespace DX
open PySem PySem.Spec PyProof.Rows L2 LamX DL
theorem unitsH {k : Nat} {A : Around} (r : L2H.RoomH k A) : A.units + 64 < cLine := by have := r.un; omega
/-- a call of a def that may raise, where it does not -/
theorem pass0 {X : Cx} : Passes (L2.CX X.prog X.w) X E0 := passX (E := E0) LamX.takes0
section
variable {P : Program} {w : World} {K : PySem.W.Frag} {mg : Str → Option Value} {base : Heap} {x qual : Str} {params : Arguments} {body : List Stmt} {scope : Scope} {dvs : List V} {kws : List (Str × V)} {f : Addr} {fd : FuncData}
/-- a def, its code object known -/
theorem d_ok0C {N ps : List Str} {k : Nat} {m : MS} {s : MF} {c : Addr} (F : FunD K x qual params body scope dvs kws f fd) (hc : fd.code = .ref c) (S : FnScope N ps scope)
    (hb : ∀ (A : Around) (outer : List PySem.Env) (sh : Shared) (H : Hp) (E : XK), Room k (A.deeper (envOfC qual scope sh.heap.objs.size f (.ref c))) → PSs (cxOf CX0 P w K mg base N qual scope f (.ref c) A outer sh H E).nox body (tSt K E0 m))
    (len : ∀ ds M k kx, s ds M k kx → ds.length = ps.length)
    (hs : ∀ ds M k kx, s ds M k kx → m { nx := fun _ M' => k .non M', rt := k } (startD N.length ds) M noX) : FnOk P w K mg base CX0 (k + 1) f fd ps (DL.spI K s) := by
  obtain ⟨oc, od, dV, kV, doc, pm, an, cdv, ct, osl, rfl, lk, hcd, _, _⟩ := F.ex
  have ec : cdv = .ref c := hc
  subst ec
  refine fn_of lk hcd S (fun vs H Q E ⟨M, S, ds, k, kx, r, hd, h, _⟩ => by rw [← hd.length]; exact len _ _ _ _ h) fun A outer sh H vs Q E hr ⟨M, S, ds, k, kx, r, hd, h, kv, kxx⟩ => ⟨_, PSs.nox (hb A outer sh H E hr), ?_⟩
  exact ⟨M, S, _, _, noX, r, start_ok hd, hs _ _ _ _ h, fun Γ' M' q H' σ' r' e' er' => kv _ M' q H' _ r' e' (dv_non.mpr rfl), kv, fun Γ' M' q => q.elim, fun Γ' M' q => q.elim, fun _ _ q => q.elim⟩
end
/-- the class x of exceptions: made of n values, with these fields -/
structure ErD (P : Program) (w : World) (K : PySem.W.Frag) (mg : Str → Option Value) (base : Heap) (k : Nat) (x : Str) (n : Nat) (fsD : List D → List (Str × D)) : Prop where
  gl : mg x = some (.ref (He.ga K x))
  oex : OexA K (He.ga K x)
  few : n ≤ 1000
  made : ∃ fI fd ps ok fs, PySem.W.findIn K (.ref (He.ga K x)) "__init__" = some (some (.ref fI)) ∧ PySem.W.typeIn K (.ref fI) = some (.type "function") ∧ FnOk P w K mg base CX0 k fI fd ps (DX.spI K ok n fs) ∧ ok (He.ga K x) ∧ Binds K fd ps [] ∧ FsOk K n fsD fs
section
variable {X : Cx} {E : XK} {k n : Nat} {x : Str} {fsD : List D → List (Str × D)} {e : Expr} {es : List Expr} {mA : MA} {p pos rpos : Pos}
theorem ds_raiseD (D : ErD X.prog X.w X.K X.mg X.base k x n fsD) (hr : Room (k + 1) X.A) (hc : X.calm = true) (tk : Takes X fun c d _ H => E c d H) (hg : Gl X x) (ha : PA X (e :: es) (tA X.K E mA))
    (hdb : (x == ("__debug__" : Str)) = false := by decide) (he : starEach (e :: es) X.env = (false, eval e X.env) :: starEach es X.env := by rfl) (hpl : (backTo pos (starEach es X.env)).any (·.1) = false := by rfl) :
    PS X (.Raise (some (.Call (.Name x p) (e :: es) [] pos)) none rpos) (tSt X.K E (mRaise (He.ga X.K x) n fsD mA)) := by
  obtain ⟨fI, fd, ps, ok, fs, h1, h2, h3, h4, h5, h6⟩ := D.made
  exact ds_raise hc tk (pmk_err D.oex h1 h2 h3 h4 D.few hr h5 hg D.gl h6 ha hdb he hpl)
end
/-! what _law_field tells -/
def fldNames : List Str := ["code", "given", "at", "table", "one", "other", "name", "most", "taken", "number", "line"]
/-- an exception's class that _law_got takes -/
structure okE (K : PySem.W.Frag) (C : Addr) : Prop where
  xf : XfC K C
  no : ∀ n ∈ fldNames, PySem.W.findIn K (.ref C) n = some none
  ex : PySem.W.exmAny K (.ref C) [.ref (He.ga K "LotsError"), .ref (He.ga K "Missing"), .ref (He.ga K "NothingLeft")] = some true
/-- _law_got's and _law_field's defs -/
structure GotD (P : Program) (w : World) (K : PySem.W.Frag) (mg : Str → Option Value) (base : Heap) (k : Nat) (fld : Addr → Addr → MF) : Prop where
  ex : ∃ (a nm pf : Str) (sg : Scope) (pg : Arguments) (g ff : Addr) (fd fdf : FuncData) (j n1 n2 n3 : Nat) (p : Nat → Pos), FunD K "_law_got" "_law_got" pg (gotBody a nm "LotsError" "Missing" "NothingLeft" "_law_field" j n1 n2 n3 p) sg [] [] g fd ∧ mg "_law_got" = some (.ref g) ∧ Binds K fd [a] [] ∧ FnScope [a, nm] [a] sg ∧
    ((a == ("__debug__" : Str)) = false ∧ (a == ("__classdict__" : Str)) = false ∧ (nm == ("__debug__" : Str)) = false ∧ (nm == ("__classdict__" : Str)) = false) ∧ sg.names.lookup a = some .local ∧ sg.names.lookup nm = some .local ∧
    (sg.names.lookup ("LotsError" : Str) = some .globalImplicit ∧ sg.names.lookup ("Missing" : Str) = some .globalImplicit ∧ sg.names.lookup ("NothingLeft" : Str) = some .globalImplicit ∧ sg.names.lookup ("_law_field" : Str) = some .globalImplicit) ∧
    FnE P w K mg base k ff fdf [pf] (spE K (okE K) fld) ∧ mg "_law_field" = some (.ref ff) ∧ PySem.W.keepIn K (.ref ff) = true ∧ Binds K fdf [pf] []
  g1 : mg "LotsError" = some (.ref (He.ga K "LotsError"))
  g2 : mg "Missing" = some (.ref (He.ga K "Missing"))
  g3 : mg "NothingLeft" = some (.ref (He.ga K "NothingLeft"))
section
variable {X : Cx} {E : XK} {k : Nat} {fld : Addr → Addr → MF} {c P : Addr} {params : Arguments} {body : Expr} {scope : Scope} {m : ME} {p lpos pos : Pos}
theorem de_gotD (G : GotD X.prog X.w X.K X.mg X.base k fld) (TB : TabB X.base X.mg c P) (hcode : X.env.code = .ref c) (hg : Gl X "_law_got") (room : Room (k + 2) X.A) (L : LamS X.env.scope scope) (hdef : defaultsOf params X.env = ([], []))
    (hbind : ∀ (q : Str) (cl : List (Str × Addr)) (pm cv ctv : Value), bindArgs (PySem.W.kla_fn "<lambda>" q params body scope cl pm cv ctv) ⟨[], []⟩ = pure [])
    (hbody : ∀ (A : Around) (outer : List PySem.Env) (s : Shared) (H : Hp) (E : XK) (f d : Addr), Room k (A.deeper (lamEnv X scope s.heap.objs.size f d)) → PE (lamCx X A outer s H E scope f d) body (tI X.K E m)) :
    PE X (.Call (.Name "_law_got" p) [.Lambda params body scope lpos] [] pos) (tI X.K E (mGot P (X.env.qual ++ "<lambda>") (okE X.K) fld m)) := by
  obtain ⟨a, nm, pf, sg, pg, g, ff, fd, fdf, j, n1, n2, n3, pp, F, gl, hb, Sg, ⟨d1, d2, d3, d4⟩, la, ln, ⟨l1, l2, l3, l4⟩, Ff, gf, kf, bf⟩ := G.ex
  refine de_got (k := k) F gl hb Sg rfl (.inl la) TB (fun cdv => ?_) hg hcode room L hdef hbind hbody (by decide) d1 d2
  exact got_gives Sg.nd ln l1 l2 l3 l4 G.g1 G.g2 G.g3 (by decide) (by decide) (by decide) (by decide) d3 d4 (fun C h => h.ex) (fun C h => ⟨h.xf, h.no _ (by decide)⟩) Ff gf kf bf (room.mono (by omega))
end
/-- the law at the start, its table empty -/
theorem law_startT {K : PySem.W.Frag} {H : Hp} {a P : Addr} {q : Str} {ns : List Int} {s : MF} (hP : H P = some (.tbl #[])) (hS : SqL K H a (ns.map V.int)) (h : ∀ M : Mh, M P = some (.tab q) → s [.scr ns] M (fun d _ => d = .bl true) noX) : DL.spI K s [.ref a] H (fun v _ => v = .bl true) (fun _ _ _ => False) := by
  have at_ : ∀ b o, b ≠ P → H b = some o → hid (fun b => if b = P then some (MO.tab q) else none) (fun _ => none) H b = some o := fun b o ne e => hid_some.mpr ⟨if_neg ne, rfl, e⟩
  have np : ∀ b o, H b = some o → (∀ ps, o ≠ .tbl ps) → b ≠ P := fun b o e n z => by
    rw [z, hP] at e
    exact n _ (Option.some.inj e).symm
  have hS' : SqL K (hid (fun b => if b = P then some (MO.tab q) else none) (fun _ => none) H) a (ns.map V.int) := by
    rcases hS with (z | ⟨o, z⟩) | z
    · exact .inl (.inl (at_ _ _ (np _ _ z (fun _ y => by cases y)) z))
    · exact .inl (.inr ⟨o, at_ _ _ (np _ _ z (fun _ y => by cases y)) z⟩)
    · exact .inr z
  refine ⟨fun b => if b = P then some (MO.tab q) else none, fun _ => none, [.scr ns], _, noX, ⟨fun b o z => (by cases z), fun b o z => ?_⟩, DVs.one (dv_scr.mpr ⟨a, rfl, hS'⟩), h _ (if_pos rfl), fun d M' z H' v r ex dv => ?_, fun _ _ z => z.elim⟩
  · by_cases e : b = P
    · subst e
      have z' : some (MO.tab q) = some o := (if_pos rfl).symm.trans z
      cases z'
      exact ⟨_, hP, #[], rfl, trivial, fun p v y => by
        have y' : codeAmong p [] = some v := y
        simp [codeAmong] at y'⟩
    · have z' : (none : Option MO) = some o := (if_neg e).symm.trans z
      cases z'
  · subst z
    exact dv_bl.mp dv
end DX
set_option maxHeartbeats 4000000
namespace DX
open PySem PySem.Spec PyProof.Rows L2 DL
/-- what the class says, so that its instances can be asked -/
structure IsC (K : PySem.W.Frag) (C : Addr) : Prop where
  xf : XfC K C
  cl : (PySem.W.clsIn K C).isSome = true
  ha : PySem.W.findIn K (.ref C) "__class__" = some (some (.builtin "object.__class__"))
  hn : PySem.W.specialIn K (.builtin "object.__class__") "__get__" = some (some (.builtin "getset_descriptor.__get__"))
  ht : PySem.W.takesIn K (.builtin "object.__class__") = some true
  hm : PySem.W.mroIn K C (.type "object") = some true
  no : ∀ n ∈ fldNames, PySem.W.findIn K (.ref C) n = some none
/-- is an instance of the class at C one of the class named T -/
def isK (K : PySem.W.Frag) (C : Addr) (T : Str) : Option Bool := if T = "ValueError" then PySem.W.kitOne K (.ref C) (.type "ValueError") else if T = "LookupError" then PySem.W.kitOne K (.ref C) (.type "LookupError") else if T = "IndexError" then PySem.W.kitOne K (.ref C) (.type "IndexError") else PySem.W.kitOne K (.ref C) (.ref (He.ga K T))
/-- what a reading may name: where the classes stand, which exceptions are taken, the tables of the code objects by their defs, what isinstance tells -/
structure Ev where
  G : Str → Addr
  ok : Addr → Prop
  P : Str → Addr
  is : Addr → Str → Option Bool
  isc : Addr → Prop
def EvD (K : PySem.W.Frag) (V : Ev) : Prop := V.G = He.ga K ∧ V.ok = okE K ∧ V.is = isK K ∧ V.isc = IsC K
def lamQ : Str := ("law" : Str) ++ ".<locals>." ++ "<lambda>"
/-! the fields that the own __init__ leaves -/
def fs0D (z : Str) : List D → List (Str × D) := fun _ => [(("code" : Str), D.str z)]
def fs1D (p z : Str) : List D → List (Str × D) := fun ds => (ds.map fun c => (p, c)) ++ [(("code" : Str), D.str z)]
def fs2D (p q z : Str) : List D → List (Str × D) := fun ds => ([p, q].zip ds).reverse ++ [(("code" : Str), D.str z)]
section
variable {K : PySem.W.Frag}
theorem fs0_ok {z : Str} : FsOk K 0 (fs0D z) fun _ => [(("code" : Str), V.str z)] := fun F ds vs _ _ => ⟨.str z, [], rfl, dv_str.mpr rfl, rfl⟩
theorem fs1_ok {p z : Str} : FsOk K 1 (fs1D p z) fun ws => (ws.map fun c => (p, c)) ++ [(("code" : Str), V.str z)] := fun F ds vs h hl => by
  match ds, hl with
  | [d], _ =>
    obtain ⟨v, r, rfl, h1, h2⟩ := dvs_cons.mp h
    obtain rfl := dvs_nil.mp h2
    exact ⟨v, _, rfl, h1, .str z, [], rfl, dv_str.mpr rfl, rfl⟩
theorem fs2_ok {p q z : Str} : FsOk K 2 (fs2D p q z) fun ws => (([p, q].zip ws).reverse) ++ [(("code" : Str), V.str z)] := fun F ds vs h hl => by
  match ds, hl with
  | [d, e], _ =>
    obtain ⟨v, r, rfl, h1, h2⟩ := dvs_cons.mp h
    obtain ⟨u, r, rfl, h3, h4⟩ := dvs_cons.mp h2
    obtain rfl := dvs_nil.mp h4
    exact ⟨u, _, rfl, h3, v, _, rfl, h1, .str z, [], rfl, dv_str.mpr rfl, rfl⟩
end
end DX
set_option maxHeartbeats 4000000
/-! the program's own classes of exceptions -/
namespace DX
open PySem PySem.Spec PyProof.Rows L2 DL ClX NdefX
theorem ClsF.cls {K : PySem.W.Frag} {newId : String} {x : Str} {ns : List Str} (c : ClsF K newId x ns) : ∃ cd, PySem.W.clsIn K (He.ga K x) = some cd := by
  obtain ⟨nm, q, N, bs, bm, sn, sub, ab, col, dd, k0, k1, k2, k3, k5, h, _⟩ := c.obj
  exact ⟨_, by unfold PySem.W.clsIn; rw [h]⟩
section
variable {P : Program} {w : World} {K : PySem.W.Frag} {mg : Str → Option Value} {base : Heap} {B newId i : String}
/-- a class over ValueError whose __init__ says super().__init__(par); self.par = par -/
theorem base1 {d : IDef} {par : Str} {ns : List Str} {p0 p1 apos p3 p4 p2 q1 q2 q3 q4 : Pos} {pl : Sem Bool} (e : iSee K d = iVal d) (b : iB K P.main.file d = true) (cl : ClsF K newId d.cls ns) (hp : ∃ ar, (d.params.posonlyargs ++ d.params.args).head? = some ar ∧ ar.arg = "self")
    (top : (P.main.scope.names.lookup ("super" : Str)).isSome = false) (hm : mg "super" = none)
    (hbd : d.body = [.Expr (supEx p0 p1 apos p3 (.Name par p2)) p4, .Assign [.Attribute (.Name "self" q1) par q2] (.Name par q3) q4]) (S : NScope ["self", par, "__class__"] ["self", par] ["__class__"] d.scope) (hks : d.scope.names.lookup ("super" : Str) = some .globalImplicit)
    (hev : ∀ env, SupEv p0 p1 apos p3 (.Name par p2) env pl) (hsw : ∀ env, swapsWith (supEx p0 p1 apos p3 (.Name par p2)) none p4.line env = pure false) (hsw2 : ∀ env, swapsWith (.Name par q3) (some (.Attribute (.Name "self" q1) par q2)) q4.line env = pure false)
    (hd : (par == ("__debug__" : Str)) = false) (hdc : (par == ("__classdict__" : Str)) = false)
    (hbi : ∀ (cc : Addr) (kV doc pm : Value) (an : Option Addr) (cdv ct : Value) (us : List Value), us.length = 2 → bindArgs (PySem.W.fnX "__init__" d.qual d.params d.body d.scope [(("__class__" : Str), cc)] .none kV doc pm an cdv ct) ⟨us, []⟩ = pure ([("self" : Str), par].zip us)) :
    ∃ fd, FnOk P w K mg base CX0 1 (He.fAd K (iAt d)) fd ["self", par] (DX.spI K (fun C => ToBlt K C (He.ga K d.cls) B newId i (tlOf newId) ∧ PySem.W.findIn K (.ref C) par = some none) 1 fun ws => (ws.map fun c => (par, c))) ∧ Binds K fd ["self", par] [] := by
  obtain ⟨cc, cda, kV, doc, pm, ct, oc, an, od, osl, lk, hcd, T⟩ := iLook e b cl.cls hp top hm
  have hB : Binds K (PySem.W.fnX "__init__" d.qual d.params d.body d.scope [(("__class__" : Str), cc)] .none kV doc pm an (.ref cda) ct) ["self", par] [] := .all fun us hl => hbi cc kV doc pm an _ ct us hl
  obtain ⟨cls, qual, params, body, scope⟩ := d
  dsimp only at hbd
  subst hbd
  exact ⟨_, init_blt lk hcd T S hks hev hsw hsw2 hd hdc, hB⟩
/-- what a class over that one asks -/
structure Over (K : PySem.W.Frag) (B newId i : String) (x b : Str) (ns : List Str) : Prop where
  cl : ClsF K newId x ns
  own : ownB K x x (.ref (He.fAd K (b, some "__init__"))) = true
  blt : ownB K x b (.builtin i) = true
  isB : PySem.W.subIn K (.ref (He.ga K x)) (.type B) = some true
def overB (K : PySem.W.Frag) (B newId i : String) (x b : Str) (ns : List Str) : Bool := clsB K newId x ns && (ownB K x x (.ref (He.fAd K (b, some "__init__"))) && (ownB K x b (.builtin i) && dec (PySem.W.subIn K (.ref (He.ga K x)) (.type B)) (some true)))
theorem overB_ok {K : PySem.W.Frag} {B newId i : String} {x b : Str} {ns : List Str} (h : overB K B newId i x b ns = true) : Over K B newId i x b ns := by
  obtain ⟨h1, h⟩ := He.ba h
  obtain ⟨h2, h⟩ := He.ba h
  obtain ⟨h3, h4⟩ := He.ba h
  exact ⟨clsB_ok h1, h2, h3, of_decide_eq_true h4⟩
theorem Over.toBlt {x b : Str} {ns : List Str} (bf : BaseF B newId i) (o : Over K B newId i x b ns) : ToBlt K (He.ga K x) (He.ga K b) B newId i (tlOf newId) := by
  obtain ⟨h1, h2, h3⟩ := ownB_ok o.blt
  obtain ⟨nm, q, N, bs, bm, sn, sub, ab, col, dd, k0, k1, k2, k3, k5, h, _⟩ := o.cl.obj
  exact ⟨bf.t.kf, bf.t.fb, ⟨nm, q, N, bs, bm, true, sn, sub, ab, col, dd, k0, k1, k2, k3, k5, h⟩, o.isB, h1, h2, h3⟩
theorem Over.toOwn {x b : Str} {ns : List Str} (o : Over K B newId i x b ns) : ToOwn K (He.ga K x) (He.ga K x) (He.fAd K (b, some "__init__")) := by
  obtain ⟨h1, h2, h3⟩ := ownB_ok o.own
  exact ⟨h1, h2, h3⟩
/-- def __init__(self, par): super().__init__('z'); self.par = par -/
theorem er1 {d d0 : IDef} {par z : Str} {ns ns0 : List Str} {fd0 : FuncData} {p0 p1 apos p3 p4 p2 q1 q2 q3 q4 : Pos} {j : Nat} {pl : Sem Bool} (F0 : FnOk P w K mg base CX0 1 (He.fAd K (iAt d0)) fd0 ["self", "code"] (DX.spI K (fun C => ToBlt K C (He.ga K d0.cls) B newId i (tlOf newId) ∧ PySem.W.findIn K (.ref C) "code" = some none) 1 fun ws => (ws.map fun c => (("code" : Str), c))))
    (B0 : Binds K fd0 ["self", "code"] []) (c0 : ClsF K newId d0.cls ns0) (gl : mg d.cls = some (.ref (He.ga K d.cls))) (bf : BaseF B newId i) (o : Over K B newId i d.cls d0.cls ns) (n1 : ("code" : Str) ∈ ns) (n2 : par ∈ ns)
    (e : iSee K d = iVal d) (b : iB K P.main.file d = true) (hp : ∃ ar, (d.params.posonlyargs ++ d.params.args).head? = some ar ∧ ar.arg = "self")
    (top : (P.main.scope.names.lookup ("super" : Str)).isSome = false) (hm : mg "super" = none)
    (hbd : d.body = [.Expr (supEx p0 p1 apos p3 (.Constant (.str z) j p2)) p4, asgS par q1 q2 q3 q4]) (S : NScope ["self", par, "__class__"] ["self", par] ["__class__"] d.scope) (hks : d.scope.names.lookup ("super" : Str) = some .globalImplicit)
    (hev : ∀ env, SupEv p0 p1 apos p3 (.Constant (.str z) j p2) env pl) (hsw : ∀ env, swapsWith (supEx p0 p1 apos p3 (.Constant (.str z) j p2)) none p4.line env = pure false) (hsw2 : ∀ env, swapsWith (.Name par q3) (some (.Attribute (.Name "self" q1) par q2)) q4.line env = pure false)
    (hd : (par == ("__debug__" : Str)) = false) (hdc : (par == ("__classdict__" : Str)) = false)
    (hbi : ∀ (cc : Addr) (kV doc pm : Value) (an : Option Addr) (cdv ct : Value) (us : List Value), us.length = 2 → bindArgs (PySem.W.fnX "__init__" d.qual d.params d.body d.scope [(("__class__" : Str), cc)] .none kV doc pm an cdv ct) ⟨us, []⟩ = pure ([("self" : Str), par].zip us)) :
    ErD P w K mg base 2 d.cls 1 (fs1D par z) := by
  obtain ⟨cc, cda, kV, doc, pm, ct, oc, an, od, osl, lk, hcd, T⟩ := iLook e b o.cl.cls hp top hm
  have hB : Binds K (PySem.W.fnX "__init__" d.qual d.params d.body d.scope [(("__class__" : Str), cc)] .none kV doc pm an (.ref cda) ct) ["self", par] [] := .all fun us hl => hbi cc kV doc pm an _ ct us hl
  obtain ⟨cls, qual, params, body, scope⟩ := d
  dsimp only at hbd
  subst hbd
  exact ⟨gl, o.cl.oexA bf.t, by decide, _, _, _, _, _, o.cl.ini, o.cl.fty, init_own1 lk hcd T S hks hev hsw hsw2 hd hdc c0.fin c0.fty (FnOk.r F0 B0), ⟨o.toOwn, ⟨o.toBlt bf, o.cl.no _ n1⟩, o.cl.no _ n2⟩, hB, fs1_ok⟩
/-- def __init__(self): super().__init__('z') -/
theorem er0 {d d0 : IDef} {z : Str} {ns ns0 : List Str} {fd0 : FuncData} {p0 p1 apos p3 p4 p2 : Pos} {j : Nat} {pl : Sem Bool} (F0 : FnOk P w K mg base CX0 1 (He.fAd K (iAt d0)) fd0 ["self", "code"] (DX.spI K (fun C => ToBlt K C (He.ga K d0.cls) B newId i (tlOf newId) ∧ PySem.W.findIn K (.ref C) "code" = some none) 1 fun ws => (ws.map fun c => (("code" : Str), c))))
    (B0 : Binds K fd0 ["self", "code"] []) (c0 : ClsF K newId d0.cls ns0) (gl : mg d.cls = some (.ref (He.ga K d.cls))) (bf : BaseF B newId i) (o : Over K B newId i d.cls d0.cls ns) (n1 : ("code" : Str) ∈ ns)
    (e : iSee K d = iVal d) (b : iB K P.main.file d = true) (hp : ∃ ar, (d.params.posonlyargs ++ d.params.args).head? = some ar ∧ ar.arg = "self")
    (top : (P.main.scope.names.lookup ("super" : Str)).isSome = false) (hm : mg "super" = none)
    (hbd : d.body = [.Expr (supEx p0 p1 apos p3 (.Constant (.str z) j p2)) p4]) (S : NScope ["self", "__class__"] ["self"] ["__class__"] d.scope) (hks : d.scope.names.lookup ("super" : Str) = some .globalImplicit)
    (hev : ∀ env, SupEv p0 p1 apos p3 (.Constant (.str z) j p2) env pl) (hsw : ∀ env, swapsWith (supEx p0 p1 apos p3 (.Constant (.str z) j p2)) none p4.line env = pure false)
    (hbi : ∀ (cc : Addr) (kV doc pm : Value) (an : Option Addr) (cdv ct : Value) (us : List Value), us.length = 1 → bindArgs (PySem.W.fnX "__init__" d.qual d.params d.body d.scope [(("__class__" : Str), cc)] .none kV doc pm an cdv ct) ⟨us, []⟩ = pure ([("self" : Str)].zip us)) :
    ErD P w K mg base 2 d.cls 0 (fs0D z) := by
  obtain ⟨cc, cda, kV, doc, pm, ct, oc, an, od, osl, lk, hcd, T⟩ := iLook e b o.cl.cls hp top hm
  have hB : Binds K (PySem.W.fnX "__init__" d.qual d.params d.body d.scope [(("__class__" : Str), cc)] .none kV doc pm an (.ref cda) ct) ["self"] [] := .all fun us hl => hbi cc kV doc pm an _ ct us hl
  obtain ⟨cls, qual, params, body, scope⟩ := d
  dsimp only at hbd
  subst hbd
  exact ⟨gl, o.cl.oexA bf.t, by decide, _, _, _, _, _, o.cl.ini, o.cl.fty, init_own0 lk hcd T S hks hev hsw c0.fin c0.fty (FnOk.r F0 B0), ⟨o.toOwn, o.toBlt bf, o.cl.no _ n1⟩, hB, fs0_ok⟩
/-- def __init__(self, par, par2): super().__init__('z'); self.par = par; self.par2 = par2 -/
theorem er2 {d d0 : IDef} {par par2 z : Str} {ns ns0 : List Str} {fd0 : FuncData} {p0 p1 apos p3 p4 p2 q1 q2 q3 q4 r1 r2 r3 r4 : Pos} {j : Nat} {pl : Sem Bool} (F0 : FnOk P w K mg base CX0 1 (He.fAd K (iAt d0)) fd0 ["self", "code"] (DX.spI K (fun C => ToBlt K C (He.ga K d0.cls) B newId i (tlOf newId) ∧ PySem.W.findIn K (.ref C) "code" = some none) 1 fun ws => (ws.map fun c => (("code" : Str), c))))
    (B0 : Binds K fd0 ["self", "code"] []) (c0 : ClsF K newId d0.cls ns0) (gl : mg d.cls = some (.ref (He.ga K d.cls))) (bf : BaseF B newId i) (o : Over K B newId i d.cls d0.cls ns) (n1 : ("code" : Str) ∈ ns) (n2 : par ∈ ns) (n3 : par2 ∈ ns)
    (e : iSee K d = iVal d) (b : iB K P.main.file d = true) (hp : ∃ ar, (d.params.posonlyargs ++ d.params.args).head? = some ar ∧ ar.arg = "self")
    (top : (P.main.scope.names.lookup ("super" : Str)).isSome = false) (hm : mg "super" = none)
    (hbd : d.body = [.Expr (supEx p0 p1 apos p3 (.Constant (.str z) j p2)) p4, asgS par q1 q2 q3 q4, asgS par2 r1 r2 r3 r4]) (S : NScope ["self", par, par2, "__class__"] ["self", par, par2] ["__class__"] d.scope) (hks : d.scope.names.lookup ("super" : Str) = some .globalImplicit)
    (hev : ∀ env, SupEv p0 p1 apos p3 (.Constant (.str z) j p2) env pl) (hsw : ∀ env, swapsWith (supEx p0 p1 apos p3 (.Constant (.str z) j p2)) none p4.line env = pure false) (hsw2 : ∀ env, swapsWith (.Name par q3) (some (.Attribute (.Name "self" q1) par q2)) q4.line env = pure false) (hsw3 : ∀ env, swapsWith (.Name par2 r3) (some (.Attribute (.Name "self" r1) par2 r2)) r4.line env = pure false)
    (hd : (par == ("__debug__" : Str)) = false) (hdc : (par == ("__classdict__" : Str)) = false) (hd2 : (par2 == ("__debug__" : Str)) = false) (hdc2 : (par2 == ("__classdict__" : Str)) = false)
    (hbi : ∀ (cc : Addr) (kV doc pm : Value) (an : Option Addr) (cdv ct : Value) (us : List Value), us.length = 3 → bindArgs (PySem.W.fnX "__init__" d.qual d.params d.body d.scope [(("__class__" : Str), cc)] .none kV doc pm an cdv ct) ⟨us, []⟩ = pure ([("self" : Str), par, par2].zip us)) :
    ErD P w K mg base 2 d.cls 2 (fs2D par par2 z) := by
  obtain ⟨cc, cda, kV, doc, pm, ct, oc, an, od, osl, lk, hcd, T⟩ := iLook e b o.cl.cls hp top hm
  have hB : Binds K (PySem.W.fnX "__init__" d.qual d.params d.body d.scope [(("__class__" : Str), cc)] .none kV doc pm an (.ref cda) ct) ["self", par, par2] [] := .all fun us hl => hbi cc kV doc pm an _ ct us hl
  obtain ⟨cls, qual, params, body, scope⟩ := d
  dsimp only at hbd
  subst hbd
  exact ⟨gl, o.cl.oexA bf.t, by decide, _, _, _, _, _, o.cl.ini, o.cl.fty, init_own2 lk hcd T S hks hev hsw hsw2 hsw3 hd hdc hd2 hdc2 c0.fin c0.fty (FnOk.r F0 B0), ⟨o.toOwn, ⟨o.toBlt bf, o.cl.no _ n1⟩, o.cl.no _ n2, o.cl.no _ n3⟩, hB, fs2_ok⟩
end
end DX
set_option maxHeartbeats 4000000
namespace DX
open PySem PySem.Spec PyProof.Rows L2 DL LamX
/-- the places of _law_got's text -/
def gotPos : List Stmt → Nat → Pos
  | [.Try [.Return (some (.Tuple [.Constant _ _ p0, .Call (.Name _ p1) _ _ p2] _ p3)) p4]
      [.ExceptHandler (some (.Tuple [.Name _ p5, .Name _ p6, .Name _ p7] _ p8)) _ [.Return (some (.Tuple [.Attribute (.Name _ p9) _ p10, .Call (.Name _ p11) [.Name _ p12] _ p13] _ p14)) p15] p16] _ _ p17] =>
    fun i => [p0, p1, p2, p3, p4, p5, p6, p7, p8, p9, p10, p11, p12, p13, p14, p15, p16, p17].getD i p0
  | _ => fun _ => ⟨0, 0, 0, 0⟩
theorem code_of {K : PySem.W.Frag} {x qual : Str} {params : Arguments} {body : List Stmt} {scope : Scope} {dvs : List V} {kws : List (Str × V)} {fd : FuncData} {p : Str × Option Str} (F : FunD K x qual params body scope dvs kws (He.fAd K p) fd) : fd.code = .ref (He.codeOf K p) := by
  obtain ⟨oc, od, dV, kV, doc, pm, an, cdv, ct, osl, rfl, lk, hcd, _, _⟩ := F.ex
  obtain ⟨c, rfl⟩ := He.codeIn_ref hcd
  rw [He.codeOf_eq lk rfl]
end DX
set_option maxHeartbeats 4000000
/-! a class straight over a built-in one, made of nothing; exceptions as values -/
namespace DX
open PySem PySem.Spec PyProof.Rows L2 DL ClX NdefX
section
variable {P : Program} {w : World} {K : PySem.W.Frag} {mg : Str → Option Value} {base : Heap}
/-- def __init__(self): super().__init__('Z'); self.code = 'Z', over a built-in class -/
theorem init_blt0 {f cc cda D : Addr} {name qual par z z2 : Str} {params : Arguments} {p0 p1 apos p3 p4 p2 q1 q2 q3 q4 : Pos} {j j2 : Nat} {scope : Scope} {dV kV doc pm ct oc : Value} {an od : Option Addr} {osl : Array (Option Value)} {B newId i : String} {bmB : List Value} {pl : Sem Bool}
    (lk : K.lookup f = some ⟨oc, od, .func (PySem.W.fnX name qual params [.Expr (supEx p0 p1 apos p3 (.Constant (.str z2) j2 p2)) p4, .Assign [.Attribute (.Name "self" q1) par q2] (.Constant (.str z) j q3) q4] scope [(("__class__" : Str), cc)] dV kV doc pm an (.ref cda) ct), osl⟩) (hcd : PySem.W.codeIn K (.ref cda) qual = true)
    (T : SupK P K mg f cda cc D (PySem.W.fnX name qual params [.Expr (supEx p0 p1 apos p3 (.Constant (.str z2) j2 p2)) p4, .Assign [.Attribute (.Name "self" q1) par q2] (.Constant (.str z) j q3) q4] scope [(("__class__" : Str), cc)] dV kV doc pm an (.ref cda) ct) "self")
    (S : NScope ["self", "__class__"] ["self"] ["__class__"] scope) (hks : scope.names.lookup ("super" : Str) = some .globalImplicit)
    (hev : ∀ env, SupEv p0 p1 apos p3 (.Constant (.str z2) j2 p2) env pl) (hsw : ∀ env, swapsWith (supEx p0 p1 apos p3 (.Constant (.str z2) j2 p2)) none p4.line env = pure false) (hsw2 : ∀ env, swapsWith (.Constant (.str z) j q3) (some (.Attribute (.Name "self" q1) par q2)) q4.line env = pure false) :
    FnOk P w K mg base CX0 1 f (PySem.W.fnX name qual params [.Expr (supEx p0 p1 apos p3 (.Constant (.str z2) j2 p2)) p4, .Assign [.Attribute (.Name "self" q1) par q2] (.Constant (.str z) j q3) q4] scope [(("__class__" : Str), cc)] dV kV doc pm an (.ref cda) ct) ["self"]
      (spI K (fun C => ToBlt K C D B newId i bmB ∧ PySem.W.findIn K (.ref C) par = some none) 0 fun _ => [(par, V.str z)]) := by
  obtain ⟨cl, cld, csl, hcell⟩ := T.cell
  refine fn_sup (k := 0) lk hcd hcell S (fun vs H Q E ⟨a, C, ws, e, hl, _⟩ => by rw [e, List.length_cons, hl]; rfl) (fun L => hsw _) fun A outer s H vs Q E hr ⟨a, C, ws, e, hl, ha, hox, ⟨hb, hfi⟩, hq⟩ => ?_
  obtain rfl : ws = [] := List.length_eq_zero_iff.mp hl
  subst e
  have v0 : Vis scope "self" := .inl (S.par "self" (by simp))
  refine ⟨_, fun v H1 => H1 = H, pss_one (ps_ostA (pe_var (i := 0) (x := "self") rfl v0) pe_str (hsw2 _)), fun s1 I => ?_, fun v H1 e => ?_⟩
  · refine at_sup_blt (x := a) (C := C) (dx := none) (B := B) (newId := newId) (i := i) (bmB := bmB) (pl := pl) I (SupK.to T) ⟨hb.sub, hb.along, hb.op⟩ ⟨hb.kf, hb.fb, hb.obj, hb.isB⟩ rfl rfl rfl rfl rfl (S.par "self" (by simp)) hks (S.frk "__class__" (by simp)) ha (pa_cons pe_str pa_nil) ?_ (hev _)
    exact ⟨by show 1 ≤ 1000; decide, ha, rfl⟩
  · subst e
    exact ⟨.ref a, rfl, a, C, rfl, hox, hfi, .inl ⟨ha, fun dx h1 h2 => hq dx h1 h2⟩⟩
end
/-- a class straight over the built-in one -/
def straightB (K : PySem.W.Frag) (B newId i : String) (x : Str) (ns : List Str) : Bool := clsB K newId x ns && (ownB K x x (.builtin i) && dec (PySem.W.subIn K (.ref (He.ga K x)) (.type B)) (some true))
section
variable {P : Program} {w : World} {K : PySem.W.Frag} {mg : Str → Option Value} {base : Heap} {B newId i : String}
theorem erB0 {d : IDef} {z z2 : Str} {ns : List Str} {p0 p1 apos p3 p4 p2 q1 q2 q3 q4 : Pos} {j j2 : Nat} {pl : Sem Bool} (bf : BaseF B newId i) (gl : mg d.cls = some (.ref (He.ga K d.cls))) (o : straightB K B newId i d.cls ns = true) (n1 : ("code" : Str) ∈ ns)
    (e : iSee K d = iVal d) (b : iB K P.main.file d = true) (hp : ∃ ar, (d.params.posonlyargs ++ d.params.args).head? = some ar ∧ ar.arg = "self")
    (top : (P.main.scope.names.lookup ("super" : Str)).isSome = false) (hm : mg "super" = none)
    (hbd : d.body = [.Expr (supEx p0 p1 apos p3 (.Constant (.str z2) j2 p2)) p4, .Assign [.Attribute (.Name "self" q1) "code" q2] (.Constant (.str z) j q3) q4]) (S : NScope ["self", "__class__"] ["self"] ["__class__"] d.scope) (hks : d.scope.names.lookup ("super" : Str) = some .globalImplicit)
    (hev : ∀ env, SupEv p0 p1 apos p3 (.Constant (.str z2) j2 p2) env pl) (hsw : ∀ env, swapsWith (supEx p0 p1 apos p3 (.Constant (.str z2) j2 p2)) none p4.line env = pure false) (hsw2 : ∀ env, swapsWith (.Constant (.str z) j q3) (some (.Attribute (.Name "self" q1) "code" q2)) q4.line env = pure false)
    (hbi : ∀ (cc : Addr) (kV doc pm : Value) (an : Option Addr) (cdv ct : Value) (us : List Value), us.length = 1 → bindArgs (PySem.W.fnX "__init__" d.qual d.params d.body d.scope [(("__class__" : Str), cc)] .none kV doc pm an cdv ct) ⟨us, []⟩ = pure ([("self" : Str)].zip us)) :
    ErD P w K mg base 1 d.cls 0 (fs0D z) := by
  obtain ⟨o1, o2⟩ := He.ba o
  obtain ⟨o2, o3⟩ := He.ba o2
  have cl := clsB_ok o1
  obtain ⟨g1, g2, g3⟩ := ownB_ok o2
  obtain ⟨nm, q, N, bs, bm, sn, sub, ab, col, dd, k0, k1, k2, k3, k5, h, _⟩ := cl.obj
  have tb : ToBlt K (He.ga K d.cls) (He.ga K d.cls) B newId i (tlOf newId) := ⟨bf.t.kf, bf.t.fb, ⟨nm, q, N, bs, bm, true, sn, sub, ab, col, dd, k0, k1, k2, k3, k5, h⟩, of_decide_eq_true o3, g1, g2, g3⟩
  obtain ⟨cc, cda, kV, doc, pm, ct, oc, an, od, osl, lk, hcd, T⟩ := iLook e b cl.cls hp top hm
  have hB : Binds K (PySem.W.fnX "__init__" d.qual d.params d.body d.scope [(("__class__" : Str), cc)] .none kV doc pm an (.ref cda) ct) ["self"] [] := .all fun us hl => hbi cc kV doc pm an _ ct us hl
  obtain ⟨cls, qual, params, body, scope⟩ := d
  dsimp only at hbd
  subst hbd
  exact ⟨gl, cl.oexA bf.t, by decide, _, _, _, _, _, cl.ini, cl.fty, init_blt0 lk hcd T S hks hev hsw hsw2, ⟨tb, cl.no _ n1⟩, hB, fs0_ok⟩
end
/-! ### made of nothing -/
section
variable {X : Cx} {E : XK} {k n : Nat} {x : Str} {fsD : List D → List (Str × D)} {e : Expr} {es : List Expr} {mA : MA} {p pos rpos : Pos}
theorem pmk_oexA0 {C fI : Addr} {fd : FuncData} {ps : List Str} {sp : Sp} (T : OexA X.K C) (iC : PySem.W.findIn X.K (.ref C) "__init__" = some (some (.ref fI))) (tI : PySem.W.typeIn X.K (.ref fI) = some (.type "function"))
    (F1 : FnOk X.prog X.w X.K X.mg X.base CX0 k fI fd ps sp) (hr : Room (k + 1) X.A) (hb : Binds X.K fd ps []) (hg : Gl X x) (hm : X.mg x = some (.ref C)) (hdb : (x == ("__debug__" : Str)) = false := by decide) :
    PMk X (.Call (.Name x p) [] [] pos) (tMkO C sp [] tNil) := by
  intro pins s σ H Q I h
  refine wpAny_Call_Name_kw (ld_glob I hg hm ?_ hdb)
  have q1 := h.2
  refine PySem.W.callWith_K0 I.kIn T.kC ?_
  refine run_mkA (us := []) (vs := []) T iC tI F1 hr hb .nil (fun _ _ _ _ _ _ _ h => h.elim) I .nil (Nat.zero_le _) (QV := fun a v H2 => ∃ (d : Addr) (fs : List (Str × V)), H2 a = some (exo a C (some d)) ∧ H2 d = some (exd d fs) ∧ H d = none ∧ Q (.ref C) (some d) (upd (del H2 a) d (.xd fs))) q1 fun a H2 s2 h2' hn ha kk un hok ho hbr J ⟨d, fs, ea, ed, hd1, q⟩ => ?_
  obtain ⟨hp, g, dr, tk, os⟩ := s
  obtain ⟨h2, g2, d2, t2, os'⟩ := s2
  exact mk_end (raises_own T.exC T.tyC) I ha kk un hok ho hbr ea ed hd1 q
theorem ds_raiseD0 (D : ErD X.prog X.w X.K X.mg X.base k x 0 fsD) (hr : Room (k + 1) X.A) (hc : X.calm = true) (tk : Takes X fun c d _ H => E c d H) (hg : Gl X x) (hdb : (x == ("__debug__" : Str)) = false := by decide) :
    PS X (.Raise (some (.Call (.Name x p) [] [] pos)) none rpos) (tSt X.K E (mRaise (He.ga X.K x) 0 fsD mNil)) := by
  obtain ⟨fI, fd, ps, ok, fs, h1, h2, h3, h4, h5, h6⟩ := D.made
  refine ds_raise hc tk (pmk_le (pmk_oexA0 D.oex h1 h2 h3 hr h5 hg D.gl hdb) fun σ H Q ⟨M, S, Γ, kr, kx, r, er, ⟨_, q⟩, kq, kxx⟩ => ?_)
  refine ⟨Nat.zero_le _, fun a hn0 => ⟨a, _, [], rfl, rfl, upd_same, D.oex, h4, fun dx h1 h2 => ?_⟩⟩
  rw [upd_ne h2] at h1
  refine ⟨rfl, dx, fs [], upd_same, by rw [upd_ne h2, upd_same], h1, ?_⟩
  rw [made2 hn0 h2]
  obtain ⟨g1, g2, g3⟩ := r.new (o := .xd (fs [])) h1
  exact kq _ M q _ _ _ g1 g2 ⟨rfl, dx, fs [], rfl, g3, KVD.mono g2 (h6 _ _ _ (dvs_nil.mpr rfl) rfl)⟩
/-! ### held as a value -/
def mMkX (C : Addr) (n : Nat) (fs : List D → List (Str × D)) (m : MA) : ME := fun Γ M k kx => m Γ M (fun ds M1 => ds.length = n ∧ ∀ a dx, M1 a = none → k (.ref a) (setM M1 a (.exv a dx C (fs ds)))) kx
theorem made3 {H1 : Hp} {a d : Addr} {o1 o2 o3 : HO} (hd : d ≠ a) : upd (upd (upd H1 a o1) d o2) a o3 = upd (upd H1 d o2) a o3 := by
  funext b
  by_cases e1 : b = a
  · rw [e1, upd_same, upd_same]
  · rw [upd_ne e1, upd_ne e1]
    by_cases e2 : b = d
    · rw [e2, upd_same, upd_same]
    · rw [upd_ne e2, upd_ne e1, upd_ne e2]
theorem laid_x {K : PySem.W.Frag} {M : Mh} {S H : Hp} {a dx C : Addr} {fv : List (Str × V)} {fd : List (Str × D)} (r : R K M S H) (ha : H a = none) (hd : H dx = none) (ne : dx ≠ a) (kv : KVD K (hid M S H) fd fv) :
    R K (setM M a (.exv a dx C fd)) S (upd (upd H dx (exd dx fv)) a (exo a C (some dx))) ∧ Ex (hid M S H) (hid (setM M a (.exv a dx C fd)) S (upd (upd H dx (exd dx fv)) a (exo a C (some dx)))) := by
  obtain ⟨g1, g2, g3⟩ := r.new (o := exd dx fv) hd
  have hn : upd H dx (exd dx fv) a = none := by rw [upd_ne (Ne.symm ne)]; exact ha
  refine ⟨g1.put (m := .exv a dx C fd) (.inr hn) ⟨rfl, fv, g3, KVD.mono g2 kv⟩, ?_⟩
  rw [hid_set _ _ _ _ _ _ (.inr hn)]
  exact g2
theorem de_mkx (D : ErD X.prog X.w X.K X.mg X.base k x n fsD) (hr : Room (k + 1) X.A) (hg : Gl X x) (ha : PA X (e :: es) (tA X.K E mA))
    (hdb : (x == ("__debug__" : Str)) = false := by decide) (he : starEach (e :: es) X.env = (false, eval e X.env) :: starEach es X.env := by rfl) (hpl : (backTo pos (starEach es X.env)).any (·.1) = false := by rfl) :
    PE X (.Call (.Name x p) (e :: es) [] pos) (tI X.K E (mMkX (He.ga X.K x) n fsD mA)) := by
  obtain ⟨fI, fd, ps, ok, fs, h1, h2, h3, h4, h5, h6⟩ := D.made
  refine pe_le (pe_mkA D.oex h1 h2 h3 hr h5 .nil (fun _ _ _ _ _ _ _ h => h.elim) hg D.gl ha hdb he hpl) fun σ H Q ⟨M, S, Γ, kk, kx, r, er, h, kv, kxx⟩ => ?_
  refine ⟨M, S, Γ, _, kx, r, er, h, fun ds M1 ⟨hl, q⟩ H1 vs r1 e1 d1 => ?_, kxx⟩
  have hv : vs.length = n := by rw [← d1.length]; exact hl
  refine ⟨by have := D.few; omega, fun a hn0 => ⟨a, _, vs ++ [], rfl, by rw [List.append_nil]; exact hv, upd_same, D.oex, h4, fun dx h1 h2 => ⟨rfl, ?_⟩⟩⟩
  rw [upd_ne h2] at h1
  rw [made3 h2, List.append_nil]
  obtain ⟨g1, g2⟩ := laid_x (C := He.ga X.K x) r1 hn0 h1 h2 (h6 _ _ _ d1 hl)
  exact kv _ _ (q a dx (r1.freeM hn0)) _ _ g1 (e1.trans g2) (dv_ref.mpr rfl)
theorem de_mkx0 (D : ErD X.prog X.w X.K X.mg X.base k x 0 fsD) (hr : Room (k + 1) X.A) (hg : Gl X x) (hdb : (x == ("__debug__" : Str)) = false := by decide) :
    PE X (.Call (.Name x p) [] [] pos) (tI X.K E (mMkX (He.ga X.K x) 0 fsD mNil)) := by
  obtain ⟨fI, fd, ps, ok, fs, h1, h2, h3, h4, h5, h6⟩ := D.made
  refine ⟨fun pins s σ H Q I h => ?_⟩
  refine wpAny_Call_Name_kw (ld_glob I hg D.gl ?_ hdb)
  obtain ⟨M, S, Γ, kk, kx, r, er, ⟨_, q⟩, kv, kxx⟩ := h
  refine PySem.W.callWith_K0 I.kIn D.oex.kC ?_
  refine run_mkA (us := []) (vs := []) D.oex h1 h2 h3 hr h5 .nil (fun _ _ _ _ _ _ _ h => h.elim) I .nil (Nat.zero_le _) (QV := fun a v H2 => Q (.ref a) H2) (fun a hn0 => ⟨a, _, [], rfl, rfl, upd_same, D.oex, h4, fun dx h1 h2 => ⟨rfl, ?_⟩⟩) fun a H2 s2 h2' hn ha kk un hok ho hbr J q => ⟨.ref a, H2, J, rfl, q⟩
  rw [upd_ne h2] at h1
  rw [made3 h2]
  obtain ⟨g1, g2⟩ := laid_x (C := He.ga X.K x) r hn0 h1 h2 (h6 _ _ _ (dvs_nil.mpr rfl) rfl)
  exact kv _ _ (q a dx (r.freeM hn0)) _ _ g1 g2 (dv_ref.mpr rfl)
end
end DX
set_option maxHeartbeats 4000000
/-! exceptions as values: e.f, isinstance(e, T) -/
namespace DX
open PySem PySem.Spec PyProof.Rows L2 DL
section
variable {X : Cx} {pins : List (Addr × Obj)} {σ : L2.St} {H : Hp} {s : Shared}
theorem exv_inst {a C dx : Addr} {fs : List (Str × V)} (I : Inv X pins σ H s) (e : H a = some (exo a C (some dx))) (ed : H dx = some (exd dx fs)) :
    ∃ (ox od : Obj) (mA : Str → Option Value), PySem.W.InstAt s.heap a ox C (some od) ∧ (∀ n, PySem.W.lookIn n od = some (mA n)) ∧ ∀ f, RelO (fs.lookup f) (mA f) := by
  obtain ⟨t1, ho⟩ := exo_at I.hok e
  obtain ⟨mA, hns, rel⟩ := exd_at I.hok ed
  obtain ⟨od, hod, hl⟩ := lookIn_ns hns
  exact ⟨_, od, mA, ⟨ho, rfl, rfl, hod⟩, hl, rel⟩
end
def iscB (K : PySem.W.Frag) (C : Addr) : Bool := xfB K C && ((PySem.W.clsIn K C).isSome && (dec (PySem.W.findIn K (.ref C) "__class__") (some (some (.builtin "object.__class__"))) && (dec (PySem.W.specialIn K (.builtin "object.__class__") "__get__") (some (some (.builtin "getset_descriptor.__get__"))) &&
  (dec (PySem.W.takesIn K (.builtin "object.__class__")) (some true) && (dec (PySem.W.mroIn K C (.type "object")) (some true) && fldNames.all fun n => dec (PySem.W.findIn K (.ref C) n) (some none))))))
theorem iscB_ok {K : PySem.W.Frag} {C : Addr} (h : iscB K C = true) : IsC K C := by
  obtain ⟨h1, h⟩ := He.ba h
  obtain ⟨h2, h⟩ := He.ba h
  obtain ⟨h3, h⟩ := He.ba h
  obtain ⟨h4, h⟩ := He.ba h
  obtain ⟨h5, h⟩ := He.ba h
  obtain ⟨h6, h7⟩ := He.ba h
  exact ⟨xfB_ok h1, h2, of_decide_eq_true h3, of_decide_eq_true h4, of_decide_eq_true h5, of_decide_eq_true h6, fun n hn => of_decide_eq_true (List.all_eq_true.mp h7 n hn)⟩
theorem isK_V (K : PySem.W.Frag) (C : Addr) : isK K C "ValueError" = PySem.W.kitOne K (.ref C) (.type "ValueError") := if_pos rfl
theorem isK_L (K : PySem.W.Frag) (C : Addr) : isK K C "LookupError" = PySem.W.kitOne K (.ref C) (.type "LookupError") := by unfold isK; rw [if_neg (by decide +kernel), if_pos rfl]
theorem isK_I (K : PySem.W.Frag) (C : Addr) : isK K C "IndexError" = PySem.W.kitOne K (.ref C) (.type "IndexError") := by unfold isK; rw [if_neg (by decide +kernel), if_neg (by decide +kernel), if_pos rfl]
section
variable {X : Cx} {E : XK} {e : Expr} {me ma : ME} {pos p p2 : Pos} {n : Str}
/-- e.f, e an exception that is held as a value -/
def mFldX (ok : Addr → Prop) (n : Str) (me : ME) : ME := fun Γ M k kx => me Γ M (fun d M1 => ∃ a dx C fs v, d = .ref a ∧ M1 a = some (.exv a dx C fs) ∧ ok C ∧ fs.lookup n = some v ∧ k v M1) kx
theorem de_fldX (hn : n ∈ fldNames) (he : PE X e (tI X.K E me)) (hb : attributeBase e n X.env (eval e X.env) = eval e X.env := by rfl) : PE X (.Attribute e n pos) (tI X.K E (mFldX (IsC X.K) n me)) := by
  refine ⟨fun pins s σ H Q I ⟨M, S, Γ, k, kx, r, er, h, kv, kxx⟩ => attr_of hb (thn (he.run pins s σ H (fun x H1 => ∃ d M1, R X.K M1 S H1 ∧ Ex (hid M S H) (hid M1 S H1) ∧ DV X.K (hid M1 S H1) d x ∧ ∃ a dx C fs v, d = .ref a ∧ M1 a = some (.exv a dx C fs) ∧ IsC X.K C ∧ fs.lookup n = some v ∧ k v M1) I ⟨M, S, Γ, _, kx, r, er, h, fun d M1 q H1 v r1 e1 d1 => ⟨d, M1, r1, e1, d1, q⟩, kxx⟩) fun u s1 hh => ?_)⟩
  obtain ⟨x, H1, I1, rx, d, M1, r1, e1, d1, a, dx, C, fs, v, rfl, hM, ok, hl, q⟩ := hh
  obtain rfl := dv_ref.mp d1
  cases (show u = Value.ref a from rx)
  obtain ⟨o, g1, rfl, ps, g2, g3⟩ := r1.chg a _ hM
  obtain ⟨y, g4, g5⟩ := kvf_look g3 hl
  obtain ⟨ox, od, mA, J, hlk, rel⟩ := exv_inst I1 g1 (hid_le _ _ _ _ _ g2)
  obtain ⟨u2, hu, ru⟩ := RelO.some_of (v := y) (o := mA n) (g4 ▸ rel n)
  exact HandSPX.exc_get I1.kIn J ok.xf.ga ok.xf.gg ok.xf.exC (PySem.W.findObj_own ok.xf.hdC (ok.no n hn) rfl (by rw [hlk, hu])) (handed_of ru) ⟨y, H1, I1.tok _, ru, kv _ M1 q H1 y r1 e1 g5⟩
/-- isinstance(e, T) -/
def rIsX (K : PySem.W.Frag) : List V → Hp → VK → Prop := fun xs H Q => ∃ (a C dx : Addr) (fs : List (Str × V)) (c : V) (cv : Value) (b : Bool), xs = [.ref a, c] ∧ H a = some (exo a C (some dx)) ∧ H dx = some (exd dx fs) ∧ IsC K C ∧ ClsV c cv ∧ PySem.W.kitOne K (.ref C) cv = some b ∧ Q (.bl b) H
theorem call_isX : CallR X (.builtin "isinstance") (rIsX X.K) := by
  intro pins s σ H xs us Q I r h
  obtain ⟨a, C, dx, fs, c, cv, b, rfl, ea, ed, ok, hc, e, q⟩ := h
  cases r with
  | cons rx rr =>
    cases rr with
    | cons rt rr =>
      cases rr
      cases rx
      have ec := hc.eq rt
      subst ec
      obtain ⟨ox, od, mA, J, _, _⟩ := exv_inst I ea ed
      exact PySem.W.kia_one (PySem.W.kitx_exc ok.cl ok.xf.ga ok.xf.gg ok.xf.exC ok.ha ok.hn ok.ht ok.hm) I.kIn J e (fun z => nomatch z) fun tk => ⟨.bl b, H, I.kept (t' := tk) fun _ _ z => z, rfl, q⟩
def dIsX (ok : Addr → Prop) (is : Addr → Str → Option Bool) (T : Str) (d : D) (M : Mh) (k : DK) : Prop := ∃ a dx C fs b, d = .ref a ∧ M a = some (.exv a dx C fs) ∧ ok C ∧ is C T = some b ∧ k (.bl b) M
theorem de_isX {a : Expr} {T : Str} (hg : Gl X "isinstance") (hm : X.mg "isinstance" = none) (ha : PE X a (tI X.K E ma)) (hgT : Gl X T) (hmT : X.mg T = some (.ref (He.ga X.K T))) (hT : (decide (T = "ValueError") || (decide (T = "LookupError") || decide (T = "IndexError"))) = false) (hd : (T == ("__debug__" : Str)) = false := by decide)
    (hs : starEach [a, .Name T p2] X.env = (false, eval a X.env) :: starEach [.Name T p2] X.env := by rfl) (hs2 : starEach [.Name T p2] X.env = [(false, eval (.Name T p2) X.env)] := by rfl) (hpl : (backTo pos (starEach [.Name T p2] X.env)).any (·.1) = false := by rfl) :
    PE X (.Call (.Name "isinstance" p) [a, .Name T p2] [] pos) (tI X.K E (mUn (dIsX (IsC X.K) (isK X.K) T) ma)) := by
  refine pe_le (pe_callB call_isX hg hm (by decide +kernel) (pa_cons ha (pa_cons (pe_glob hgT hmT (v := .ref (He.ga X.K T)) rfl hd) pa_nil (by exact hs2)) hs) (by decide) (by decide) hs hpl) fun σ H Q ⟨M, S, Γ, k, kx, hr, er, hm, kv, kxx⟩ => ?_
  refine ⟨M, S, Γ, _, kx, hr, er, hm, fun d M1 ⟨a, dx, C, fs, b, ed, hM, ok, hi, q⟩ H1 v1 r1 e1 d1 => ?_, kxx⟩
  subst ed
  obtain rfl := dv_ref.mp d1
  obtain ⟨o, g1, rfl, ps, g2, g3⟩ := r1.chg a _ hM
  simp only [Bool.or_eq_false_iff, decide_eq_false_iff_not] at hT
  unfold isK at hi
  rw [if_neg hT.1, if_neg hT.2.1, if_neg hT.2.2] at hi
  exact ⟨a, C, dx, ps, .ref (He.ga X.K T), _, b, rfl, g1, hid_le _ _ _ _ _ g2, ok, .own _, hi, kv _ M1 q H1 _ r1 e1 (dv_bl.mpr rfl)⟩
theorem de_isXb {a : Expr} {T : Str} {n : String} (hg : Gl X "isinstance") (hm : X.mg "isinstance" = none) (ha : PE X a (tI X.K E ma)) (hgT : Gl X T) (hmT : X.mg T = none) (hv : bootBuiltins T = some (.type n)) (hi0 : ∀ C, isK X.K C T = PySem.W.kitOne X.K (.ref C) (.type n)) (hnn : T ≠ "__name__" := by decide) (hd : (T == ("__debug__" : Str)) = false := by decide)
    (hs : starEach [a, .Name T p2] X.env = (false, eval a X.env) :: starEach [.Name T p2] X.env := by rfl) (hs2 : starEach [.Name T p2] X.env = [(false, eval (.Name T p2) X.env)] := by rfl) (hpl : (backTo pos (starEach [.Name T p2] X.env)).any (·.1) = false := by rfl) :
    PE X (.Call (.Name "isinstance" p) [a, .Name T p2] [] pos) (tI X.K E (mUn (dIsX (IsC X.K) (isK X.K) T) ma)) := by
  refine pe_le (pe_callB call_isX hg hm (by decide +kernel) (pa_cons ha (pa_cons (pe_bltn (v := .ty n) hgT hmT hv rfl hnn hd) pa_nil (by exact hs2)) hs) (by decide) (by decide) hs hpl) fun σ H Q ⟨M, S, Γ, k, kx, hr, er, hm, kv, kxx⟩ => ?_
  refine ⟨M, S, Γ, _, kx, hr, er, hm, fun d M1 ⟨a, dx, C, fs, b, ed, hM, ok, hi, q⟩ H1 v1 r1 e1 d1 => ?_, kxx⟩
  subst ed
  obtain rfl := dv_ref.mp d1
  obtain ⟨o, g1, rfl, ps, g2, g3⟩ := r1.chg a _ hM
  rw [hi0] at hi
  exact ⟨a, C, dx, ps, .ty n, _, b, rfl, g1, hid_le _ _ _ _ _ g2, ok, .ty n, hi, kv _ M1 q H1 _ r1 e1 (dv_bl.mpr rfl)⟩
end
end DX
/-! _law_field -/
namespace CM
open PySem L2 DL DX
def b__law_field (a dd : Addr) : MS := (mSeq (mIfS (mTest (mOp dIn (mFld a dd "code" (mVar 0)) (mLst (mCons (mC (.str "InvalidName")) (mCons (mC (.str "InvalidKey")) (mCons (mC (.str "InvalidTest")) (mCons (mC (.str "InvalidThing")) (mCons (mC (.str "InvalidSetting")) (mCons (mC (.str "InvalidWord")) (mCons (mC (.str "InvalidNumber")) mNil)))))))))) (mRet (mFld a dd "given" (mVar 0))) mNext) (mSeq (mIfS (mTest (mOp dIn (mFld a dd "code" (mVar 0)) (mLst (mCons (mC (.str "InvalidColumn")) (mCons (mC (.str "InvalidSide")) (mCons (mC (.str "InvalidStep")) (mCons (mC (.str "InvalidCommand")) mNil))))))) (mRet (mFld a dd "at" (mVar 0))) mNext) (mSeq (mIfS (mTest (mOp dEq (mFld a dd "code" (mVar 0)) (mC (.str "InvalidRow")))) (mRet (mTup (mCons (mFld a dd "table" (mVar 0)) (mCons (mFld a dd "at" (mVar 0)) mNil)))) mNext) (mSeq (mIfS (mTest (mOp dEq (mFld a dd "code" (mVar 0)) (mC (.str "Torn")))) (mRet (mTup (mCons (mFld a dd "one" (mVar 0)) (mCons (mFld a dd "other" (mVar 0)) mNil)))) mNext) (mSeq (mIfS (mTest (mOp dIn (mFld a dd "code" (mVar 0)) (mLst (mCons (mC (.str "DuplicateName")) (mCons (mC (.str "UnknownName")) (mCons (mC (.str "UnknownColumn")) mNil)))))) (mRet (mFld a dd "name" (mVar 0))) mNext) (mSeq (mIfS (mTest (mOp dIn (mFld a dd "code" (mVar 0)) (mLst (mCons (mC (.str "TooMany")) (mCons (mC (.str "Full")) mNil))))) (mRet (mFld a dd "most" (mVar 0))) mNext) (mSeq (mIfS (mTest (mOp dEq (mFld a dd "code" (mVar 0)) (mC (.str "SideTaken")))) (mRet (mFld a dd "taken" (mVar 0))) mNext) (mSeq (mIfS (mTest (mOp dEq (mFld a dd "code" (mVar 0)) (mC (.str "UnknownRow")))) (mRet (mFld a dd "number" (mVar 0))) mNext) (mRet (mIf (mTest (mOp dEq (mFld a dd "code" (mVar 0)) (mC (.str "InvalidText")))) (mFld a dd "line" (mVar 0)) (mC .non)))))))))))
def fl1 : List D := [.str "InvalidName", .str "InvalidKey", .str "InvalidTest", .str "InvalidThing", .str "InvalidSetting", .str "InvalidWord", .str "InvalidNumber"]
def fl2 : List D := [.str "InvalidColumn", .str "InvalidSide", .str "InvalidStep", .str "InvalidCommand"]
def fl3 : List D := [.str "DuplicateName", .str "UnknownName", .str "UnknownColumn"]
def fl4 : List D := [.str "TooMany", .str "Full"]
def pairD : Option D → Option D → Option D
  | some a, some b => some (.tup [a, b])
  | _, _ => none
def fieldD (c : Str) (f : Str → Option D) : Option D :=
  if inF (.str c) fl1 = true then f "given" else if inF (.str c) fl2 = true then f "at" else if decide (c = "InvalidRow") = true then pairD (f "table") (f "at") else if decide (c = "Torn") = true then pairD (f "one") (f "other")
  else if inF (.str c) fl3 = true then f "name" else if inF (.str c) fl4 = true then f "most" else if decide (c = "SideTaken") = true then f "taken" else if decide (c = "UnknownRow") = true then f "number" else if decide (c = "InvalidText") = true then f "line" else some .non
def sField (a dd : Addr) : MF := fun ds M k _ => ∃ ns es c v, ds = [.exc a dd ns es] ∧ (ns.zip es).lookup ("code" : Str) = some (.str c) ∧ fieldD c (fun n => (ns.zip es).lookup n) = some v ∧ k v M
theorem field_len (a dd : Addr) (ds : List D) (M : Mh) (k : DK) (kx : XKd) (h : sField a dd ds M k kx) : ds.length = 1 := by
  obtain ⟨_, _, _, _, e, _⟩ := h
  rw [e]
  rfl
section
variable {a dd : Addr} {ns : List Str} {es : List D} {c : Str} {De : DEnds} {M : Mh} {kx : XKd} {m1 m2 : MS}
theorem f_in {ml : MA} (l : List D) (hc : (ns.zip es).lookup ("code" : Str) = some (.str c)) (hl : ∀ (Γ : DL.Env) M k kx, ml Γ M k kx = k l M) (hz : l.length ≤ 1000) (hf : l.all flat = true) (h1 : inF (.str c) l = true → m1 De [some (.exc a dd ns es)] M kx) (h2 : ¬ inF (.str c) l = true → m2 De [some (.exc a dd ns es)] M kx) :
    mIfS (mTest (mOp dIn (mFld a dd "code" (mVar 0)) (mLst ml))) m1 m2 De [some (.exc a dd ns es)] M kx := by
  refine ⟨.exc a dd ns es, rfl, ns, es, .str c, rfl, hc, ?_⟩
  show ml _ M _ kx
  rw [hl]
  refine ⟨by rw [sizeLine_eq]; omega, l, rfl, rfl, hf, _, rfl, ?_⟩
  show if inF (.str c) l = true then _ else _
  split
  · rename_i h; exact h1 h
  · rename_i h; exact h2 h
theorem f_eq (z : Str) (hc : (ns.zip es).lookup ("code" : Str) = some (.str c)) (h1 : decide (c = z) = true → m1 De [some (.exc a dd ns es)] M kx) (h2 : ¬ decide (c = z) = true → m2 De [some (.exc a dd ns es)] M kx) :
    mIfS (mTest (mOp dEq (mFld a dd "code" (mVar 0)) (mC (.str z)))) m1 m2 De [some (.exc a dd ns es)] M kx := by
  refine ⟨.exc a dd ns es, rfl, ns, es, .str c, rfl, hc, ?_⟩
  show ∃ b, D.bl (decide (c = z)) = .bl b ∧ _
  refine ⟨_, rfl, ?_⟩
  show if decide (c = z) = true then _ else _
  split
  · rename_i h; exact h1 h
  · rename_i h; exact h2 h
theorem f_get {n : Str} {v : D} {k : DK} (h : (ns.zip es).lookup n = some v) (hk : k v M) : mFld a dd n (mVar 0) [some (.exc a dd ns es)] M k kx := ⟨.exc a dd ns es, rfl, ns, es, v, rfl, h, hk⟩
theorem f_two {n n' : Str} {v : D} {k : DK} (h : pairD ((ns.zip es).lookup n) ((ns.zip es).lookup n') = some v) (hk : k v M) : mTup (mCons (mFld a dd n (mVar 0)) (mCons (mFld a dd n' (mVar 0)) mNil)) [some (.exc a dd ns es)] M k kx := by
  cases e1 : (ns.zip es).lookup n with
  | none => rw [e1] at h; cases h
  | some x =>
    cases e2 : (ns.zip es).lookup n' with
    | none => rw [e1, e2] at h; cases h
    | some y =>
      rw [e1, e2] at h
      cases h
      exact ⟨.exc a dd ns es, rfl, ns, es, x, rfl, e1, .exc a dd ns es, rfl, ns, es, y, rfl, e2, by rw [sizeLine_eq]; show 2 ≤ _; omega, hk⟩
end
theorem field_ok (a dd : Addr) (ds : List D) (M : Mh) (k : DK) (h : sField a dd ds M k noX) : b__law_field a dd { nx := fun _ M' => k .non M', rt := k } (startD 1 ds) M noX := by
  obtain ⟨ns, es, c, v, rfl, hc, hv, hk⟩ := h
  show b__law_field a dd _ [some (.exc a dd ns es)] M noX
  unfold fieldD at hv
  refine f_in fl1 hc (fun _ _ _ _ => rfl) (by decide) (by decide) (fun q => ?_) fun q => ?_
  · rw [if_pos q] at hv; exact f_get hv hk
  rw [if_neg q] at hv
  refine f_in fl2 hc (fun _ _ _ _ => rfl) (by decide) (by decide) (fun q => ?_) fun q => ?_
  · rw [if_pos q] at hv; exact f_get hv hk
  rw [if_neg q] at hv
  refine f_eq _ hc (fun q => ?_) fun q => ?_
  · rw [if_pos q] at hv; exact f_two hv hk
  rw [if_neg q] at hv
  refine f_eq _ hc (fun q => ?_) fun q => ?_
  · rw [if_pos q] at hv; exact f_two hv hk
  rw [if_neg q] at hv
  refine f_in fl3 hc (fun _ _ _ _ => rfl) (by decide) (by decide) (fun q => ?_) fun q => ?_
  · rw [if_pos q] at hv; exact f_get hv hk
  rw [if_neg q] at hv
  refine f_in fl4 hc (fun _ _ _ _ => rfl) (by decide) (by decide) (fun q => ?_) fun q => ?_
  · rw [if_pos q] at hv; exact f_get hv hk
  rw [if_neg q] at hv
  refine f_eq _ hc (fun q => ?_) fun q => ?_
  · rw [if_pos q] at hv; exact f_get hv hk
  rw [if_neg q] at hv
  refine f_eq _ hc (fun q => ?_) fun q => ?_
  · rw [if_pos q] at hv; exact f_get hv hk
  rw [if_neg q] at hv
  refine ⟨.exc a dd ns es, rfl, ns, es, .str c, rfl, hc, ?_⟩
  show ∃ b, D.bl (decide (c = "InvalidText")) = .bl b ∧ _
  refine ⟨_, rfl, ?_⟩
  by_cases q : decide (c = "InvalidText") = true
  · rw [if_pos q] at hv ⊢; exact f_get hv hk
  · rw [if_neg q] at hv ⊢
    cases hv
    exact hk
end CM
set_option maxHeartbeats 1000000
/-! is_column_name, is_test -/
namespace CM
open PySem L2 DL TL
def kvP : List (Str × He.Dv) := [("is", (.int 3)), ("has", (.int 2)), ("not", (.int 2)), ("and", (.int 3)), ("or", (.int 3))]
def tabP : TabD := kvP.map fun q => (q.1, dvD q.2)
def b_is_column_name : MS := (mSeq (mIfS (mNot (mTest (mUn (dIsi "str") (mVar 0)))) (mRet (mC (.bl false))) mNext) (mRet (mAndV (mOp dLe (mCB cLen (mCons (mSplit (mVar 0) (mC (.str "."))) mNil)) (mC (.int 2))) (mCB cAll (mCons (mLc (.nm 1) (mSeqI (mSplit (mVar 0) (mC (.str ".")))) mYes (mCall sIsName (mCons (mVar 1) mNil)) [1]) mNil)))))
def b_is_test (testN : Nat) : MS := (mSeq (mIfS (mOr (mTest (mOp dEq (mVar 1) (mC (.int 0)))) (mOr (mNot (mTest (mUn (dIsi "tuple") (mVar 0)))) (mOr (mTest (mOp dEq (mCB cLen (mCons (mVar 0) mNil)) (mC (.int 0)))) (mNot (mTest (mUn (dIsi "str") (mOp dIx (mVar 0) (mC (.int 0))))))))) (mRet (mC (.bl false))) mNext) (mSeq (mIfS (mTest (mOp dNe (mTabGet tabP (mOp dIx (mVar 0) (mC (.int 0))) (mC (.int 0))) (mCB cLen (mCons (mVar 0) mNil)))) (mRet (mC (.bl false))) mNext) (mSeq (mIfS (mTest (mOp dEq (mOp dIx (mVar 0) (mC (.int 0))) (mC (.str "is")))) (mRet (mAndV (mCall sIsColName (mCons (mOp dIx (mVar 0) (mC (.int 1))) mNil)) (mCall sIsName (mCons (mOp dIx (mVar 0) (mC (.int 2))) mNil)))) mNext) (mSeq (mIfS (mTest (mOp dEq (mOp dIx (mVar 0) (mC (.int 0))) (mC (.str "has")))) (mRet (mCall sIsName (mCons (mOp dIx (mVar 0) (mC (.int 1))) mNil))) mNext) (mRet (mCB cAll (mCons (mLc (.nm 2) (mSeqI (mSl dSlice (mVar 0) (mPart (mC (.int 1))) mNoPart)) mYes (mCallN 1 1 (sIsTest testN) (fun us ws => pick3 [(0, 0), (2, 0)] us [] ws) (mCons (mVar 2) mNil) (mCons (mOp dSub (mVar 1) (mC (.int 1))) mNil)) [2]) mNil)))))))
theorem dot_len : ((("." : Str).length) == 0) = false := by decide +kernel
theorem col_ok (ds : List D) (M : Mh) (k : DK) (kx : XKd) (h : sIsColName ds M k kx) : b_is_column_name { nx := fun _ M' => k .non M', rt := k } (startD 2 ds) M noX := by
  obtain ⟨d, rfl, ht, hz, h⟩ := h
  have other : isCol d = false → isiB (tyN M d) "str" = false → b_is_column_name { nx := fun _ M' => k .non M', rt := k } (startD 2 [d]) M noX := fun e1 e2 => by
    rw [e1] at h
    refine ⟨d, rfl, ht, _, rfl, ?_⟩
    rw [e2]
    exact h
  cases d with
  | str z =>
    have hz := hz z rfl
    have h : k (.bl (isColS z)) M := h
    have hs : z.length + 2 ≤ sizeLine := sz_le (by omega)
    have hm : ((splitD z).map D.str).length ≤ 1001 := by
      unfold splitD
      rw [List.length_map, List.length_map]
      have := spl_many (tl z) []
      rw [← len_tl] at this
      omega
    refine ⟨_, rfl, ht, _, rfl, ?_⟩
    refine ⟨_, rfl, z, rfl, ".", rfl, dot_len, hs, ?_⟩
    rw [split_dot]
    refine ⟨_, rfl, _, rfl, _, _, rfl, rfl, trivial, _, rfl, ?_⟩
    unfold isColS at h
    have el : decide ((((splitD z).map D.str).length : Int) ≤ 2) = decide ((splitD z).length ≤ 2) := by
      rw [List.length_map]
      exact decide_eq_decide.mpr (by omega)
    rw [el]
    by_cases h2 : (splitD z).length ≤ 2
    · rw [decide_eq_true h2] at h ⊢
      refine ⟨_, rfl, z, rfl, ".", rfl, dot_len, hs, ?_⟩
      rw [split_dot]
      refine ⟨sz_le (by omega), ?_⟩
      refine lc_map (fun d => .bl (isName d)) trivial (fun d hd => ?_) ?_
      · obtain ⟨p, hp, rfl⟩ := List.mem_map.mp hd
        refine ⟨_, rfl, fun k' hk => ⟨_, rfl, _, rfl, by show "str" ∈ tys; decide, fun y e => ?_, hk⟩⟩
        cases e
        unfold splitD at hp
        obtain ⟨l, hl, rfl⟩ := List.mem_map.mp hp
        have := spl_len (tl z) [] l hl
        rw [← len_tl, List.length_nil] at this
        rw [len_tl, tl_mk]
        omega
      · refine ⟨_, _, _, rfl, rfl, bls_map isName _, ?_⟩
        have e : (((splitD z).map D.str).map isName).all id = (splitD z).all isNameS := by
          rw [List.map_map, List.all_map]
          rfl
        rw [e]
        exact h
    · rw [decide_eq_false h2] at h ⊢
      exact h
  | non => exact other rfl rfl
  | bl _ => exact other rfl rfl
  | int _ => exact other rfl rfl
  | tup _ => exact other rfl rfl
  | lst _ => exact other rfl rfl
  | ty _ => exact other rfl rfl
  | scr _ => exact other rfl rfl
  | exc _ _ _ _ => exact other rfl rfl
  | ref a =>
    refine other rfl ?_
    show isiB (tyM (M a)) "str" = false
    unfold tyM
    split <;> rfl
theorem isT_zero (d : D) : isT 0 d = false := by cases d <;> rfl
theorem tab_get (z : Str) : (tabP.lookup z).getD (.int 0) = .int (partsI z) := parts_get z
theorem cut_tail (e : D) (es : List D) : cutD (e :: es) (some 1) none = es := by
  unfold cutD
  rw [show (some 1 : Option Int) = some ((1 : Nat) : Int) from rfl, HT.sIx_nat, HT.sIx_none, List.length_cons, Nat.min_eq_left (by omega)]
  show (es.take (es.length + 1 - 1)) = es
  rw [Nat.add_sub_cancel, List.take_length]
theorem parts_le (z : Str) : partsI z ≤ 3 := by
  unfold partsI
  repeat' split
  all_goals decide
theorem len_two {α : Type} {l : List α} (h : l.length = 2) : ∃ a b, l = [a, b] := by
  match l, h with
  | [a, b], _ => exact ⟨a, b, rfl⟩
theorem len_one {α : Type} {l : List α} (h : l.length = 1) : ∃ a, l = [a] := by
  match l, h with
  | [a], _ => exact ⟨a, rfl⟩
theorem test_ok (n : Nat) (ds : List D) (M : Mh) (k : DK) (kx : XKd) (h : sIsTest (n + 1) ds M k kx) : b_is_test n { nx := fun _ M' => k .non M', rt := k } (startD 3 ds) M noX := by
  obtain ⟨d, m, j, rfl, hm, hj, h⟩ := h
  have ht := ok_ty M hj
  unfold b_is_test
  refine ⟨_, rfl, _, rfl, ?_⟩
  cases m with
  | zero =>
    rw [isT_zero] at h
    exact h
  | succ m =>
    have e0 : decide (((m + 1 : Nat) : Int) = 0) = false := decide_eq_false (by omega)
    rw [show (if false = true then !decide (((m + 1 : Nat) : Int) = 0) else decide (((m + 1 : Nat) : Int) = 0)) = false from e0]
    refine ⟨_, rfl, ht, _, rfl, ?_⟩
    cases d with
    | non => exact h
    | bl _ => exact h
    | int _ => exact h
    | str _ => exact h
    | lst _ => exact h
    | ref a => cases j <;> simp [okD] at hj
    | ty _ => cases j <;> simp [okD] at hj
    | scr _ => cases j <;> simp [okD] at hj
    | exc _ _ _ _ => cases j <;> simp [okD] at hj
    | tup es =>
      cases j with
      | zero => simp [okD] at hj
      | succ j =>
      rw [okD, Bool.and_eq_true, decide_eq_true_eq] at hj
      obtain ⟨hlen, hall⟩ := hj
      refine ⟨_, rfl, _, rfl, es, rfl, _, rfl, ?_⟩
      cases es with
      | nil => exact h
      | cons e es =>
        rw [List.length_cons] at hlen
        have el : decide ((((e :: es : List D).length : Nat) : Int) = 0) = false := decide_eq_false (by rw [List.length_cons]; omega)
        rw [show (if false = true then !decide ((((e :: es : List D).length : Nat) : Int) = 0) else decide ((((e :: es : List D).length : Nat) : Int) = 0)) = false from el]
        have hall2 := okAll_mem hall
        have hte := ok_ty M (hall2 e List.mem_cons_self)
        refine ⟨_, rfl, 0, _, e, rfl, rfl, at_of' (j := 0) rfl rfl, hte, _, rfl, ?_⟩
        cases e with
        | non => exact h
        | bl _ => exact h
        | int _ => exact h
        | tup _ => exact h
        | lst _ => exact h
        | ref a => exact absurd (hall2 _ List.mem_cons_self) (by cases j <;> simp [okD])
        | ty _ => exact absurd (hall2 _ List.mem_cons_self) (by cases j <;> simp [okD])
        | scr _ => exact absurd (hall2 _ List.mem_cons_self) (by cases j <;> simp [okD])
        | exc _ _ _ _ => exact absurd (hall2 _ List.mem_cons_self) (by cases j <;> simp [okD])
        | str z =>
          have h : k (.bl (decide (partsI z = ((.str z :: es : List D).length : Int)) && if z = "is" then isCol (es.getD 0 .non) && isName (es.getD 1 .non) else if z = "has" then isName (es.getD 0 .non) else es.all (isT m))) M := h
          refine ⟨_, rfl, 0, _, _, rfl, rfl, at_of' (j := 0) rfl rfl, z, rfl, _, rfl, _, rfl, _, rfl, ?_⟩
          rw [tab_get]
          show ∃ c, D.bl (!decide (partsI z = ((D.str z :: es : List D).length : Int))) = D.bl c ∧ _
          refine ⟨_, rfl, ?_⟩
          dsimp only
          by_cases hp : partsI z = ((.str z :: es : List D).length : Int)
          · rw [decide_eq_true hp, Bool.true_and] at h
            rw [show (!decide (partsI z = ((D.str z :: es : List D).length : Int))) = false by rw [decide_eq_true hp]; rfl]
            rw [List.length_cons] at hp
            refine ⟨_, rfl, 0, _, _, rfl, rfl, at_of' (j := 0) rfl rfl, _, rfl, ?_⟩
            by_cases h1 : z = "is"
            · subst h1
              rw [if_pos rfl] at h
              obtain ⟨c, w, rfl⟩ := len_two (l := es) (by have : partsI "is" = 3 := by decide +kernel
                                                          omega)
              have hc := hall2 c (by simp)
              have hw := hall2 w (by simp)
              refine ⟨_, rfl, 1, _, c, rfl, rfl, rfl, c, rfl, ok_ty M hc, ok_str hc, _, rfl, ?_⟩
              have h : k (.bl (isCol c && isName w)) M := h
              cases q : isCol c with
              | true =>
                rw [q, Bool.true_and] at h
                exact ⟨_, rfl, 2, _, w, rfl, rfl, rfl, w, rfl, ok_ty M hw, fun z e => Nat.le_trans (ok_str hw z e) (by decide), h⟩
              | false =>
                rw [q, Bool.false_and] at h
                exact h
            · rw [if_neg h1] at h
              rw [show (if false = true then !decide (z = "is") else decide (z = "is")) = false from decide_eq_false h1]
              refine ⟨_, rfl, 0, _, _, rfl, rfl, at_of' (j := 0) rfl rfl, _, rfl, ?_⟩
              by_cases h2 : z = "has"
              · subst h2
                rw [if_pos rfl] at h
                obtain ⟨w, rfl⟩ := len_one (l := es) (by have : partsI "has" = 2 := by decide +kernel
                                                         omega)
                have hw := hall2 w (by simp)
                exact ⟨_, rfl, 1, _, w, rfl, rfl, rfl, w, rfl, ok_ty M hw, fun z e => Nat.le_trans (ok_str hw z e) (by decide), h⟩
              · rw [if_neg h2] at h
                rw [show (if false = true then !decide (z = "has") else decide (z = "has")) = false from decide_eq_false h2]
                refine ⟨_, rfl, 1, rfl, ?_⟩
                show (cutD (.str z :: es) (some 1) none).length ≤ sizeLine ∧ loopLc _ _ _ _ _ _ _ _ (cutD (.str z :: es) (some 1) none) _
                rw [cut_tail]
                refine ⟨sz_le (by omega), ?_⟩
                refine lc_map (fun d => .bl (isT m d)) trivial (fun d hd => ?_) ?_
                · refine ⟨_, rfl, fun k' hk => ⟨_, rfl, _, rfl, _, _, rfl, rfl, trivial, rfl, rfl, d, m, j, ?_, by omega, hall2 d (List.mem_cons_of_mem _ hd), hk⟩⟩
                  show [d, D.int (((m + 1 : Nat) : Int) - 1)] = [d, .int (m : Int)]
                  rw [show ((m + 1 : Nat) : Int) - 1 = (m : Int) by omega]
                · refine ⟨_, _, _, rfl, rfl, bls_map (isT m) _, ?_⟩
                  rw [List.all_map]
                  exact h
          · rw [decide_eq_false hp, Bool.false_and] at h
            rw [show (!decide (partsI z = ((D.str z :: es : List D).length : Int))) = true by rw [decide_eq_false hp]; rfl]
            exact h

theorem sz (n : Nat) (h : n ≤ 1000000 := by decide) : n ≤ sizeLine := sz_le h
end CM
set_option maxHeartbeats 1000000
namespace K64
open PySem L2 DL CM DX
def nm24 : List Str := ["InvalidName", "InvalidColumn", "InvalidSide", "InvalidKey", "InvalidStep", "InvalidTest", "InvalidThing", "InvalidSetting", "InvalidWord", "InvalidNumber", "InvalidText", "InvalidCommand", "DuplicateName", "SideTaken", "TooMany", "Full", "InvalidRow", "Torn", "OtherProgram", "Untold", "UnknownName", "UnknownColumn", "UnknownRow", "NothingLeft"]
def nmI (i : Nat) : Str := nm24.getD i ""
def bn5 : List Str := ["LotsError", "ValueError", "Missing", "LookupError", "IndexError"]
def rowB (i : Nat) : List Bool := if i < 20 then [true, true, false, false, false] else if i < 23 then [false, false, true, true, false] else [false, false, false, true, true]
def isTab (K : PySem.W.Frag) : Bool := (List.range 24).all fun i => (List.range 24).all fun j => dec (isK K (He.ga K (nmI i)) (nmI j)) (some (decide (i = j)))
def isBas (K : PySem.W.Frag) : Bool := (List.range 24).all fun i => (List.range 5).all fun j => dec (isK K (He.ga K (nmI i)) (bn5.getD j "")) (some ((rowB i).getD j false))
def par1 : List Str := ["given", "at", "at", "given", "at", "given", "given", "given", "given", "given", "line", "at", "name", "taken", "most", "most"]
/-- the fields -/
def fsI (i : Nat) (a b : D) : List (Str × D) :=
  if i < 16 then fs1D (par1.getD i "") (nmI i) [a] else if i = 16 then fs2D "table" "at" "InvalidRow" [a, b] else if i = 17 then fs2D "one" "other" "Torn" [a, b] else if i = 20 then fs1D "name" "UnknownName" [a] else if i = 21 then fs1D "name" "UnknownColumn" [a] else if i = 22 then fs1D "number" "UnknownRow" [a] else fs0D (nmI i) []
def fldI (i : Nat) (a b : D) : D := if i < 16 then a else if i < 18 then .tup [a, b] else if i < 20 then .non else a
def sFieldX (isc : Addr → Prop) : MF := fun ds M k _ => ∃ p, ds = [.ref p] ∧ ∃ dx C fs c v, M p = some (.exv p dx C fs) ∧ isc C ∧ fs.lookup ("code" : Str) = some (.str c) ∧ fieldD c (fun n => fs.lookup n) = some v ∧ k v M
def sBases (V : Ev) : MF := fun ds M k _ => ∃ p, ds = [.ref p] ∧ ∃ dx C fs b1 b2 b3 b4 b5, M p = some (.exv p dx C fs) ∧ V.isc C ∧ V.is C "LotsError" = some b1 ∧ V.is C "ValueError" = some b2 ∧ V.is C "Missing" = some b3 ∧ V.is C "LookupError" = some b4 ∧ V.is C "IndexError" = some b5 ∧ k (.lst [.bl b1, .bl b2, .bl b3, .bl b4, .bl b5]) M
/-- the i-th error -/
def ExI (V : Ev) (M : Mh) (a b : D) (i : Nat) (d : D) : Prop := ∃ p dx, d = .ref p ∧ M p = some (.exv p dx (V.G (nmI i)) (fsI i a b))
def HV (V : Ev) : Prop := (∀ i < 24, V.isc (V.G (nmI i))) ∧ (∀ i < 24, ∀ j < 24, V.is (V.G (nmI i)) (nmI j) = some (decide (i = j))) ∧ ∀ i < 24, ∀ j < 5, V.is (V.G (nmI i)) (bn5.getD j "") = some ((rowB i).getD j false)
def sApart (V : Ev) : MF := fun ds M k _ => ∃ xs : List D, ds = [.lst xs] ∧ ∃ a b, HV V ∧ xs.length = 24 ∧ (∀ i d, xs[i]? = some d → ExI V M a b i d) ∧ ∀ M', (∀ y o, M y = some o → M' y = some o) → k (.bl true) M'
end K64
set_option maxHeartbeats 1000000
namespace K64
open PySem L2 DL CM DX
theorem set_at (M : Mh) (a : Addr) (o : MO) : setM M a o a = some o := if_pos rfl
theorem set_ne (M : Mh) {a b : Addr} (o : MO) (h : b ≠ a) : setM M a o b = M b := if_neg h
theorem ne_of {M : Mh} {x y : Addr} {o : MO} (h1 : M x = none) (h2 : M y = some o) : x ≠ y := fun e => by rw [e, h2] at h1; cases h1
def Kp (M M' : Mh) : Prop := ∀ y o, M y = some o → M' y = some o
theorem Kp.trans {M M1 M2 : Mh} (h1 : Kp M M1) (h2 : Kp M1 M2) : Kp M M2 := fun y o h => h2 y o (h1 y o h)
theorem kp_new {M : Mh} {p : Addr} {o : MO} (h : M p = none) : Kp M (setM M p o) := fun y q e => by rw [set_ne _ _ (ne_of h e).symm, e]
section
variable {Γ : DL.Env} {M : Mh} {k : DK} {kx : XKd} {C : Addr}
theorem mk1 {par z : Str} {j : Nat} {d : D} (h : Γ[j]? = some (some d)) (hk : ∀ a dx M', M' a = some (.exv a dx C (fs1D par z [d])) → Kp M M' → k (.ref a) M') : mMkX C 1 (fs1D par z) (mCons (mVar j) mNil) Γ M k kx :=
  ⟨d, h, rfl, fun a dx ha => hk a dx _ (set_at _ _ _) (kp_new ha)⟩
theorem mk2 {p q z : Str} {i j : Nat} {d e : D} (h : Γ[i]? = some (some d)) (h' : Γ[j]? = some (some e)) (hk : ∀ a dx M', M' a = some (.exv a dx C (fs2D p q z [d, e])) → Kp M M' → k (.ref a) M') : mMkX C 2 (fs2D p q z) (mCons (mVar i) (mCons (mVar j) mNil)) Γ M k kx :=
  ⟨d, h, e, h', rfl, fun a dx ha => hk a dx _ (set_at _ _ _) (kp_new ha)⟩
theorem mk0 {z : Str} (hk : ∀ a dx M', M' a = some (.exv a dx C (fs0D z [])) → Kp M M' → k (.ref a) M') : mMkX C 0 (fs0D z) mNil Γ M k kx :=
  ⟨rfl, fun a dx ha => hk a dx _ (set_at _ _ _) (kp_new ha)⟩
end
theorem lc_two {t : Tg} {G : Mh → Prop} {te : ME} {Γ : DL.Env} {k : List D → Mh → Prop} {kx : XKd} {M : Mh} (hG : G M) : ∀ (ps : List (D × D)) (acc : List D), (∀ q ∈ ps, ∃ Γ1, bindT t q.1 Γ = some Γ1 ∧ ∀ k' : DK, k' q.2 M → te Γ1 M k' kx) → k (acc ++ ps.map (·.2)) M → loopLc t G mYes te Γ k kx acc (ps.map (·.1)) M
  | [], acc, _, hk => ⟨hG, by simpa using hk⟩
  | q :: ps, acc, h, hk => by
    obtain ⟨Γ1, e1, h1⟩ := h q List.mem_cons_self
    exact ⟨hG, Γ1, e1, h1 _ (lc_two hG ps _ (fun q' hq => h q' (List.mem_cons_of_mem _ hq)) (by simpa using hk))⟩
/-! ### the fields -/
theorem code_at (i : Nat) (hi : i < 24) (a b : D) : (fsI i a b).lookup ("code" : Str) = some (.str (nmI i)) := by
  match i, hi with
  | 0, _ => kernel_rfl
  | 1, _ => kernel_rfl
  | 2, _ => kernel_rfl
  | 3, _ => kernel_rfl
  | 4, _ => kernel_rfl
  | 5, _ => kernel_rfl
  | 6, _ => kernel_rfl
  | 7, _ => kernel_rfl
  | 8, _ => kernel_rfl
  | 9, _ => kernel_rfl
  | 10, _ => kernel_rfl
  | 11, _ => kernel_rfl
  | 12, _ => kernel_rfl
  | 13, _ => kernel_rfl
  | 14, _ => kernel_rfl
  | 15, _ => kernel_rfl
  | 16, _ => kernel_rfl
  | 17, _ => kernel_rfl
  | 18, _ => kernel_rfl
  | 19, _ => kernel_rfl
  | 20, _ => kernel_rfl
  | 21, _ => kernel_rfl
  | 22, _ => kernel_rfl
  | 23, _ => kernel_rfl
  | n + 24, h => exact absurd h (by omega)
theorem field_at (i : Nat) (hi : i < 23) (a b : D) : fieldD (nmI i) (fun n => (fsI i a b).lookup n) = some (fldI i a b) := by
  match i, hi with
  | 0, _ => kernel_rfl
  | 1, _ => kernel_rfl
  | 2, _ => kernel_rfl
  | 3, _ => kernel_rfl
  | 4, _ => kernel_rfl
  | 5, _ => kernel_rfl
  | 6, _ => kernel_rfl
  | 7, _ => kernel_rfl
  | 8, _ => kernel_rfl
  | 9, _ => kernel_rfl
  | 10, _ => kernel_rfl
  | 11, _ => kernel_rfl
  | 12, _ => kernel_rfl
  | 13, _ => kernel_rfl
  | 14, _ => kernel_rfl
  | 15, _ => kernel_rfl
  | 16, _ => kernel_rfl
  | 17, _ => kernel_rfl
  | 18, _ => kernel_rfl
  | 19, _ => kernel_rfl
  | 20, _ => kernel_rfl
  | 21, _ => kernel_rfl
  | 22, _ => kernel_rfl
  | n + 23, h => exact absurd h (by omega)
section
variable {p dx C : Addr} {isc : Addr → Prop} {fs : List (Str × D)} {c : Str} {De : DEnds} {M : Mh} {kx : XKd} {m1 m2 : MS} (hM : M p = some (.exv p dx C fs)) (ok : isc C)
include hM ok
theorem f_in {ml : MA} (l : List D) (hc : fs.lookup ("code" : Str) = some (.str c)) (hl : ∀ (Γ : DL.Env) M k kx, ml Γ M k kx = k l M) (hz : l.length ≤ 1000) (hf : l.all flat = true) (h1 : inF (.str c) l = true → m1 De [some (.ref p)] M kx) (h2 : ¬ inF (.str c) l = true → m2 De [some (.ref p)] M kx) :
    mIfS (mTest (mOp dIn (mFldX isc "code" (mVar 0)) (mLst ml))) m1 m2 De [some (.ref p)] M kx := by
  refine ⟨.ref p, rfl, p, dx, C, fs, .str c, rfl, hM, ok, hc, ?_⟩
  show ml _ M _ kx
  rw [hl]
  refine ⟨by rw [sizeLine_eq]; omega, l, rfl, rfl, hf, _, rfl, ?_⟩
  show if inF (.str c) l = true then _ else _
  split
  · rename_i h; exact h1 h
  · rename_i h; exact h2 h
theorem f_eq (z : Str) (hc : fs.lookup ("code" : Str) = some (.str c)) (h1 : decide (c = z) = true → m1 De [some (.ref p)] M kx) (h2 : ¬ decide (c = z) = true → m2 De [some (.ref p)] M kx) :
    mIfS (mTest (mOp dEq (mFldX isc "code" (mVar 0)) (mC (.str z)))) m1 m2 De [some (.ref p)] M kx := by
  refine ⟨.ref p, rfl, p, dx, C, fs, .str c, rfl, hM, ok, hc, ?_⟩
  show ∃ b, D.bl (decide (c = z)) = .bl b ∧ _
  refine ⟨_, rfl, ?_⟩
  show if decide (c = z) = true then _ else _
  split
  · rename_i h; exact h1 h
  · rename_i h; exact h2 h
theorem f_get {n : Str} {v : D} {k : DK} (h : fs.lookup n = some v) (hk : k v M) : mFldX isc n (mVar 0) [some (.ref p)] M k kx := ⟨.ref p, rfl, p, dx, C, fs, v, rfl, hM, ok, h, hk⟩
theorem f_two {n n' : Str} {v : D} {k : DK} (h : pairD (fs.lookup n) (fs.lookup n') = some v) (hk : k v M) : mTup (mCons (mFldX isc n (mVar 0)) (mCons (mFldX isc n' (mVar 0)) mNil)) [some (.ref p)] M k kx := by
  cases e1 : fs.lookup n with
  | none => rw [e1] at h; cases h
  | some x =>
    cases e2 : fs.lookup n' with
    | none => rw [e1, e2] at h; cases h
    | some y =>
      rw [e1, e2] at h
      cases h
      exact ⟨.ref p, rfl, p, dx, C, fs, x, rfl, hM, ok, e1, .ref p, rfl, p, dx, C, fs, y, rfl, hM, ok, e2, by rw [sizeLine_eq]; show 2 ≤ _; omega, hk⟩
end
end K64
set_option maxHeartbeats 4000000
namespace K64
open PySem L2 DL DX LamX
def top (i : Nat) : Stmt := PySem.Challenge.pw_bothlots_k64_errors_and_classes.main.body.getD i (.Pass ⟨0, 0, 0, 0⟩)
abbrev st__law_box : Stmt := top 28
abbrev st__law_pull : Stmt := top 29
abbrev st__law_of : Stmt := top 30
abbrev st__law_same : Stmt := top 31
abbrev st__law_field : Stmt := top 32
abbrev st__law_odd : Stmt := top 33
abbrev st__law_bases : Stmt := top 34
abbrev st__law_apart : Stmt := top 35
abbrev st_law : Stmt := top 36
abbrev FnM (K : PySem.W.Frag) (x q : Str) (st : Stmt) (f : Addr) (fd : FuncData) (kws : List (Str × V) := []) : Prop := FunD K x q (defArgs st) (defBody st) (defScope st) [] kws f fd
abbrev FnP (K : PySem.W.Frag) (x : Str) (st : Stmt) (f : Addr) (fd : FuncData) (kws : List (Str × V) := []) : Prop := FunD K x x (defArgs st) (defBody st) (defScope st) [] kws f fd
structure Txt (w : World) (K : PySem.W.Frag) (mg : Str → Option Value) : Prop where
  b_IndexError : mg "IndexError" = none
  b_LookupError : mg "LookupError" = none
  b_ValueError : mg "ValueError" = none
  b_abs : mg "abs" = none
  b_all : mg "all" = none
  b_bool : mg "bool" = none
  b_int : mg "int" = none
  b_isinstance : mg "isinstance" = none
  b_len : mg "len" = none
  b_list : mg "list" = none
  b_range : mg "range" = none
  b_str : mg "str" = none
  b_tuple : mg "tuple" = none
  b_zip : mg "zip" = none
/-! _law_box -/
abbrev N__law_box : List Str := ["_law_script", "_law_mixed", "_law_cell"]
theorem sc__law_box : FnScope N__law_box ["_law_script"] (defScope st__law_box) := ⟨rfl, rfl, rfl, by decide +kernel, rfl, by decide +kernel, by decide +kernel⟩
theorem ok__law_box {P : Program} {w : World} {K : PySem.W.Frag} {mg : Str → Option Value} {base : Heap} {f : Addr} {fd : FuncData} {k : Nat} {s : MF}  (F : FnM K "_law_box" "_law_box" st__law_box f fd) (T : Txt w K mg) 
    (len : ∀ ds M k kx, s ds M k kx → ds.length = 1) (hs : ∀ ds M k kx, s ds M k kx → CM.b__law_box { nx := fun _ M' => k .non M', rt := k } (startD 3 ds) M noX) : FnOk P w K mg base CX0 (k + 1) f fd ["_law_script"] (DL.spI K s) := by
  exact d_ok0 F sc__law_box (fun cdv A outer sh H E hr => (dss_cons (ds_set (i := 1) sc__law_box.nd rfl (Or.inl rfl) de_int) (dss_cons (ds_for PassesOwn.never rfl (di_seq (de_slice ds_slice (de_var 0) dp_none (dp_some de_int))) (dg_nm (i := 2) sc__law_box.nd rfl) (dss_one (ds_set (i := 1) sc__law_box.nd rfl (Or.inl rfl) (de_op do_mod (de_callTy dc_int rfl T.b_int bt_int (da_cons (de_op do_add (de_op do_add (de_op do_mul (de_var 1) de_int) (de_op do_mul (de_op do_mod (de_callTy dc_int rfl T.b_int bt_int (da_cons (de_var 2) da_nil)) de_int) de_int)) de_int) da_nil)) de_int)))) (dss_one (ds_ret (de_lstM (da_cons (de_callTy dc_list rfl T.b_list bt_list (da_cons (de_slice ds_slice (de_var 0) dp_none (dp_some de_int)) da_nil)) (da_cons de_int (da_cons de_int (da_cons (de_var 1) (da_cons de_int da_nil))))))))))) len hs
/-! _law_pull -/
abbrev N__law_pull : List Str := ["_law_box_here", "_law_many", "_law_cell", "_law_digit", "_law_twice"]
theorem sc__law_pull : FnScope N__law_pull ["_law_box_here", "_law_many"] (defScope st__law_pull) := ⟨rfl, rfl, rfl, by decide +kernel, rfl, by decide +kernel, by decide +kernel⟩
theorem ok__law_pull {P : Program} {w : World} {K : PySem.W.Frag} {mg : Str → Option Value} {base : Heap} {f : Addr} {fd : FuncData} {k : Nat} {s : MF}  (F : FnM K "_law_pull" "_law_pull" st__law_pull f fd) (T : Txt w K mg) 
    (len : ∀ ds M k kx, s ds M k kx → ds.length = 2) (hs : ∀ ds M k kx, s ds M k kx → CM.b__law_pull { nx := fun _ M' => k .non M', rt := k } (startD 5 ds) M noX) : FnOk P w K mg base CX0 (k + 1) f fd ["_law_box_here", "_law_many"] (DL.spI K s) := by
  exact d_ok0 F sc__law_pull (fun cdv A outer sh H E hr => (dss_cons (ds_setIx (de_op do_add (de_ix dx_seq (de_var 0) de_int (fun _ _ => rfl)) de_int) (de_var 0) de_int) (dss_cons (ds_if (PW.pt (dw_and (dt_cmp (do_eq hr.units) (de_ix dx_seq (de_var 0) de_int (fun _ _ => rfl)) de_int (nomark _)) (dw_and1 (dt_cmp do_lt (de_ix dx_seq (de_var 0) de_int (fun _ _ => rfl)) (de_callB dc_len rfl T.b_len bb_len (da_cons (de_ix dx_seq (de_var 0) de_int (fun _ _ => rfl)) da_nil)) (nomark _))))) (dss_cons (ds_set (i := 2) sc__law_pull.nd rfl (Or.inl rfl) (de_ix dx_seq (de_ix dx_seq (de_var 0) de_int (fun _ _ => rfl)) (de_ix dx_seq (de_var 0) de_int (fun _ _ => rfl)) (fun _ _ => rfl))) (dss_cons (ds_setIx (de_op do_add (de_ix dx_seq (de_var 0) de_int (fun _ _ => rfl)) de_int) (de_var 0) de_int) (dss_one (ds_if (dt_cmp do_ge (de_callB dc_abs rfl T.b_abs bb_abs (da_cons (de_var 2) da_nil)) (de_op do_pow de_int de_int) (nomark _)) (dss_one (ds_setIx (de_callB dc_abs rfl T.b_abs bb_abs (da_cons (de_var 2) da_nil)) (de_var 0) de_int)) (dss_one (ds_setIx (de_op do_mod (de_callTy dc_int rfl T.b_int bt_int (da_cons (de_op do_add (de_op do_add (de_op do_mul (de_ix dx_seq (de_var 0) de_int (fun _ _ => rfl)) de_int) (de_op do_mul (de_op do_mod (de_callTy dc_int rfl T.b_int bt_int (da_cons (de_var 2) da_nil)) de_int) de_int)) de_int) da_nil)) de_int) (de_var 0) de_int)))))) dss_nil) (dss_cons (ds_if (dt_cmp do_gt (de_ix dx_seq (de_var 0) de_int (fun _ _ => rfl)) de_int (nomark _)) (dss_cons (ds_set (i := 3) sc__law_pull.nd rfl (Or.inl rfl) (de_op do_mod (de_callTy dc_int rfl T.b_int bt_int (da_cons (de_ix dx_seq (de_var 0) de_int (fun _ _ => rfl)) da_nil)) (de_var 1))) (dss_cons (ds_setIx (de_op do_div (de_ix dx_seq (de_var 0) de_int (fun _ _ => rfl)) (de_var 1)) (de_var 0) de_int) (dss_one (ds_ret (de_var 3))))) dss_nil) (dss_cons (ds_set (i := 4) sc__law_pull.nd rfl (Or.inl rfl) (de_op do_mod (de_callTy dc_int rfl T.b_int bt_int (da_cons (de_op do_add (de_op do_mul (de_ix dx_seq (de_var 0) de_int (fun _ _ => rfl)) (de_ix dx_seq (de_var 0) de_int (fun _ _ => rfl))) (de_op do_mul (de_ix dx_seq (de_var 0) de_int (fun _ _ => rfl)) de_int)) da_nil)) de_int)) (dss_cons (ds_setIx (de_op do_mod (de_callTy dc_int rfl T.b_int bt_int (da_cons (de_op do_add (de_op do_add (de_op do_mul (de_var 4) de_int) (de_op do_mul (de_ix dx_seq (de_var 0) de_int (fun _ _ => rfl)) de_int)) de_int) da_nil)) de_int) (de_var 0) de_int) (dss_one (ds_ret (de_op do_mod (de_callTy dc_int rfl T.b_int bt_int (da_cons (de_op do_div (de_ix dx_seq (de_var 0) de_int (fun _ _ => rfl)) de_int) da_nil)) (de_var 1)))))))))) len hs
/-! _law_of -/
abbrev N__law_of : List Str := ["_law_box_here", "_law_some"]
theorem sc__law_of : FnScope N__law_of ["_law_box_here", "_law_some"] (defScope st__law_of) := ⟨rfl, rfl, rfl, by decide +kernel, rfl, by decide +kernel, by decide +kernel⟩
theorem ok__law_of {P : Program} {w : World} {K : PySem.W.Frag} {mg : Str → Option Value} {base : Heap} {f : Addr} {fd : FuncData} {k : Nat} {s : MF} {f__law_pull : Addr} {fd__law_pull : FuncData} {k__law_pull : Nat} (F : FnM K "_law_of" "_law_of" st__law_of f fd) (T : Txt w K mg) (D__law_pull : Df P w K mg base CX0 k__law_pull f__law_pull fd__law_pull "_law_pull" ["_law_box_here", "_law_many"] sPull) (hk__law_pull : k__law_pull ≤ k) (S__law_pull_2 : Binds K fd__law_pull ["_law_box_here", "_law_many"] [])
    (len : ∀ ds M k kx, s ds M k kx → ds.length = 2) (hs : ∀ ds M k kx, s ds M k kx → CM.b__law_of sPull { nx := fun _ M' => k .non M', rt := k } (startD 2 ds) M noX) : FnOk P w K mg base CX0 (k + 1) f fd ["_law_box_here", "_law_some"] (DL.spI K s) := by
  exact d_ok0 F sc__law_of (fun cdv A outer sh H E hr => (dss_one (ds_ret (de_ix dx_seq (de_var 1) (de_callD D__law_pull (hr.mono hk__law_pull) rfl S__law_pull_2 passN (da_cons (de_var 0) (da_cons (de_callB dc_len rfl T.b_len bb_len (da_cons (de_var 1) da_nil)) da_nil))) (fun _ _ => rfl))))) len hs
/-! _law_same -/
abbrev N__law_same : List Str := ["_law_found", "_law_due", "_law_a", "_law_b"]
theorem sc__law_same : FnScope N__law_same ["_law_found", "_law_due"] (defScope st__law_same) := ⟨rfl, rfl, rfl, by decide +kernel, rfl, by decide +kernel, by decide +kernel⟩
theorem ok__law_same {sameN : Nat} {P : Program} {w : World} {K : PySem.W.Frag} {mg : Str → Option Value} {base : Heap} {f : Addr} {fd : FuncData} {k : Nat} {s : MF} {f__law_same : Addr} {fd__law_same : FuncData} {k__law_same : Nat} (F : FnM K "_law_same" "_law_same" st__law_same f fd) (T : Txt w K mg) (D__law_same : Df P w K mg base CX0 k__law_same f__law_same fd__law_same "_law_same" ["_law_found", "_law_due"] (CM.sSame sameN)) (hk__law_same : k__law_same ≤ k) (S__law_same_2 : Binds K fd__law_same ["_law_found", "_law_due"] [])
    (len : ∀ ds M k kx, s ds M k kx → ds.length = 2) (hs : ∀ ds M k kx, s ds M k kx → CM.b__law_same (CM.sSame sameN) { nx := fun _ M' => k .non M', rt := k } (startD 4 ds) M noX) : FnOk P w K mg base CX0 (k + 1) f fd ["_law_found", "_law_due"] (DL.spI K s) := by
  exact d_ok0 F sc__law_same (fun cdv A outer sh H E hr => (dss_cons (ds_if (PW.pt (dw_or (dt_cmp do_is (de_var 1) de_non (nomark _)) (dw_or1 (dt_cmp do_is (de_var 0) de_non (nomark _))))) (dss_one (ds_ret (de_and (de_cmp do_is (de_var 1) de_non (nomark _)) (de_one (de_cmp do_is (de_var 0) de_non (nomark _)))))) dss_nil) (dss_cons (ds_if (dt_val (de_isi2 rfl T.b_isinstance (de_var 1) rfl T.b_list bt_list (by decide) rfl T.b_tuple bt_tuple (by decide))) (dss_cons (ds_if (PW.pt (dw_or (dt_cmp (do_ne hr.units) (de_isi rfl T.b_isinstance (de_var 0) rfl T.b_list bt_list (by decide)) (de_isi rfl T.b_isinstance (de_var 1) rfl T.b_list bt_list (by decide)) (nomark _)) (dw_or1 (dt_cmp (do_ne hr.units) (de_isi rfl T.b_isinstance (de_var 0) rfl T.b_tuple bt_tuple (by decide)) (de_isi rfl T.b_isinstance (de_var 1) rfl T.b_tuple bt_tuple (by decide)) (nomark _))))) (dss_one (ds_ret de_bl)) dss_nil) (dss_one (ds_ret (de_and (de_cmp (do_eq hr.units) (de_callB dc_len rfl T.b_len bb_len (da_cons (de_var 0) da_nil)) (de_callB dc_len rfl T.b_len bb_len (da_cons (de_var 1) da_nil)) (nomark _)) (de_one (de_callB (dc_all rfl) rfl T.b_all bb_all (da_cons (de_lc (E' := E0) rfl sc__law_same.nd (di_zip rfl T.b_zip (de_var 0) (de_var 1)) (blkOk_by (own := [("_law_a", 2), ("_law_b", 3)]) (N := N__law_same) (sc := defScope st__law_same) (by decide +kernel)) (by decide +kernel) (fun _ _ _ _ _ => (dg_tp rfl rfl (dgs_cons (dg_nm (i := 2) sc__law_same.nd rfl) (dgs_cons (dg_nm (i := 3) sc__law_same.nd rfl) dgs_nil)))) (fun _ _ _ _ _ => dts_nil) (fun _ _ _ _ _ => (de_callD D__law_same (hr.mono hk__law_same) rfl S__law_same_2 passN (da_cons (de_var 2) (da_cons (de_var 3) da_nil))))) da_nil))))))) dss_nil) (dss_cons (ds_if (PW.pt (dw_or (dt_val (de_isi rfl T.b_isinstance (de_var 1) rfl T.b_bool bt_bool (by decide))) (dw_or1 (dt_val (de_isi rfl T.b_isinstance (de_var 0) rfl T.b_bool bt_bool (by decide)))))) (dss_one (ds_ret (de_and (de_isi rfl T.b_isinstance (de_var 1) rfl T.b_bool bt_bool (by decide)) (de_and (de_isi rfl T.b_isinstance (de_var 0) rfl T.b_bool bt_bool (by decide)) (de_one (de_cmp (do_eq hr.units) (de_var 0) (de_var 1) (nomark _))))))) dss_nil) (dss_cons (ds_if (dt_val (de_isi rfl T.b_isinstance (de_var 1) rfl T.b_int bt_int (by decide))) (dss_one (ds_ret (de_and (de_isi rfl T.b_isinstance (de_var 0) rfl T.b_int bt_int (by decide)) (de_one (de_cmp (do_eq hr.units) (de_var 0) (de_var 1) (nomark _)))))) dss_nil) (dss_one (ds_ret (de_and (de_isi rfl T.b_isinstance (de_var 0) rfl T.b_str bt_str (by decide)) (de_and (de_isi rfl T.b_isinstance (de_var 1) rfl T.b_str bt_str (by decide)) (de_one (de_cmp (do_eq hr.units) (de_var 0) (de_var 1) (nomark _)))))))))))) len hs
/-! _law_field -/
abbrev N__law_field : List Str := ["_law_e"]
theorem sc__law_field : FnScope N__law_field ["_law_e"] (defScope st__law_field) := ⟨rfl, rfl, rfl, by decide +kernel, rfl, by decide +kernel, by decide +kernel⟩
def b__law_field (V : Ev) : MS := (mSeq (mIfS (mTest (mOp dIn (mFldX V.isc "code" (mVar 0)) (mLst (mCons (mC (.str "InvalidName")) (mCons (mC (.str "InvalidKey")) (mCons (mC (.str "InvalidTest")) (mCons (mC (.str "InvalidThing")) (mCons (mC (.str "InvalidSetting")) (mCons (mC (.str "InvalidWord")) (mCons (mC (.str "InvalidNumber")) mNil)))))))))) (mRet (mFldX V.isc "given" (mVar 0))) mNext) (mSeq (mIfS (mTest (mOp dIn (mFldX V.isc "code" (mVar 0)) (mLst (mCons (mC (.str "InvalidColumn")) (mCons (mC (.str "InvalidSide")) (mCons (mC (.str "InvalidStep")) (mCons (mC (.str "InvalidCommand")) mNil))))))) (mRet (mFldX V.isc "at" (mVar 0))) mNext) (mSeq (mIfS (mTest (mOp dEq (mFldX V.isc "code" (mVar 0)) (mC (.str "InvalidRow")))) (mRet (mTup (mCons (mFldX V.isc "table" (mVar 0)) (mCons (mFldX V.isc "at" (mVar 0)) mNil)))) mNext) (mSeq (mIfS (mTest (mOp dEq (mFldX V.isc "code" (mVar 0)) (mC (.str "Torn")))) (mRet (mTup (mCons (mFldX V.isc "one" (mVar 0)) (mCons (mFldX V.isc "other" (mVar 0)) mNil)))) mNext) (mSeq (mIfS (mTest (mOp dIn (mFldX V.isc "code" (mVar 0)) (mLst (mCons (mC (.str "DuplicateName")) (mCons (mC (.str "UnknownName")) (mCons (mC (.str "UnknownColumn")) mNil)))))) (mRet (mFldX V.isc "name" (mVar 0))) mNext) (mSeq (mIfS (mTest (mOp dIn (mFldX V.isc "code" (mVar 0)) (mLst (mCons (mC (.str "TooMany")) (mCons (mC (.str "Full")) mNil))))) (mRet (mFldX V.isc "most" (mVar 0))) mNext) (mSeq (mIfS (mTest (mOp dEq (mFldX V.isc "code" (mVar 0)) (mC (.str "SideTaken")))) (mRet (mFldX V.isc "taken" (mVar 0))) mNext) (mSeq (mIfS (mTest (mOp dEq (mFldX V.isc "code" (mVar 0)) (mC (.str "UnknownRow")))) (mRet (mFldX V.isc "number" (mVar 0))) mNext) (mRet (mIf (mTest (mOp dEq (mFldX V.isc "code" (mVar 0)) (mC (.str "InvalidText")))) (mFldX V.isc "line" (mVar 0)) (mC .non)))))))))))
theorem ok__law_field {P : Program} {w : World} {K : PySem.W.Frag} {mg : Str → Option Value} {base : Heap} {f : Addr} {fd : FuncData} {k : Nat} {s : MF} {V : Ev} (F : FnM K "_law_field" "_law_field" st__law_field f fd) (T : Txt w K mg) (EV : EvD K V)
    (len : ∀ ds M k kx, s ds M k kx → ds.length = 1) (hs : ∀ ds M k kx, s ds M k kx → b__law_field V { nx := fun _ M' => k .non M', rt := k } (startD 1 ds) M noX) : FnOk P w K mg base CX0 (k + 1) f fd ["_law_e"] (DL.spI K s) := by
  obtain ⟨⟩ := V
  obtain ⟨rfl, rfl, rfl, rfl⟩ := EV
  exact d_ok0 F sc__law_field (fun cdv A outer sh H E hr => (dss_cons (ds_if (dt_cmp do_in (de_fldX (n := "code") (by decide) (de_var 0)) (de_lst (da_cons de_str (da_cons de_str (da_cons de_str (da_cons de_str (da_cons de_str (da_cons de_str (da_cons de_str da_nil)))))))) (by rfl)) (dss_one (ds_ret (de_fldX (n := "given") (by decide) (de_var 0)))) dss_nil) (dss_cons (ds_if (dt_cmp do_in (de_fldX (n := "code") (by decide) (de_var 0)) (de_lst (da_cons de_str (da_cons de_str (da_cons de_str (da_cons de_str da_nil))))) (by rfl)) (dss_one (ds_ret (de_fldX (n := "at") (by decide) (de_var 0)))) dss_nil) (dss_cons (ds_if (dt_cmp (do_eq hr.units) (de_fldX (n := "code") (by decide) (de_var 0)) de_str (nomark _)) (dss_one (ds_ret (de_tup (da_cons (de_fldX (n := "table") (by decide) (de_var 0)) (da_cons (de_fldX (n := "at") (by decide) (de_var 0)) da_nil))))) dss_nil) (dss_cons (ds_if (dt_cmp (do_eq hr.units) (de_fldX (n := "code") (by decide) (de_var 0)) de_str (nomark _)) (dss_one (ds_ret (de_tup (da_cons (de_fldX (n := "one") (by decide) (de_var 0)) (da_cons (de_fldX (n := "other") (by decide) (de_var 0)) da_nil))))) dss_nil) (dss_cons (ds_if (dt_cmp do_in (de_fldX (n := "code") (by decide) (de_var 0)) (de_lst (da_cons de_str (da_cons de_str (da_cons de_str da_nil)))) (by rfl)) (dss_one (ds_ret (de_fldX (n := "name") (by decide) (de_var 0)))) dss_nil) (dss_cons (ds_if (dt_cmp do_in (de_fldX (n := "code") (by decide) (de_var 0)) (de_lst (da_cons de_str (da_cons de_str da_nil))) (by rfl)) (dss_one (ds_ret (de_fldX (n := "most") (by decide) (de_var 0)))) dss_nil) (dss_cons (ds_if (dt_cmp (do_eq hr.units) (de_fldX (n := "code") (by decide) (de_var 0)) de_str (nomark _)) (dss_one (ds_ret (de_fldX (n := "taken") (by decide) (de_var 0)))) dss_nil) (dss_cons (ds_if (dt_cmp (do_eq hr.units) (de_fldX (n := "code") (by decide) (de_var 0)) de_str (nomark _)) (dss_one (ds_ret (de_fldX (n := "number") (by decide) (de_var 0)))) dss_nil) (dss_one (ds_ret (de_if (dt_cmp (do_eq hr.units) (de_fldX (n := "code") (by decide) (de_var 0)) de_str (nomark _)) (de_fldX (n := "line") (by decide) (de_var 0)) de_non)))))))))))) len hs
/-! _law_odd -/
abbrev N__law_odd : List Str := ["_law_box_here", "_law_more"]
theorem sc__law_odd : FnScope N__law_odd ["_law_box_here", "_law_more"] (defScope st__law_odd) := ⟨rfl, rfl, rfl, by decide +kernel, rfl, by decide +kernel, by decide +kernel⟩
theorem ok__law_odd {P : Program} {w : World} {K : PySem.W.Frag} {mg : Str → Option Value} {base : Heap} {f : Addr} {fd : FuncData} {k : Nat} {s : MF} {f__law_of : Addr} {fd__law_of : FuncData} {k__law_of : Nat} (F : FnM K "_law_odd" "_law_odd" st__law_odd f fd) (T : Txt w K mg) (D__law_of : Df P w K mg base CX0 k__law_of f__law_of fd__law_of "_law_of" ["_law_box_here", "_law_some"] CM.sOf) (hk__law_of : k__law_of ≤ k) (S__law_of_2 : Binds K fd__law_of ["_law_box_here", "_law_some"] [])
    (len : ∀ ds M k kx, s ds M k kx → ds.length = 2) (hs : ∀ ds M k kx, s ds M k kx → CM.b__law_odd CM.sOf { nx := fun _ M' => k .non M', rt := k } (startD 2 ds) M noX) : FnOk P w K mg base CX0 (k + 1) f fd ["_law_box_here", "_law_more"] (DL.spI K s) := by
  exact d_ok0 F sc__law_odd (fun cdv A outer sh H E hr => (dss_one (ds_ret (de_callD D__law_of (hr.mono hk__law_of) rfl S__law_of_2 passN (da_cons (de_var 0) (da_cons (de_op do_add (de_lst (da_cons de_non (da_cons de_bl (da_cons de_bl (da_cons de_str (da_cons de_str (da_cons de_str (da_cons de_str (da_cons (de_un du_neg de_int) (da_cons de_int (da_cons (de_tup (da_cons de_int (da_cons de_str da_nil))) (da_cons (de_lst (da_cons de_int da_nil)) (da_cons (de_tup da_nil) (da_cons (de_op do_pow de_int de_int) da_nil)))))))))))))) (de_var 1)) da_nil)))))) len hs
/-! _law_bases -/
abbrev N__law_bases : List Str := ["_law_e"]
theorem sc__law_bases : FnScope N__law_bases ["_law_e"] (defScope st__law_bases) := ⟨rfl, rfl, rfl, by decide +kernel, rfl, by decide +kernel, by decide +kernel⟩
def b__law_bases (V : Ev) : MS := (mRet (mLst (mCons (mUn (dIsX V.isc V.is "LotsError") (mVar 0)) (mCons (mUn (dIsX V.isc V.is "ValueError") (mVar 0)) (mCons (mUn (dIsX V.isc V.is "Missing") (mVar 0)) (mCons (mUn (dIsX V.isc V.is "LookupError") (mVar 0)) (mCons (mUn (dIsX V.isc V.is "IndexError") (mVar 0)) mNil)))))))
theorem ok__law_bases {P : Program} {w : World} {K : PySem.W.Frag} {mg : Str → Option Value} {base : Heap} {f : Addr} {fd : FuncData} {k : Nat} {s : MF} {V : Ev} (F : FnM K "_law_bases" "_law_bases" st__law_bases f fd) (T : Txt w K mg) (GC_Missing : mg "Missing" = some (.ref (V.G "Missing"))) (GC_LotsError : mg "LotsError" = some (.ref (V.G "LotsError"))) (EV : EvD K V)
    (len : ∀ ds M k kx, s ds M k kx → ds.length = 1) (hs : ∀ ds M k kx, s ds M k kx → b__law_bases V { nx := fun _ M' => k .non M', rt := k } (startD 1 ds) M noX) : FnOk P w K mg base CX0 (k + 1) f fd ["_law_e"] (DL.spI K s) := by
  obtain ⟨⟩ := V
  obtain ⟨rfl, rfl, rfl, rfl⟩ := EV
  exact d_ok0 F sc__law_bases (fun cdv A outer sh H E hr => (dss_one (ds_ret (de_lst (da_cons (by exact de_isX rfl T.b_isinstance (de_var 0) rfl GC_LotsError (by decide +kernel)) (da_cons (by exact de_isXb rfl T.b_isinstance (de_var 0) rfl T.b_ValueError PyProof.Rows.Boot.«ValueError» (isK_V _)) (da_cons (by exact de_isX rfl T.b_isinstance (de_var 0) rfl GC_Missing (by decide +kernel)) (da_cons (by exact de_isXb rfl T.b_isinstance (de_var 0) rfl T.b_LookupError PyProof.Rows.Boot.«LookupError» (isK_L _)) (da_cons (by exact de_isXb rfl T.b_isinstance (de_var 0) rfl T.b_IndexError PyProof.Rows.Boot.«IndexError» (isK_I _)) da_nil))))))))) len hs
/-! _law_apart -/
abbrev N__law_apart : List Str := ["_law_lots", "_law_found", "_law_e", "_law_at", "_law_k"]
theorem sc__law_apart : FnScope N__law_apart ["_law_lots"] (defScope st__law_apart) := ⟨rfl, rfl, rfl, by decide +kernel, rfl, by decide +kernel, by decide +kernel⟩
def b__law_apart (V : Ev) : MS := (mSeq (mAsg (mLstM mNil) (.nm 1)) (mSeq (mFor (.nm 2) (mSeqI (mVar 0)) (mDrop (mAppend (mVar 1) (mLst (mCons (mUn (dIsX V.isc V.is "InvalidName") (mVar 2)) (mCons (mUn (dIsX V.isc V.is "InvalidColumn") (mVar 2)) (mCons (mUn (dIsX V.isc V.is "InvalidSide") (mVar 2)) (mCons (mUn (dIsX V.isc V.is "InvalidKey") (mVar 2)) (mCons (mUn (dIsX V.isc V.is "InvalidStep") (mVar 2)) (mCons (mUn (dIsX V.isc V.is "InvalidTest") (mVar 2)) (mCons (mUn (dIsX V.isc V.is "InvalidThing") (mVar 2)) (mCons (mUn (dIsX V.isc V.is "InvalidSetting") (mVar 2)) (mCons (mUn (dIsX V.isc V.is "InvalidWord") (mVar 2)) (mCons (mUn (dIsX V.isc V.is "InvalidNumber") (mVar 2)) (mCons (mUn (dIsX V.isc V.is "InvalidText") (mVar 2)) (mCons (mUn (dIsX V.isc V.is "InvalidCommand") (mVar 2)) (mCons (mUn (dIsX V.isc V.is "DuplicateName") (mVar 2)) (mCons (mUn (dIsX V.isc V.is "SideTaken") (mVar 2)) (mCons (mUn (dIsX V.isc V.is "TooMany") (mVar 2)) (mCons (mUn (dIsX V.isc V.is "Full") (mVar 2)) (mCons (mUn (dIsX V.isc V.is "InvalidRow") (mVar 2)) (mCons (mUn (dIsX V.isc V.is "Torn") (mVar 2)) (mCons (mUn (dIsX V.isc V.is "OtherProgram") (mVar 2)) (mCons (mUn (dIsX V.isc V.is "Untold") (mVar 2)) (mCons (mUn (dIsX V.isc V.is "UnknownName") (mVar 2)) (mCons (mUn (dIsX V.isc V.is "UnknownColumn") (mVar 2)) (mCons (mUn (dIsX V.isc V.is "UnknownRow") (mVar 2)) (mCons (mUn (dIsX V.isc V.is "NothingLeft") (mVar 2)) mNil)))))))))))))))))))))))))))) (mRet (mOp dEqM (mVar 1) (mLc (.nm 3) (mRange1 (mC (.int 24))) mYes (mLc (.nm 4) (mRange1 (mC (.int 24))) mYes (mOp dEq (mVar 4) (mVar 3)) [4]) [3])))))
theorem ok__law_apart {P : Program} {w : World} {K : PySem.W.Frag} {mg : Str → Option Value} {base : Heap} {f : Addr} {fd : FuncData} {k : Nat} {s : MF} {V : Ev} (F : FnM K "_law_apart" "_law_apart" st__law_apart f fd) (T : Txt w K mg) (GC_NothingLeft : mg "NothingLeft" = some (.ref (V.G "NothingLeft"))) (GC_UnknownRow : mg "UnknownRow" = some (.ref (V.G "UnknownRow"))) (GC_UnknownColumn : mg "UnknownColumn" = some (.ref (V.G "UnknownColumn"))) (GC_UnknownName : mg "UnknownName" = some (.ref (V.G "UnknownName"))) (GC_Untold : mg "Untold" = some (.ref (V.G "Untold"))) (GC_OtherProgram : mg "OtherProgram" = some (.ref (V.G "OtherProgram"))) (GC_Torn : mg "Torn" = some (.ref (V.G "Torn"))) (GC_InvalidRow : mg "InvalidRow" = some (.ref (V.G "InvalidRow"))) (GC_Full : mg "Full" = some (.ref (V.G "Full"))) (GC_TooMany : mg "TooMany" = some (.ref (V.G "TooMany"))) (GC_SideTaken : mg "SideTaken" = some (.ref (V.G "SideTaken"))) (GC_DuplicateName : mg "DuplicateName" = some (.ref (V.G "DuplicateName"))) (GC_InvalidCommand : mg "InvalidCommand" = some (.ref (V.G "InvalidCommand"))) (GC_InvalidText : mg "InvalidText" = some (.ref (V.G "InvalidText"))) (GC_InvalidNumber : mg "InvalidNumber" = some (.ref (V.G "InvalidNumber"))) (GC_InvalidWord : mg "InvalidWord" = some (.ref (V.G "InvalidWord"))) (GC_InvalidSetting : mg "InvalidSetting" = some (.ref (V.G "InvalidSetting"))) (GC_InvalidThing : mg "InvalidThing" = some (.ref (V.G "InvalidThing"))) (GC_InvalidTest : mg "InvalidTest" = some (.ref (V.G "InvalidTest"))) (GC_InvalidStep : mg "InvalidStep" = some (.ref (V.G "InvalidStep"))) (GC_InvalidKey : mg "InvalidKey" = some (.ref (V.G "InvalidKey"))) (GC_InvalidSide : mg "InvalidSide" = some (.ref (V.G "InvalidSide"))) (GC_InvalidColumn : mg "InvalidColumn" = some (.ref (V.G "InvalidColumn"))) (GC_InvalidName : mg "InvalidName" = some (.ref (V.G "InvalidName"))) (EV : EvD K V)
    (len : ∀ ds M k kx, s ds M k kx → ds.length = 1) (hs : ∀ ds M k kx, s ds M k kx → b__law_apart V { nx := fun _ M' => k .non M', rt := k } (startD 5 ds) M noX) : FnOk P w K mg base CX0 (k + 1) f fd ["_law_lots"] (DL.spI K s) := by
  obtain ⟨⟩ := V
  obtain ⟨rfl, rfl, rfl, rfl⟩ := EV
  exact d_ok0 F sc__law_apart (fun cdv A outer sh H E hr => (dss_cons (ds_set (i := 1) sc__law_apart.nd rfl (Or.inl rfl) (de_lstM da_nil)) (dss_cons (ds_for PassesOwn.never rfl (di_seq (de_var 0)) (dg_nm (i := 2) sc__law_apart.nd rfl) (dss_one (ds_expr (de_append (de_var 1) (de_lst (da_cons (by exact de_isX rfl T.b_isinstance (de_var 2) rfl GC_InvalidName (by decide +kernel)) (da_cons (by exact de_isX rfl T.b_isinstance (de_var 2) rfl GC_InvalidColumn (by decide +kernel)) (da_cons (by exact de_isX rfl T.b_isinstance (de_var 2) rfl GC_InvalidSide (by decide +kernel)) (da_cons (by exact de_isX rfl T.b_isinstance (de_var 2) rfl GC_InvalidKey (by decide +kernel)) (da_cons (by exact de_isX rfl T.b_isinstance (de_var 2) rfl GC_InvalidStep (by decide +kernel)) (da_cons (by exact de_isX rfl T.b_isinstance (de_var 2) rfl GC_InvalidTest (by decide +kernel)) (da_cons (by exact de_isX rfl T.b_isinstance (de_var 2) rfl GC_InvalidThing (by decide +kernel)) (da_cons (by exact de_isX rfl T.b_isinstance (de_var 2) rfl GC_InvalidSetting (by decide +kernel)) (da_cons (by exact de_isX rfl T.b_isinstance (de_var 2) rfl GC_InvalidWord (by decide +kernel)) (da_cons (by exact de_isX rfl T.b_isinstance (de_var 2) rfl GC_InvalidNumber (by decide +kernel)) (da_cons (by exact de_isX rfl T.b_isinstance (de_var 2) rfl GC_InvalidText (by decide +kernel)) (da_cons (by exact de_isX rfl T.b_isinstance (de_var 2) rfl GC_InvalidCommand (by decide +kernel)) (da_cons (by exact de_isX rfl T.b_isinstance (de_var 2) rfl GC_DuplicateName (by decide +kernel)) (da_cons (by exact de_isX rfl T.b_isinstance (de_var 2) rfl GC_SideTaken (by decide +kernel)) (da_cons (by exact de_isX rfl T.b_isinstance (de_var 2) rfl GC_TooMany (by decide +kernel)) (da_cons (by exact de_isX rfl T.b_isinstance (de_var 2) rfl GC_Full (by decide +kernel)) (da_cons (by exact de_isX rfl T.b_isinstance (de_var 2) rfl GC_InvalidRow (by decide +kernel)) (da_cons (by exact de_isX rfl T.b_isinstance (de_var 2) rfl GC_Torn (by decide +kernel)) (da_cons (by exact de_isX rfl T.b_isinstance (de_var 2) rfl GC_OtherProgram (by decide +kernel)) (da_cons (by exact de_isX rfl T.b_isinstance (de_var 2) rfl GC_Untold (by decide +kernel)) (da_cons (by exact de_isX rfl T.b_isinstance (de_var 2) rfl GC_UnknownName (by decide +kernel)) (da_cons (by exact de_isX rfl T.b_isinstance (de_var 2) rfl GC_UnknownColumn (by decide +kernel)) (da_cons (by exact de_isX rfl T.b_isinstance (de_var 2) rfl GC_UnknownRow (by decide +kernel)) (da_cons (by exact de_isX rfl T.b_isinstance (de_var 2) rfl GC_NothingLeft (by decide +kernel)) da_nil))))))))))))))))))))))))))))) (dss_one (ds_ret (de_cmp (do_eqM hr.units) (de_var 1) (de_lc (E' := E0) rfl sc__law_apart.nd (di_range1 rfl T.b_range de_int) (blkOk_by (own := [("_law_at", 3)]) (N := N__law_apart) (sc := defScope st__law_apart) (by decide +kernel)) (by decide +kernel) (fun _ _ _ _ _ => (dg_nm (i := 3) sc__law_apart.nd rfl)) (fun _ _ _ _ _ => dts_nil) (fun _ _ _ _ _ => (de_lc (E' := E0) rfl sc__law_apart.nd (di_range1 rfl T.b_range de_int) (blkOk_by (own := [("_law_k", 4)]) (N := N__law_apart) (sc := { kind := .function, names := [(".0", .local), ("_law_at", .cell), ("range", .globalImplicit)], isGenerator := false, isCoroutine := false }) (by decide +kernel)) (by decide +kernel) (fun _ _ _ _ _ => (dg_nm (i := 4) sc__law_apart.nd rfl)) (fun _ _ _ _ _ => dts_nil) (fun _ _ _ _ _ => (de_cmp (do_eq hr.units) (de_var 4) (de_var 3) (nomark _)))))) (nomark _))))))) len hs
/-! law -/
abbrev N_law : List Str := ["_law_script", "_law_box_here", "_law_turn", "_law_a", "_law_b", "_law_lots", "_law_names", "_law_one", "_law_name", "_law_two", "_law_gone", "_law_left"]
theorem sc_law : FnScope N_law ["_law_script"] (defScope st_law) := ⟨rfl, rfl, rfl, by decide +kernel, rfl, by decide +kernel, by decide +kernel⟩
def b_law_1 (V : Ev) : MS := (mAsg (mTup (mCons (mCall CM.sOdd (mCons (mVar 1) (mCons (mLst (mCons (mC (.str "x")) mNil)) mNil))) (mCons (mCall CM.sOdd (mCons (mVar 1) (mCons (mLst (mCons (mC (.str "y")) (mCons (mC (.int 5)) mNil))) mNil))) mNil))) (.tp [(.nm 3), (.nm 4)]))  -- line 198
def b_law_2 (V : Ev) : MS := (mAsg (mLst (mCons (mMkX (V.G "InvalidName") 1 (fs1D "given" "InvalidName") (mCons (mVar 3) mNil)) (mCons (mMkX (V.G "InvalidColumn") 1 (fs1D "at" "InvalidColumn") (mCons (mVar 3) mNil)) (mCons (mMkX (V.G "InvalidSide") 1 (fs1D "at" "InvalidSide") (mCons (mVar 3) mNil)) (mCons (mMkX (V.G "InvalidKey") 1 (fs1D "given" "InvalidKey") (mCons (mVar 3) mNil)) (mCons (mMkX (V.G "InvalidStep") 1 (fs1D "at" "InvalidStep") (mCons (mVar 3) mNil)) (mCons (mMkX (V.G "InvalidTest") 1 (fs1D "given" "InvalidTest") (mCons (mVar 3) mNil)) (mCons (mMkX (V.G "InvalidThing") 1 (fs1D "given" "InvalidThing") (mCons (mVar 3) mNil)) (mCons (mMkX (V.G "InvalidSetting") 1 (fs1D "given" "InvalidSetting") (mCons (mVar 3) mNil)) (mCons (mMkX (V.G "InvalidWord") 1 (fs1D "given" "InvalidWord") (mCons (mVar 3) mNil)) (mCons (mMkX (V.G "InvalidNumber") 1 (fs1D "given" "InvalidNumber") (mCons (mVar 3) mNil)) (mCons (mMkX (V.G "InvalidText") 1 (fs1D "line" "InvalidText") (mCons (mVar 3) mNil)) (mCons (mMkX (V.G "InvalidCommand") 1 (fs1D "at" "InvalidCommand") (mCons (mVar 3) mNil)) (mCons (mMkX (V.G "DuplicateName") 1 (fs1D "name" "DuplicateName") (mCons (mVar 3) mNil)) (mCons (mMkX (V.G "SideTaken") 1 (fs1D "taken" "SideTaken") (mCons (mVar 3) mNil)) (mCons (mMkX (V.G "TooMany") 1 (fs1D "most" "TooMany") (mCons (mVar 3) mNil)) (mCons (mMkX (V.G "Full") 1 (fs1D "most" "Full") (mCons (mVar 3) mNil)) mNil))))))))))))))))) (.nm 5))  -- line 199
def b_law_3 (V : Ev) : MS := (mAsg (mLst (mCons (mC (.str "InvalidName")) (mCons (mC (.str "InvalidColumn")) (mCons (mC (.str "InvalidSide")) (mCons (mC (.str "InvalidKey")) (mCons (mC (.str "InvalidStep")) (mCons (mC (.str "InvalidTest")) (mCons (mC (.str "InvalidThing")) (mCons (mC (.str "InvalidSetting")) (mCons (mC (.str "InvalidWord")) (mCons (mC (.str "InvalidNumber")) (mCons (mC (.str "InvalidText")) (mCons (mC (.str "InvalidCommand")) (mCons (mC (.str "DuplicateName")) (mCons (mC (.str "SideTaken")) (mCons (mC (.str "TooMany")) (mCons (mC (.str "Full")) mNil))))))))))))))))) (.nm 6))  -- line 200
def b_law_4 (V : Ev) : MS := (mIfS (mNot (mTest (mCall (CM.sSame 5) (mCons (mLc (.nm 7) (mSeqI (mVar 5)) mYes (mLst (mCons (mFldX V.isc "code" (mVar 7)) (mCons (mCall (sFieldX V.isc) (mCons (mVar 7) mNil)) mNil))) [7]) (mCons (mLc (.nm 8) (mSeqI (mVar 6)) mYes (mLst (mCons (mVar 8) (mCons (mVar 3) mNil))) [8]) mNil))))) (mRet (mC (.bl false))) mNext)  -- line 201
def b_law_5 (V : Ev) : MS := (mAsg (mLst (mCons (mMkX (V.G "InvalidRow") 2 (fs2D "table" "at" "InvalidRow") (mCons (mVar 3) (mCons (mVar 4) mNil))) (mCons (mMkX (V.G "Torn") 2 (fs2D "one" "other" "Torn") (mCons (mVar 3) (mCons (mVar 4) mNil))) (mCons (mMkX (V.G "OtherProgram") 0 (fs0D "OtherProgram") mNil) (mCons (mMkX (V.G "Untold") 0 (fs0D "Untold") mNil) mNil))))) (.nm 9))  -- line 203
def b_law_6 (V : Ev) : MS := (mIfS (mNot (mTest (mCall (CM.sSame 5) (mCons (mLc (.nm 7) (mSeqI (mVar 9)) mYes (mLst (mCons (mFldX V.isc "code" (mVar 7)) (mCons (mCall (sFieldX V.isc) (mCons (mVar 7) mNil)) mNil))) [7]) (mCons (mLst (mCons (mLst (mCons (mC (.str "InvalidRow")) (mCons (mTup (mCons (mVar 3) (mCons (mVar 4) mNil))) mNil))) (mCons (mLst (mCons (mC (.str "Torn")) (mCons (mTup (mCons (mVar 3) (mCons (mVar 4) mNil))) mNil))) (mCons (mLst (mCons (mC (.str "OtherProgram")) (mCons (mC .non) mNil))) (mCons (mLst (mCons (mC (.str "Untold")) (mCons (mC .non) mNil))) mNil))))) mNil))))) (mRet (mC (.bl false))) mNext)  -- line 204
def b_law_7 (V : Ev) : MS := (mIfS (mNot (mTest (mCB cAll (mCons (mLc (.nm 7) (mSeqI (mOp dAdd (mVar 5) (mVar 9))) mYes (mOp dEq (mCall (sBases V) (mCons (mVar 7) mNil)) (mLst (mCons (mC (.bl true)) (mCons (mC (.bl true)) (mCons (mC (.bl false)) (mCons (mC (.bl false)) (mCons (mC (.bl false)) mNil))))))) [7]) mNil)))) (mRet (mC (.bl false))) mNext)  -- line 206
def b_law_8 (V : Ev) : MS := (mAsg (mLst (mCons (mMkX (V.G "UnknownName") 1 (fs1D "name" "UnknownName") (mCons (mVar 3) mNil)) (mCons (mMkX (V.G "UnknownColumn") 1 (fs1D "name" "UnknownColumn") (mCons (mVar 3) mNil)) (mCons (mMkX (V.G "UnknownRow") 1 (fs1D "number" "UnknownRow") (mCons (mVar 3) mNil)) mNil)))) (.nm 10))  -- line 208
def b_law_9 (V : Ev) : MS := (mIfS (mNot (mTest (mCall (CM.sSame 5) (mCons (mLc (.nm 7) (mSeqI (mVar 10)) mYes (mLst (mCons (mFldX V.isc "code" (mVar 7)) (mCons (mCall (sFieldX V.isc) (mCons (mVar 7) mNil)) mNil))) [7]) (mCons (mLc (.nm 8) (mSeqI (mLst (mCons (mC (.str "UnknownName")) (mCons (mC (.str "UnknownColumn")) (mCons (mC (.str "UnknownRow")) mNil))))) mYes (mLst (mCons (mVar 8) (mCons (mVar 3) mNil))) [8]) mNil))))) (mRet (mC (.bl false))) mNext)  -- line 209
def b_law_10 (V : Ev) : MS := (mIfS (mNot (mTest (mCB cAll (mCons (mLc (.nm 7) (mSeqI (mVar 10)) mYes (mOp dEq (mCall (sBases V) (mCons (mVar 7) mNil)) (mLst (mCons (mC (.bl false)) (mCons (mC (.bl false)) (mCons (mC (.bl true)) (mCons (mC (.bl true)) (mCons (mC (.bl false)) mNil))))))) [7]) mNil)))) (mRet (mC (.bl false))) mNext)  -- line 211
def b_law_11 (V : Ev) : MS := (mAsg (mMkX (V.G "NothingLeft") 0 (fs0D "NothingLeft") mNil) (.nm 11))  -- line 213
def b_law_12 (V : Ev) : MS := (mIfS (mOr (mTest (mOp dNe (mFldX V.isc "code" (mVar 11)) (mC (.str "NothingLeft")))) (mTest (mOp dNe (mCall (sBases V) (mCons (mVar 11) mNil)) (mLst (mCons (mC (.bl false)) (mCons (mC (.bl false)) (mCons (mC (.bl false)) (mCons (mC (.bl true)) (mCons (mC (.bl true)) mNil))))))))) (mRet (mC (.bl false))) mNext)  -- line 214
def b_law_13 (V : Ev) : MS := (mIfS (mNot (mTest (mCall (sApart V) (mCons (mOp dAdd (mOp dAdd (mOp dAdd (mVar 5) (mVar 9)) (mVar 10)) (mLst (mCons (mVar 11) mNil))) mNil)))) (mRet (mC (.bl false))) mNext)  -- line 216
def b_law_14 (V : Ev) : MS := (mAsg (mCall sBox (mCons (mVar 0) mNil)) (.nm 1))  -- line 196
def b_law_15 (V : Ev) : MS := (mFor (.nm 2) (mRange1 (mC (.int 3))) (mSeq (b_law_1 V) (mSeq (b_law_2 V) (mSeq (b_law_3 V) (mSeq (b_law_4 V) (mSeq (b_law_5 V) (mSeq (b_law_6 V) (mSeq (b_law_7 V) (mSeq (b_law_8 V) (mSeq (b_law_9 V) (mSeq (b_law_10 V) (mSeq (b_law_11 V) (mSeq (b_law_12 V) (b_law_13 V))))))))))))))  -- line 197
def b_law_16 (V : Ev) : MS := (mRet (mC (.bl true)))  -- line 218
def b_law (V : Ev) : MS := (mSeq (b_law_14 V) (mSeq (b_law_15 V) (b_law_16 V)))
theorem ok_law {P : Program} {w : World} {K : PySem.W.Frag} {mg : Str → Option Value} {base : Heap} {f : Addr} {fd : FuncData} {k : Nat} {s : MF} {f__law_box : Addr} {fd__law_box : FuncData} {k__law_box : Nat} {f__law_odd : Addr} {fd__law_odd : FuncData} {k__law_odd : Nat} {f__law_same : Addr} {fd__law_same : FuncData} {k__law_same : Nat} {f__law_field : Addr} {fd__law_field : FuncData} {k__law_field : Nat} {f__law_bases : Addr} {fd__law_bases : FuncData} {k__law_bases : Nat} {f__law_apart : Addr} {fd__law_apart : FuncData} {k__law_apart : Nat} {k_Full : Nat} {k_TooMany : Nat} {k_SideTaken : Nat} {k_DuplicateName : Nat} {k_InvalidCommand : Nat} {k_InvalidText : Nat} {k_InvalidNumber : Nat} {k_InvalidWord : Nat} {k_InvalidSetting : Nat} {k_InvalidThing : Nat} {k_InvalidTest : Nat} {k_InvalidStep : Nat} {k_InvalidKey : Nat} {k_InvalidSide : Nat} {k_InvalidColumn : Nat} {k_InvalidName : Nat} {k_Untold : Nat} {k_OtherProgram : Nat} {k_Torn : Nat} {k_InvalidRow : Nat} {k_UnknownRow : Nat} {k_UnknownColumn : Nat} {k_UnknownName : Nat} {k_NothingLeft : Nat} {V : Ev} (F : FnM K "law" "law" st_law f fd) (T : Txt w K mg) (D__law_box : Df P w K mg base CX0 k__law_box f__law_box fd__law_box "_law_box" ["_law_script"] sBox) (hk__law_box : k__law_box ≤ k) (D__law_odd : Df P w K mg base CX0 k__law_odd f__law_odd fd__law_odd "_law_odd" ["_law_box_here", "_law_more"] CM.sOdd) (hk__law_odd : k__law_odd ≤ k) (D__law_same : Df P w K mg base CX0 k__law_same f__law_same fd__law_same "_law_same" ["_law_found", "_law_due"] (CM.sSame 5)) (hk__law_same : k__law_same ≤ k) (D__law_field : Df P w K mg base CX0 k__law_field f__law_field fd__law_field "_law_field" ["_law_e"] (sFieldX V.isc)) (hk__law_field : k__law_field ≤ k) (D__law_bases : Df P w K mg base CX0 k__law_bases f__law_bases fd__law_bases "_law_bases" ["_law_e"] (sBases V)) (hk__law_bases : k__law_bases ≤ k) (D__law_apart : Df P w K mg base CX0 k__law_apart f__law_apart fd__law_apart "_law_apart" ["_law_lots"] (sApart V)) (hk__law_apart : k__law_apart ≤ k) (R_Full : ErD P w K mg base k_Full "Full" 1 (fs1D "most" "Full")) (hk_Full : k_Full + 1 ≤ k) (R_TooMany : ErD P w K mg base k_TooMany "TooMany" 1 (fs1D "most" "TooMany")) (hk_TooMany : k_TooMany + 1 ≤ k) (R_SideTaken : ErD P w K mg base k_SideTaken "SideTaken" 1 (fs1D "taken" "SideTaken")) (hk_SideTaken : k_SideTaken + 1 ≤ k) (R_DuplicateName : ErD P w K mg base k_DuplicateName "DuplicateName" 1 (fs1D "name" "DuplicateName")) (hk_DuplicateName : k_DuplicateName + 1 ≤ k) (R_InvalidCommand : ErD P w K mg base k_InvalidCommand "InvalidCommand" 1 (fs1D "at" "InvalidCommand")) (hk_InvalidCommand : k_InvalidCommand + 1 ≤ k) (R_InvalidText : ErD P w K mg base k_InvalidText "InvalidText" 1 (fs1D "line" "InvalidText")) (hk_InvalidText : k_InvalidText + 1 ≤ k) (R_InvalidNumber : ErD P w K mg base k_InvalidNumber "InvalidNumber" 1 (fs1D "given" "InvalidNumber")) (hk_InvalidNumber : k_InvalidNumber + 1 ≤ k) (R_InvalidWord : ErD P w K mg base k_InvalidWord "InvalidWord" 1 (fs1D "given" "InvalidWord")) (hk_InvalidWord : k_InvalidWord + 1 ≤ k) (R_InvalidSetting : ErD P w K mg base k_InvalidSetting "InvalidSetting" 1 (fs1D "given" "InvalidSetting")) (hk_InvalidSetting : k_InvalidSetting + 1 ≤ k) (R_InvalidThing : ErD P w K mg base k_InvalidThing "InvalidThing" 1 (fs1D "given" "InvalidThing")) (hk_InvalidThing : k_InvalidThing + 1 ≤ k) (R_InvalidTest : ErD P w K mg base k_InvalidTest "InvalidTest" 1 (fs1D "given" "InvalidTest")) (hk_InvalidTest : k_InvalidTest + 1 ≤ k) (R_InvalidStep : ErD P w K mg base k_InvalidStep "InvalidStep" 1 (fs1D "at" "InvalidStep")) (hk_InvalidStep : k_InvalidStep + 1 ≤ k) (R_InvalidKey : ErD P w K mg base k_InvalidKey "InvalidKey" 1 (fs1D "given" "InvalidKey")) (hk_InvalidKey : k_InvalidKey + 1 ≤ k) (R_InvalidSide : ErD P w K mg base k_InvalidSide "InvalidSide" 1 (fs1D "at" "InvalidSide")) (hk_InvalidSide : k_InvalidSide + 1 ≤ k) (R_InvalidColumn : ErD P w K mg base k_InvalidColumn "InvalidColumn" 1 (fs1D "at" "InvalidColumn")) (hk_InvalidColumn : k_InvalidColumn + 1 ≤ k) (R_InvalidName : ErD P w K mg base k_InvalidName "InvalidName" 1 (fs1D "given" "InvalidName")) (hk_InvalidName : k_InvalidName + 1 ≤ k) (R_Untold : ErD P w K mg base k_Untold "Untold" 0 (fs0D "Untold")) (hk_Untold : k_Untold + 1 ≤ k) (R_OtherProgram : ErD P w K mg base k_OtherProgram "OtherProgram" 0 (fs0D "OtherProgram")) (hk_OtherProgram : k_OtherProgram + 1 ≤ k) (R_Torn : ErD P w K mg base k_Torn "Torn" 2 (fs2D "one" "other" "Torn")) (hk_Torn : k_Torn + 1 ≤ k) (R_InvalidRow : ErD P w K mg base k_InvalidRow "InvalidRow" 2 (fs2D "table" "at" "InvalidRow")) (hk_InvalidRow : k_InvalidRow + 1 ≤ k) (R_UnknownRow : ErD P w K mg base k_UnknownRow "UnknownRow" 1 (fs1D "number" "UnknownRow")) (hk_UnknownRow : k_UnknownRow + 1 ≤ k) (R_UnknownColumn : ErD P w K mg base k_UnknownColumn "UnknownColumn" 1 (fs1D "name" "UnknownColumn")) (hk_UnknownColumn : k_UnknownColumn + 1 ≤ k) (R_UnknownName : ErD P w K mg base k_UnknownName "UnknownName" 1 (fs1D "name" "UnknownName")) (hk_UnknownName : k_UnknownName + 1 ≤ k) (R_NothingLeft : ErD P w K mg base k_NothingLeft "NothingLeft" 0 (fs0D "NothingLeft")) (hk_NothingLeft : k_NothingLeft + 1 ≤ k) (S__law_box_1 : Binds K fd__law_box ["_law_script"] []) (S__law_odd_2 : Binds K fd__law_odd ["_law_box_here", "_law_more"] []) (S__law_field_1 : Binds K fd__law_field ["_law_e"] []) (S__law_same_2 : Binds K fd__law_same ["_law_found", "_law_due"] []) (S__law_bases_1 : Binds K fd__law_bases ["_law_e"] []) (S__law_apart_1 : Binds K fd__law_apart ["_law_lots"] []) (EV : EvD K V)
    (len : ∀ ds M k kx, s ds M k kx → ds.length = 1) (hs : ∀ ds M k kx, s ds M k kx → b_law V { nx := fun _ M' => k .non M', rt := k } (startD 12 ds) M noX) : FnOk P w K mg base CX0 (k + 1) f fd ["_law_script"] (DL.spI K s) := by
  obtain ⟨⟩ := V
  obtain ⟨rfl, rfl, rfl, rfl⟩ := EV
  exact d_ok0 F sc_law (fun cdv A outer sh H E hr => (dss_cons (ds_set (i := 1) sc_law.nd rfl (Or.inl rfl) (de_callD D__law_box (hr.mono hk__law_box) rfl S__law_box_1 passN (da_cons (de_var 0) da_nil))) (dss_cons (ds_for PassesOwn.never rfl (di_range1 rfl T.b_range de_int) (dg_nm (i := 2) sc_law.nd rfl) (dss_cons (ds_asg (de_tup (da_cons (de_callD D__law_odd (hr.mono hk__law_odd) rfl S__law_odd_2 passN (da_cons (de_var 1) (da_cons (de_lst (da_cons de_str da_nil)) da_nil))) (da_cons (de_callD D__law_odd (hr.mono hk__law_odd) rfl S__law_odd_2 passN (da_cons (de_var 1) (da_cons (de_lst (da_cons de_str (da_cons de_int da_nil))) da_nil))) da_nil))) (dg_tp rfl rfl (dgs_cons (dg_nm (i := 3) sc_law.nd rfl) (dgs_cons (dg_nm (i := 4) sc_law.nd rfl) dgs_nil)))) (dss_cons (ds_set (i := 5) sc_law.nd rfl (Or.inl rfl) (de_lst (da_cons (by exact de_mkx R_InvalidName (hr.mono hk_InvalidName) rfl (da_cons (de_var 3) da_nil)) (da_cons (by exact de_mkx R_InvalidColumn (hr.mono hk_InvalidColumn) rfl (da_cons (de_var 3) da_nil)) (da_cons (by exact de_mkx R_InvalidSide (hr.mono hk_InvalidSide) rfl (da_cons (de_var 3) da_nil)) (da_cons (by exact de_mkx R_InvalidKey (hr.mono hk_InvalidKey) rfl (da_cons (de_var 3) da_nil)) (da_cons (by exact de_mkx R_InvalidStep (hr.mono hk_InvalidStep) rfl (da_cons (de_var 3) da_nil)) (da_cons (by exact de_mkx R_InvalidTest (hr.mono hk_InvalidTest) rfl (da_cons (de_var 3) da_nil)) (da_cons (by exact de_mkx R_InvalidThing (hr.mono hk_InvalidThing) rfl (da_cons (de_var 3) da_nil)) (da_cons (by exact de_mkx R_InvalidSetting (hr.mono hk_InvalidSetting) rfl (da_cons (de_var 3) da_nil)) (da_cons (by exact de_mkx R_InvalidWord (hr.mono hk_InvalidWord) rfl (da_cons (de_var 3) da_nil)) (da_cons (by exact de_mkx R_InvalidNumber (hr.mono hk_InvalidNumber) rfl (da_cons (de_var 3) da_nil)) (da_cons (by exact de_mkx R_InvalidText (hr.mono hk_InvalidText) rfl (da_cons (de_var 3) da_nil)) (da_cons (by exact de_mkx R_InvalidCommand (hr.mono hk_InvalidCommand) rfl (da_cons (de_var 3) da_nil)) (da_cons (by exact de_mkx R_DuplicateName (hr.mono hk_DuplicateName) rfl (da_cons (de_var 3) da_nil)) (da_cons (by exact de_mkx R_SideTaken (hr.mono hk_SideTaken) rfl (da_cons (de_var 3) da_nil)) (da_cons (by exact de_mkx R_TooMany (hr.mono hk_TooMany) rfl (da_cons (de_var 3) da_nil)) (da_cons (by exact de_mkx R_Full (hr.mono hk_Full) rfl (da_cons (de_var 3) da_nil)) da_nil)))))))))))))))))) (dss_cons (ds_set (i := 6) sc_law.nd rfl (Or.inl rfl) (de_lst (da_cons de_str (da_cons de_str (da_cons de_str (da_cons de_str (da_cons de_str (da_cons de_str (da_cons de_str (da_cons de_str (da_cons de_str (da_cons de_str (da_cons de_str (da_cons de_str (da_cons de_str (da_cons de_str (da_cons de_str (da_cons de_str da_nil)))))))))))))))))) (dss_cons (ds_if (dt_not (dt_val (de_callD D__law_same (hr.mono hk__law_same) rfl S__law_same_2 passN (da_cons (de_lc (E' := E0) rfl sc_law.nd (di_seq (de_var 5)) (blkOk_by (own := [("_law_one", 7)]) (N := N_law) (sc := defScope st_law) (by decide +kernel)) (by decide +kernel) (fun _ _ _ _ _ => (dg_nm (i := 7) sc_law.nd rfl)) (fun _ _ _ _ _ => dts_nil) (fun _ _ _ _ _ => (de_lst (da_cons (de_fldX (n := "code") (by decide) (de_var 7)) (da_cons (de_callD D__law_field (hr.mono hk__law_field) rfl S__law_field_1 passN (da_cons (de_var 7) da_nil)) da_nil))))) (da_cons (de_lc (E' := E0) rfl sc_law.nd (di_seq (de_var 6)) (blkOk_by (own := [("_law_name", 8)]) (N := N_law) (sc := defScope st_law) (by decide +kernel)) (by decide +kernel) (fun _ _ _ _ _ => (dg_nm (i := 8) sc_law.nd rfl)) (fun _ _ _ _ _ => dts_nil) (fun _ _ _ _ _ => (de_lst (da_cons (de_var 8) (da_cons (de_var 3) da_nil))))) da_nil))))) (dss_one (ds_ret de_bl)) dss_nil) (dss_cons (ds_set (i := 9) sc_law.nd rfl (Or.inl rfl) (de_lst (da_cons (by exact de_mkx R_InvalidRow (hr.mono hk_InvalidRow) rfl (da_cons (de_var 3) (da_cons (de_var 4) da_nil))) (da_cons (by exact de_mkx R_Torn (hr.mono hk_Torn) rfl (da_cons (de_var 3) (da_cons (de_var 4) da_nil))) (da_cons (by exact de_mkx0 R_OtherProgram (hr.mono hk_OtherProgram) rfl) (da_cons (by exact de_mkx0 R_Untold (hr.mono hk_Untold) rfl) da_nil)))))) (dss_cons (ds_if (dt_not (dt_val (de_callD D__law_same (hr.mono hk__law_same) rfl S__law_same_2 passN (da_cons (de_lc (E' := E0) rfl sc_law.nd (di_seq (de_var 9)) (blkOk_by (own := [("_law_one", 7)]) (N := N_law) (sc := defScope st_law) (by decide +kernel)) (by decide +kernel) (fun _ _ _ _ _ => (dg_nm (i := 7) sc_law.nd rfl)) (fun _ _ _ _ _ => dts_nil) (fun _ _ _ _ _ => (de_lst (da_cons (de_fldX (n := "code") (by decide) (de_var 7)) (da_cons (de_callD D__law_field (hr.mono hk__law_field) rfl S__law_field_1 passN (da_cons (de_var 7) da_nil)) da_nil))))) (da_cons (de_lst (da_cons (de_lst (da_cons de_str (da_cons (de_tup (da_cons (de_var 3) (da_cons (de_var 4) da_nil))) da_nil))) (da_cons (de_lst (da_cons de_str (da_cons (de_tup (da_cons (de_var 3) (da_cons (de_var 4) da_nil))) da_nil))) (da_cons (de_lst (da_cons de_str (da_cons de_non da_nil))) (da_cons (de_lst (da_cons de_str (da_cons de_non da_nil))) da_nil))))) da_nil))))) (dss_one (ds_ret de_bl)) dss_nil) (dss_cons (ds_if (dt_not (dt_val (de_callB (dc_all rfl) rfl T.b_all bb_all (da_cons (de_lc (E' := E0) rfl sc_law.nd (di_seq (de_op do_add (de_var 5) (de_var 9))) (blkOk_by (own := [("_law_one", 7)]) (N := N_law) (sc := defScope st_law) (by decide +kernel)) (by decide +kernel) (fun _ _ _ _ _ => (dg_nm (i := 7) sc_law.nd rfl)) (fun _ _ _ _ _ => dts_nil) (fun _ _ _ _ _ => (de_cmp (do_eq hr.units) (de_callD D__law_bases (hr.mono hk__law_bases) rfl S__law_bases_1 passN (da_cons (de_var 7) da_nil)) (de_lst (da_cons de_bl (da_cons de_bl (da_cons de_bl (da_cons de_bl (da_cons de_bl da_nil)))))) (nomark _)))) da_nil)))) (dss_one (ds_ret de_bl)) dss_nil) (dss_cons (ds_set (i := 10) sc_law.nd rfl (Or.inl rfl) (de_lst (da_cons (by exact de_mkx R_UnknownName (hr.mono hk_UnknownName) rfl (da_cons (de_var 3) da_nil)) (da_cons (by exact de_mkx R_UnknownColumn (hr.mono hk_UnknownColumn) rfl (da_cons (de_var 3) da_nil)) (da_cons (by exact de_mkx R_UnknownRow (hr.mono hk_UnknownRow) rfl (da_cons (de_var 3) da_nil)) da_nil))))) (dss_cons (ds_if (dt_not (dt_val (de_callD D__law_same (hr.mono hk__law_same) rfl S__law_same_2 passN (da_cons (de_lc (E' := E0) rfl sc_law.nd (di_seq (de_var 10)) (blkOk_by (own := [("_law_one", 7)]) (N := N_law) (sc := defScope st_law) (by decide +kernel)) (by decide +kernel) (fun _ _ _ _ _ => (dg_nm (i := 7) sc_law.nd rfl)) (fun _ _ _ _ _ => dts_nil) (fun _ _ _ _ _ => (de_lst (da_cons (de_fldX (n := "code") (by decide) (de_var 7)) (da_cons (de_callD D__law_field (hr.mono hk__law_field) rfl S__law_field_1 passN (da_cons (de_var 7) da_nil)) da_nil))))) (da_cons (de_lc (E' := E0) rfl sc_law.nd (di_seq (de_lst (da_cons de_str (da_cons de_str (da_cons de_str da_nil))))) (blkOk_by (own := [("_law_name", 8)]) (N := N_law) (sc := defScope st_law) (by decide +kernel)) (by decide +kernel) (fun _ _ _ _ _ => (dg_nm (i := 8) sc_law.nd rfl)) (fun _ _ _ _ _ => dts_nil) (fun _ _ _ _ _ => (de_lst (da_cons (de_var 8) (da_cons (de_var 3) da_nil))))) da_nil))))) (dss_one (ds_ret de_bl)) dss_nil) (dss_cons (ds_if (dt_not (dt_val (de_callB (dc_all rfl) rfl T.b_all bb_all (da_cons (de_lc (E' := E0) rfl sc_law.nd (di_seq (de_var 10)) (blkOk_by (own := [("_law_one", 7)]) (N := N_law) (sc := defScope st_law) (by decide +kernel)) (by decide +kernel) (fun _ _ _ _ _ => (dg_nm (i := 7) sc_law.nd rfl)) (fun _ _ _ _ _ => dts_nil) (fun _ _ _ _ _ => (de_cmp (do_eq hr.units) (de_callD D__law_bases (hr.mono hk__law_bases) rfl S__law_bases_1 passN (da_cons (de_var 7) da_nil)) (de_lst (da_cons de_bl (da_cons de_bl (da_cons de_bl (da_cons de_bl (da_cons de_bl da_nil)))))) (nomark _)))) da_nil)))) (dss_one (ds_ret de_bl)) dss_nil) (dss_cons (ds_set (i := 11) sc_law.nd rfl (Or.inl rfl) (by exact de_mkx0 R_NothingLeft (hr.mono hk_NothingLeft) rfl)) (dss_cons (ds_if (PW.pt (dw_or (dt_cmp (do_ne hr.units) (de_fldX (n := "code") (by decide) (de_var 11)) de_str (nomark _)) (dw_or1 (dt_cmp (do_ne hr.units) (de_callD D__law_bases (hr.mono hk__law_bases) rfl S__law_bases_1 passN (da_cons (de_var 11) da_nil)) (de_lst (da_cons de_bl (da_cons de_bl (da_cons de_bl (da_cons de_bl (da_cons de_bl da_nil)))))) (nomark _))))) (dss_one (ds_ret de_bl)) dss_nil) (dss_one (ds_if (dt_not (dt_val (de_callD D__law_apart (hr.mono hk__law_apart) rfl S__law_apart_1 passN (da_cons (de_op do_add (de_op do_add (de_op do_add (de_var 5) (de_var 9)) (de_var 10)) (de_lst (da_cons (de_var 11) da_nil))) da_nil)))) (dss_one (ds_ret de_bl)) dss_nil))))))))))))))) (dss_one (ds_ret de_bl))))) len hs
abbrev hP : Program := PySem.Challenge.pw_bothlots_k64_errors_and_classes
abbrev hF : Str := hP.main.file
def i_LotsError : DX.IDef := ⟨"LotsError", "LotsError.__init__", defArgs (DX.cInit (top 1)), defBody (DX.cInit (top 1)), defScope (DX.cInit (top 1))⟩
def i_Missing : DX.IDef := ⟨"Missing", "Missing.__init__", defArgs (DX.cInit (top 2)), defBody (DX.cInit (top 2)), defScope (DX.cInit (top 2))⟩
def i_Full : DX.IDef := ⟨"Full", "Full.__init__", defArgs (DX.cInit (top 21)), defBody (DX.cInit (top 21)), defScope (DX.cInit (top 21))⟩
def i_TooMany : DX.IDef := ⟨"TooMany", "TooMany.__init__", defArgs (DX.cInit (top 20)), defBody (DX.cInit (top 20)), defScope (DX.cInit (top 20))⟩
def i_SideTaken : DX.IDef := ⟨"SideTaken", "SideTaken.__init__", defArgs (DX.cInit (top 18)), defBody (DX.cInit (top 18)), defScope (DX.cInit (top 18))⟩
def i_DuplicateName : DX.IDef := ⟨"DuplicateName", "DuplicateName.__init__", defArgs (DX.cInit (top 16)), defBody (DX.cInit (top 16)), defScope (DX.cInit (top 16))⟩
def i_InvalidCommand : DX.IDef := ⟨"InvalidCommand", "InvalidCommand.__init__", defArgs (DX.cInit (top 15)), defBody (DX.cInit (top 15)), defScope (DX.cInit (top 15))⟩
def i_InvalidText : DX.IDef := ⟨"InvalidText", "InvalidText.__init__", defArgs (DX.cInit (top 14)), defBody (DX.cInit (top 14)), defScope (DX.cInit (top 14))⟩
def i_InvalidNumber : DX.IDef := ⟨"InvalidNumber", "InvalidNumber.__init__", defArgs (DX.cInit (top 13)), defBody (DX.cInit (top 13)), defScope (DX.cInit (top 13))⟩
def i_InvalidWord : DX.IDef := ⟨"InvalidWord", "InvalidWord.__init__", defArgs (DX.cInit (top 12)), defBody (DX.cInit (top 12)), defScope (DX.cInit (top 12))⟩
def i_InvalidSetting : DX.IDef := ⟨"InvalidSetting", "InvalidSetting.__init__", defArgs (DX.cInit (top 11)), defBody (DX.cInit (top 11)), defScope (DX.cInit (top 11))⟩
def i_InvalidThing : DX.IDef := ⟨"InvalidThing", "InvalidThing.__init__", defArgs (DX.cInit (top 9)), defBody (DX.cInit (top 9)), defScope (DX.cInit (top 9))⟩
def i_InvalidTest : DX.IDef := ⟨"InvalidTest", "InvalidTest.__init__", defArgs (DX.cInit (top 8)), defBody (DX.cInit (top 8)), defScope (DX.cInit (top 8))⟩
def i_InvalidStep : DX.IDef := ⟨"InvalidStep", "InvalidStep.__init__", defArgs (DX.cInit (top 7)), defBody (DX.cInit (top 7)), defScope (DX.cInit (top 7))⟩
def i_InvalidKey : DX.IDef := ⟨"InvalidKey", "InvalidKey.__init__", defArgs (DX.cInit (top 6)), defBody (DX.cInit (top 6)), defScope (DX.cInit (top 6))⟩
def i_InvalidSide : DX.IDef := ⟨"InvalidSide", "InvalidSide.__init__", defArgs (DX.cInit (top 5)), defBody (DX.cInit (top 5)), defScope (DX.cInit (top 5))⟩
def i_InvalidColumn : DX.IDef := ⟨"InvalidColumn", "InvalidColumn.__init__", defArgs (DX.cInit (top 4)), defBody (DX.cInit (top 4)), defScope (DX.cInit (top 4))⟩
def i_InvalidName : DX.IDef := ⟨"InvalidName", "InvalidName.__init__", defArgs (DX.cInit (top 3)), defBody (DX.cInit (top 3)), defScope (DX.cInit (top 3))⟩
def i_Untold : DX.IDef := ⟨"Untold", "Untold.__init__", defArgs (DX.cInit (top 22)), defBody (DX.cInit (top 22)), defScope (DX.cInit (top 22))⟩
def i_OtherProgram : DX.IDef := ⟨"OtherProgram", "OtherProgram.__init__", defArgs (DX.cInit (top 17)), defBody (DX.cInit (top 17)), defScope (DX.cInit (top 17))⟩
def i_Torn : DX.IDef := ⟨"Torn", "Torn.__init__", defArgs (DX.cInit (top 19)), defBody (DX.cInit (top 19)), defScope (DX.cInit (top 19))⟩
def i_InvalidRow : DX.IDef := ⟨"InvalidRow", "InvalidRow.__init__", defArgs (DX.cInit (top 10)), defBody (DX.cInit (top 10)), defScope (DX.cInit (top 10))⟩
def i_UnknownRow : DX.IDef := ⟨"UnknownRow", "UnknownRow.__init__", defArgs (DX.cInit (top 25)), defBody (DX.cInit (top 25)), defScope (DX.cInit (top 25))⟩
def i_UnknownColumn : DX.IDef := ⟨"UnknownColumn", "UnknownColumn.__init__", defArgs (DX.cInit (top 24)), defBody (DX.cInit (top 24)), defScope (DX.cInit (top 24))⟩
def i_UnknownName : DX.IDef := ⟨"UnknownName", "UnknownName.__init__", defArgs (DX.cInit (top 23)), defBody (DX.cInit (top 23)), defScope (DX.cInit (top 23))⟩
def i_NothingLeft : DX.IDef := ⟨"NothingLeft", "NothingLeft.__init__", defArgs (DX.cInit (top 26)), defBody (DX.cInit (top 26)), defScope (DX.cInit (top 26))⟩
def hins : List DX.IDef := [i_LotsError, i_Missing, i_Full, i_TooMany, i_SideTaken, i_DuplicateName, i_InvalidCommand, i_InvalidText, i_InvalidNumber, i_InvalidWord, i_InvalidSetting, i_InvalidThing, i_InvalidTest, i_InvalidStep, i_InvalidKey, i_InvalidSide, i_InvalidColumn, i_InvalidName, i_Untold, i_OtherProgram, i_Torn, i_InvalidRow, i_UnknownRow, i_UnknownColumn, i_UnknownName, i_NothingLeft]
def dd__law_box : He.DefD := ⟨("_law_box", none), "_law_box", "_law_box", defArgs st__law_box, defBody st__law_box, defScope st__law_box, [], []⟩
def dd__law_pull : He.DefD := ⟨("_law_pull", none), "_law_pull", "_law_pull", defArgs st__law_pull, defBody st__law_pull, defScope st__law_pull, [], []⟩
def dd__law_of : He.DefD := ⟨("_law_of", none), "_law_of", "_law_of", defArgs st__law_of, defBody st__law_of, defScope st__law_of, [], []⟩
def dd__law_same : He.DefD := ⟨("_law_same", none), "_law_same", "_law_same", defArgs st__law_same, defBody st__law_same, defScope st__law_same, [], []⟩
def dd__law_field : He.DefD := ⟨("_law_field", none), "_law_field", "_law_field", defArgs st__law_field, defBody st__law_field, defScope st__law_field, [], []⟩
def dd__law_odd : He.DefD := ⟨("_law_odd", none), "_law_odd", "_law_odd", defArgs st__law_odd, defBody st__law_odd, defScope st__law_odd, [], []⟩
def dd__law_bases : He.DefD := ⟨("_law_bases", none), "_law_bases", "_law_bases", defArgs st__law_bases, defBody st__law_bases, defScope st__law_bases, [], []⟩
def dd__law_apart : He.DefD := ⟨("_law_apart", none), "_law_apart", "_law_apart", defArgs st__law_apart, defBody st__law_apart, defScope st__law_apart, [], []⟩
def dd_law : He.DefD := ⟨("law", none), "law", "law", defArgs st_law, defBody st_law, defScope st_law, [], []⟩
def hfn : List He.DefD := [dd__law_box, dd__law_pull, dd__law_of, dd__law_same, dd__law_field, dd__law_odd, dd__law_bases, dd__law_apart, dd_law]
def hfa : List He.Fa := [.glo "_law_box", .glo "_law_pull", .glo "_law_of", .glo "_law_same", .glo "_law_field", .glo "_law_odd", .glo "_law_bases", .glo "_law_apart", .glo "law", .free "IndexError", .free "LookupError", .free "ValueError", .free "abs", .free "all", .free "bool", .free "int", .free "isinstance", .free "len", .free "list", .free "range", .free "str", .free "tuple", .free "zip", .glo "LotsError", .glo "Missing", .glo "NothingLeft", .glo "Full", .glo "TooMany", .glo "SideTaken", .glo "DuplicateName", .glo "InvalidCommand", .glo "InvalidText", .glo "InvalidNumber", .glo "InvalidWord", .glo "InvalidSetting", .glo "InvalidThing", .glo "InvalidTest", .glo "InvalidStep", .glo "InvalidKey", .glo "InvalidSide", .glo "InvalidColumn", .glo "InvalidName", .glo "Untold", .glo "OtherProgram", .glo "Torn", .glo "InvalidRow", .glo "UnknownRow", .glo "UnknownColumn", .glo "UnknownName", .free "super"]
def hex (K : PySem.W.Frag) : Bool := DX.clsB K "ValueError.__new__" "LotsError" DX.fldNames && (DX.clsB K "LookupError.__new__" "Missing" DX.fldNames && (DX.iB K hF i_LotsError && (DX.iB K hF i_Missing && (DX.iB K hF i_Full && (DX.iB K hF i_TooMany && (DX.iB K hF i_SideTaken && (DX.iB K hF i_DuplicateName && (DX.iB K hF i_InvalidCommand && (DX.iB K hF i_InvalidText && (DX.iB K hF i_InvalidNumber && (DX.iB K hF i_InvalidWord && (DX.iB K hF i_InvalidSetting && (DX.iB K hF i_InvalidThing && (DX.iB K hF i_InvalidTest && (DX.iB K hF i_InvalidStep && (DX.iB K hF i_InvalidKey && (DX.iB K hF i_InvalidSide && (DX.iB K hF i_InvalidColumn && (DX.iB K hF i_InvalidName && (DX.iB K hF i_Untold && (DX.iB K hF i_OtherProgram && (DX.iB K hF i_Torn && (DX.iB K hF i_InvalidRow && (DX.iB K hF i_UnknownRow && (DX.iB K hF i_UnknownColumn && (DX.iB K hF i_UnknownName && (DX.iB K hF i_NothingLeft && (DX.overB K "ValueError" "ValueError.__new__" "ValueError.__init__" "Full" "LotsError" DX.fldNames && (DX.iscB K (He.ga K "Full") && (DX.overB K "ValueError" "ValueError.__new__" "ValueError.__init__" "TooMany" "LotsError" DX.fldNames && (DX.iscB K (He.ga K "TooMany") && (DX.overB K "ValueError" "ValueError.__new__" "ValueError.__init__" "SideTaken" "LotsError" DX.fldNames && (DX.iscB K (He.ga K "SideTaken") && (DX.overB K "ValueError" "ValueError.__new__" "ValueError.__init__" "DuplicateName" "LotsError" DX.fldNames && (DX.iscB K (He.ga K "DuplicateName") && (DX.overB K "ValueError" "ValueError.__new__" "ValueError.__init__" "InvalidCommand" "LotsError" DX.fldNames && (DX.iscB K (He.ga K "InvalidCommand") && (DX.overB K "ValueError" "ValueError.__new__" "ValueError.__init__" "InvalidText" "LotsError" DX.fldNames && (DX.iscB K (He.ga K "InvalidText") && (DX.overB K "ValueError" "ValueError.__new__" "ValueError.__init__" "InvalidNumber" "LotsError" DX.fldNames && (DX.iscB K (He.ga K "InvalidNumber") && (DX.overB K "ValueError" "ValueError.__new__" "ValueError.__init__" "InvalidWord" "LotsError" DX.fldNames && (DX.iscB K (He.ga K "InvalidWord") && (DX.overB K "ValueError" "ValueError.__new__" "ValueError.__init__" "InvalidSetting" "LotsError" DX.fldNames && (DX.iscB K (He.ga K "InvalidSetting") && (DX.overB K "ValueError" "ValueError.__new__" "ValueError.__init__" "InvalidThing" "LotsError" DX.fldNames && (DX.iscB K (He.ga K "InvalidThing") && (DX.overB K "ValueError" "ValueError.__new__" "ValueError.__init__" "InvalidTest" "LotsError" DX.fldNames && (DX.iscB K (He.ga K "InvalidTest") && (DX.overB K "ValueError" "ValueError.__new__" "ValueError.__init__" "InvalidStep" "LotsError" DX.fldNames && (DX.iscB K (He.ga K "InvalidStep") && (DX.overB K "ValueError" "ValueError.__new__" "ValueError.__init__" "InvalidKey" "LotsError" DX.fldNames && (DX.iscB K (He.ga K "InvalidKey") && (DX.overB K "ValueError" "ValueError.__new__" "ValueError.__init__" "InvalidSide" "LotsError" DX.fldNames && (DX.iscB K (He.ga K "InvalidSide") && (DX.overB K "ValueError" "ValueError.__new__" "ValueError.__init__" "InvalidColumn" "LotsError" DX.fldNames && (DX.iscB K (He.ga K "InvalidColumn") && (DX.overB K "ValueError" "ValueError.__new__" "ValueError.__init__" "InvalidName" "LotsError" DX.fldNames && (DX.iscB K (He.ga K "InvalidName") && (DX.overB K "ValueError" "ValueError.__new__" "ValueError.__init__" "Untold" "LotsError" DX.fldNames && (DX.iscB K (He.ga K "Untold") && (DX.overB K "ValueError" "ValueError.__new__" "ValueError.__init__" "OtherProgram" "LotsError" DX.fldNames && (DX.iscB K (He.ga K "OtherProgram") && (DX.overB K "ValueError" "ValueError.__new__" "ValueError.__init__" "Torn" "LotsError" DX.fldNames && (DX.iscB K (He.ga K "Torn") && (DX.overB K "ValueError" "ValueError.__new__" "ValueError.__init__" "InvalidRow" "LotsError" DX.fldNames && (DX.iscB K (He.ga K "InvalidRow") && (DX.overB K "LookupError" "LookupError.__new__" "LookupError.__init__" "UnknownRow" "Missing" DX.fldNames && (DX.iscB K (He.ga K "UnknownRow") && (DX.overB K "LookupError" "LookupError.__new__" "LookupError.__init__" "UnknownColumn" "Missing" DX.fldNames && (DX.iscB K (He.ga K "UnknownColumn") && (DX.overB K "LookupError" "LookupError.__new__" "LookupError.__init__" "UnknownName" "Missing" DX.fldNames && (DX.iscB K (He.ga K "UnknownName") && (DX.straightB K "IndexError" "IndexError.__new__" "IndexError.__init__" "NothingLeft" DX.fldNames && (DX.iscB K (He.ga K "NothingLeft") && (isTab K && (isBas K)))))))))))))))))))))))))))))))))))))))))))))))))))))))))))))))))))))))))))))
def hts : List He.Tab := []
abbrev hk : PySem.W.Hook := DX.hookI 4 hfa hfn hts [] hex hins
section
variable {w : World} {K : PySem.W.Frag} {h : Heap} {mg : Str → Option Value} (X : K.In h) (G : h.Ns mainGlobals mg) (c : DX.SaysI hfa hfn hts [] hex hins w h K)
include X G c
theorem txt : Txt w K mg := ⟨He.free_ok X G (c.x.t.d.fact 9 (f := .free "IndexError") rfl), He.free_ok X G (c.x.t.d.fact 10 (f := .free "LookupError") rfl), He.free_ok X G (c.x.t.d.fact 11 (f := .free "ValueError") rfl), He.free_ok X G (c.x.t.d.fact 12 (f := .free "abs") rfl), He.free_ok X G (c.x.t.d.fact 13 (f := .free "all") rfl), He.free_ok X G (c.x.t.d.fact 14 (f := .free "bool") rfl), He.free_ok X G (c.x.t.d.fact 15 (f := .free "int") rfl), He.free_ok X G (c.x.t.d.fact 16 (f := .free "isinstance") rfl), He.free_ok X G (c.x.t.d.fact 17 (f := .free "len") rfl), He.free_ok X G (c.x.t.d.fact 18 (f := .free "list") rfl), He.free_ok X G (c.x.t.d.fact 19 (f := .free "range") rfl), He.free_ok X G (c.x.t.d.fact 20 (f := .free "str") rfl), He.free_ok X G (c.x.t.d.fact 21 (f := .free "tuple") rfl), He.free_ok X G (c.x.t.d.fact 22 (f := .free "zip") rfl)⟩
theorem g__law_box : mg "_law_box" = some (.ref (He.fAd K ("_law_box", none))) := He.glo_ok X G (c.x.t.d.fact 0 (f := .glo "_law_box") rfl)
theorem g__law_pull : mg "_law_pull" = some (.ref (He.fAd K ("_law_pull", none))) := He.glo_ok X G (c.x.t.d.fact 1 (f := .glo "_law_pull") rfl)
theorem g__law_of : mg "_law_of" = some (.ref (He.fAd K ("_law_of", none))) := He.glo_ok X G (c.x.t.d.fact 2 (f := .glo "_law_of") rfl)
theorem g__law_same : mg "_law_same" = some (.ref (He.fAd K ("_law_same", none))) := He.glo_ok X G (c.x.t.d.fact 3 (f := .glo "_law_same") rfl)
theorem g__law_field : mg "_law_field" = some (.ref (He.fAd K ("_law_field", none))) := He.glo_ok X G (c.x.t.d.fact 4 (f := .glo "_law_field") rfl)
theorem g__law_odd : mg "_law_odd" = some (.ref (He.fAd K ("_law_odd", none))) := He.glo_ok X G (c.x.t.d.fact 5 (f := .glo "_law_odd") rfl)
theorem g__law_bases : mg "_law_bases" = some (.ref (He.fAd K ("_law_bases", none))) := He.glo_ok X G (c.x.t.d.fact 6 (f := .glo "_law_bases") rfl)
theorem g__law_apart : mg "_law_apart" = some (.ref (He.fAd K ("_law_apart", none))) := He.glo_ok X G (c.x.t.d.fact 7 (f := .glo "_law_apart") rfl)
theorem g_law : mg "law" = some (.ref (He.fAd K ("law", none))) := He.glo_ok X G (c.x.t.d.fact 8 (f := .glo "law") rfl)
theorem gc_LotsError : mg "LotsError" = some (.ref (He.ga K "LotsError")) := He.glo_ok X G (c.x.t.d.fact 23 (f := .glo "LotsError") rfl)
theorem gc_Missing : mg "Missing" = some (.ref (He.ga K "Missing")) := He.glo_ok X G (c.x.t.d.fact 24 (f := .glo "Missing") rfl)
theorem gc_NothingLeft : mg "NothingLeft" = some (.ref (He.ga K "NothingLeft")) := He.glo_ok X G (c.x.t.d.fact 25 (f := .glo "NothingLeft") rfl)
theorem gc_Full : mg "Full" = some (.ref (He.ga K "Full")) := He.glo_ok X G (c.x.t.d.fact 26 (f := .glo "Full") rfl)
theorem gc_TooMany : mg "TooMany" = some (.ref (He.ga K "TooMany")) := He.glo_ok X G (c.x.t.d.fact 27 (f := .glo "TooMany") rfl)
theorem gc_SideTaken : mg "SideTaken" = some (.ref (He.ga K "SideTaken")) := He.glo_ok X G (c.x.t.d.fact 28 (f := .glo "SideTaken") rfl)
theorem gc_DuplicateName : mg "DuplicateName" = some (.ref (He.ga K "DuplicateName")) := He.glo_ok X G (c.x.t.d.fact 29 (f := .glo "DuplicateName") rfl)
theorem gc_InvalidCommand : mg "InvalidCommand" = some (.ref (He.ga K "InvalidCommand")) := He.glo_ok X G (c.x.t.d.fact 30 (f := .glo "InvalidCommand") rfl)
theorem gc_InvalidText : mg "InvalidText" = some (.ref (He.ga K "InvalidText")) := He.glo_ok X G (c.x.t.d.fact 31 (f := .glo "InvalidText") rfl)
theorem gc_InvalidNumber : mg "InvalidNumber" = some (.ref (He.ga K "InvalidNumber")) := He.glo_ok X G (c.x.t.d.fact 32 (f := .glo "InvalidNumber") rfl)
theorem gc_InvalidWord : mg "InvalidWord" = some (.ref (He.ga K "InvalidWord")) := He.glo_ok X G (c.x.t.d.fact 33 (f := .glo "InvalidWord") rfl)
theorem gc_InvalidSetting : mg "InvalidSetting" = some (.ref (He.ga K "InvalidSetting")) := He.glo_ok X G (c.x.t.d.fact 34 (f := .glo "InvalidSetting") rfl)
theorem gc_InvalidThing : mg "InvalidThing" = some (.ref (He.ga K "InvalidThing")) := He.glo_ok X G (c.x.t.d.fact 35 (f := .glo "InvalidThing") rfl)
theorem gc_InvalidTest : mg "InvalidTest" = some (.ref (He.ga K "InvalidTest")) := He.glo_ok X G (c.x.t.d.fact 36 (f := .glo "InvalidTest") rfl)
theorem gc_InvalidStep : mg "InvalidStep" = some (.ref (He.ga K "InvalidStep")) := He.glo_ok X G (c.x.t.d.fact 37 (f := .glo "InvalidStep") rfl)
theorem gc_InvalidKey : mg "InvalidKey" = some (.ref (He.ga K "InvalidKey")) := He.glo_ok X G (c.x.t.d.fact 38 (f := .glo "InvalidKey") rfl)
theorem gc_InvalidSide : mg "InvalidSide" = some (.ref (He.ga K "InvalidSide")) := He.glo_ok X G (c.x.t.d.fact 39 (f := .glo "InvalidSide") rfl)
theorem gc_InvalidColumn : mg "InvalidColumn" = some (.ref (He.ga K "InvalidColumn")) := He.glo_ok X G (c.x.t.d.fact 40 (f := .glo "InvalidColumn") rfl)
theorem gc_InvalidName : mg "InvalidName" = some (.ref (He.ga K "InvalidName")) := He.glo_ok X G (c.x.t.d.fact 41 (f := .glo "InvalidName") rfl)
theorem gc_Untold : mg "Untold" = some (.ref (He.ga K "Untold")) := He.glo_ok X G (c.x.t.d.fact 42 (f := .glo "Untold") rfl)
theorem gc_OtherProgram : mg "OtherProgram" = some (.ref (He.ga K "OtherProgram")) := He.glo_ok X G (c.x.t.d.fact 43 (f := .glo "OtherProgram") rfl)
theorem gc_Torn : mg "Torn" = some (.ref (He.ga K "Torn")) := He.glo_ok X G (c.x.t.d.fact 44 (f := .glo "Torn") rfl)
theorem gc_InvalidRow : mg "InvalidRow" = some (.ref (He.ga K "InvalidRow")) := He.glo_ok X G (c.x.t.d.fact 45 (f := .glo "InvalidRow") rfl)
theorem gc_UnknownRow : mg "UnknownRow" = some (.ref (He.ga K "UnknownRow")) := He.glo_ok X G (c.x.t.d.fact 46 (f := .glo "UnknownRow") rfl)
theorem gc_UnknownColumn : mg "UnknownColumn" = some (.ref (He.ga K "UnknownColumn")) := He.glo_ok X G (c.x.t.d.fact 47 (f := .glo "UnknownColumn") rfl)
theorem gc_UnknownName : mg "UnknownName" = some (.ref (He.ga K "UnknownName")) := He.glo_ok X G (c.x.t.d.fact 48 (f := .glo "UnknownName") rfl)
theorem noSuper : mg "super" = none := He.free_ok X G (c.x.t.d.fact 49 (f := .free "super") rfl)
theorem E_LotsError (base : Heap) : ∃ fd, FnOk hP w K mg base CX0 1 (He.fAd K (DX.iAt i_LotsError)) fd ["self", "code"] (DX.spI K (fun C => DX.ToBlt K C (He.ga K i_LotsError.cls) "ValueError" "ValueError.__new__" "ValueError.__init__" (DX.tlOf "ValueError.__new__") ∧ PySem.W.findIn K (.ref C) "code" = some none) 1 fun ws => (ws.map fun c => (("code" : Str), c))) ∧ Binds K fd ["self", "code"] [] :=
  DX.base1 (c.at 0 rfl) (He.ba (He.ba (He.ba (c.x.more)).2).2).1 (DX.clsB_ok (He.ba (c.x.more)).1) ⟨_, rfl, rfl⟩ (by decide +kernel) (noSuper X G c) rfl ⟨rfl, rfl, rfl, by decide, rfl, by decide +kernel, by decide +kernel, by decide +kernel, by decide +kernel⟩ rfl (fun _ => rfl) (fun _ => rfl) (fun _ => rfl) rfl rfl (fun cc kV doc pm an cdv ct us hl => match us, hl with | [_, _], _ => rfl)
theorem E_Missing (base : Heap) : ∃ fd, FnOk hP w K mg base CX0 1 (He.fAd K (DX.iAt i_Missing)) fd ["self", "code"] (DX.spI K (fun C => DX.ToBlt K C (He.ga K i_Missing.cls) "LookupError" "LookupError.__new__" "LookupError.__init__" (DX.tlOf "LookupError.__new__") ∧ PySem.W.findIn K (.ref C) "code" = some none) 1 fun ws => (ws.map fun c => (("code" : Str), c))) ∧ Binds K fd ["self", "code"] [] :=
  DX.base1 (c.at 1 rfl) (He.ba (He.ba (He.ba (He.ba (c.x.more)).2).2).2).1 (DX.clsB_ok (He.ba (He.ba (c.x.more)).2).1) ⟨_, rfl, rfl⟩ (by decide +kernel) (noSuper X G c) rfl ⟨rfl, rfl, rfl, by decide, rfl, by decide +kernel, by decide +kernel, by decide +kernel, by decide +kernel⟩ rfl (fun _ => rfl) (fun _ => rfl) (fun _ => rfl) rfl rfl (fun cc kV doc pm an cdv ct us hl => match us, hl with | [_, _], _ => rfl)
theorem E_Full (base : Heap) : DX.ErD hP w K mg base 2 "Full" 1 (DX.fs1D "most" "Full") := by
  obtain ⟨fd, F, B⟩ := E_LotsError X G c base
  exact DX.er1 (d := i_Full) (d0 := i_LotsError) F B (DX.clsB_ok (He.ba (c.x.more)).1) (gc_Full X G c) DX.bfV (DX.overB_ok (He.ba (He.ba (He.ba (He.ba (He.ba (He.ba (He.ba (He.ba (He.ba (He.ba (He.ba (He.ba (He.ba (He.ba (He.ba (He.ba (He.ba (He.ba (He.ba (He.ba (He.ba (He.ba (He.ba (He.ba (He.ba (He.ba (He.ba (He.ba (He.ba (c.x.more)).2).2).2).2).2).2).2).2).2).2).2).2).2).2).2).2).2).2).2).2).2).2).2).2).2).2).2).2).1) (by decide) (by decide) (c.at 2 rfl) (He.ba (He.ba (He.ba (He.ba (He.ba (c.x.more)).2).2).2).2).1 ⟨_, rfl, rfl⟩ (by decide +kernel) (noSuper X G c) rfl ⟨rfl, rfl, rfl, by decide, rfl, by decide +kernel, by decide +kernel, by decide +kernel, by decide +kernel⟩ rfl (fun _ => rfl) (fun _ => rfl) (fun _ => rfl) rfl rfl (fun cc kV doc pm an cdv ct us hl => match us, hl with | [_, _], _ => rfl)
omit X G in
theorem XC_Full : DX.IsC K (He.ga K "Full") := DX.iscB_ok (He.ba (He.ba (He.ba (He.ba (He.ba (He.ba (He.ba (He.ba (He.ba (He.ba (He.ba (He.ba (He.ba (He.ba (He.ba (He.ba (He.ba (He.ba (He.ba (He.ba (He.ba (He.ba (He.ba (He.ba (He.ba (He.ba (He.ba (He.ba (He.ba (He.ba (c.x.more)).2).2).2).2).2).2).2).2).2).2).2).2).2).2).2).2).2).2).2).2).2).2).2).2).2).2).2).2).2).1
theorem E_TooMany (base : Heap) : DX.ErD hP w K mg base 2 "TooMany" 1 (DX.fs1D "most" "TooMany") := by
  obtain ⟨fd, F, B⟩ := E_LotsError X G c base
  exact DX.er1 (d := i_TooMany) (d0 := i_LotsError) F B (DX.clsB_ok (He.ba (c.x.more)).1) (gc_TooMany X G c) DX.bfV (DX.overB_ok (He.ba (He.ba (He.ba (He.ba (He.ba (He.ba (He.ba (He.ba (He.ba (He.ba (He.ba (He.ba (He.ba (He.ba (He.ba (He.ba (He.ba (He.ba (He.ba (He.ba (He.ba (He.ba (He.ba (He.ba (He.ba (He.ba (He.ba (He.ba (He.ba (He.ba (He.ba (c.x.more)).2).2).2).2).2).2).2).2).2).2).2).2).2).2).2).2).2).2).2).2).2).2).2).2).2).2).2).2).2).2).1) (by decide) (by decide) (c.at 3 rfl) (He.ba (He.ba (He.ba (He.ba (He.ba (He.ba (c.x.more)).2).2).2).2).2).1 ⟨_, rfl, rfl⟩ (by decide +kernel) (noSuper X G c) rfl ⟨rfl, rfl, rfl, by decide, rfl, by decide +kernel, by decide +kernel, by decide +kernel, by decide +kernel⟩ rfl (fun _ => rfl) (fun _ => rfl) (fun _ => rfl) rfl rfl (fun cc kV doc pm an cdv ct us hl => match us, hl with | [_, _], _ => rfl)
omit X G in
theorem XC_TooMany : DX.IsC K (He.ga K "TooMany") := DX.iscB_ok (He.ba (He.ba (He.ba (He.ba (He.ba (He.ba (He.ba (He.ba (He.ba (He.ba (He.ba (He.ba (He.ba (He.ba (He.ba (He.ba (He.ba (He.ba (He.ba (He.ba (He.ba (He.ba (He.ba (He.ba (He.ba (He.ba (He.ba (He.ba (He.ba (He.ba (He.ba (He.ba (c.x.more)).2).2).2).2).2).2).2).2).2).2).2).2).2).2).2).2).2).2).2).2).2).2).2).2).2).2).2).2).2).2).2).1
theorem E_SideTaken (base : Heap) : DX.ErD hP w K mg base 2 "SideTaken" 1 (DX.fs1D "taken" "SideTaken") := by
  obtain ⟨fd, F, B⟩ := E_LotsError X G c base
  exact DX.er1 (d := i_SideTaken) (d0 := i_LotsError) F B (DX.clsB_ok (He.ba (c.x.more)).1) (gc_SideTaken X G c) DX.bfV (DX.overB_ok (He.ba (He.ba (He.ba (He.ba (He.ba (He.ba (He.ba (He.ba (He.ba (He.ba (He.ba (He.ba (He.ba (He.ba (He.ba (He.ba (He.ba (He.ba (He.ba (He.ba (He.ba (He.ba (He.ba (He.ba (He.ba (He.ba (He.ba (He.ba (He.ba (He.ba (He.ba (He.ba (He.ba (c.x.more)).2).2).2).2).2).2).2).2).2).2).2).2).2).2).2).2).2).2).2).2).2).2).2).2).2).2).2).2).2).2).2).2).1) (by decide) (by decide) (c.at 4 rfl) (He.ba (He.ba (He.ba (He.ba (He.ba (He.ba (He.ba (c.x.more)).2).2).2).2).2).2).1 ⟨_, rfl, rfl⟩ (by decide +kernel) (noSuper X G c) rfl ⟨rfl, rfl, rfl, by decide, rfl, by decide +kernel, by decide +kernel, by decide +kernel, by decide +kernel⟩ rfl (fun _ => rfl) (fun _ => rfl) (fun _ => rfl) rfl rfl (fun cc kV doc pm an cdv ct us hl => match us, hl with | [_, _], _ => rfl)
omit X G in
theorem XC_SideTaken : DX.IsC K (He.ga K "SideTaken") := DX.iscB_ok (He.ba (He.ba (He.ba (He.ba (He.ba (He.ba (He.ba (He.ba (He.ba (He.ba (He.ba (He.ba (He.ba (He.ba (He.ba (He.ba (He.ba (He.ba (He.ba (He.ba (He.ba (He.ba (He.ba (He.ba (He.ba (He.ba (He.ba (He.ba (He.ba (He.ba (He.ba (He.ba (He.ba (He.ba (c.x.more)).2).2).2).2).2).2).2).2).2).2).2).2).2).2).2).2).2).2).2).2).2).2).2).2).2).2).2).2).2).2).2).2).2).1
theorem E_DuplicateName (base : Heap) : DX.ErD hP w K mg base 2 "DuplicateName" 1 (DX.fs1D "name" "DuplicateName") := by
  obtain ⟨fd, F, B⟩ := E_LotsError X G c base
  exact DX.er1 (d := i_DuplicateName) (d0 := i_LotsError) F B (DX.clsB_ok (He.ba (c.x.more)).1) (gc_DuplicateName X G c) DX.bfV (DX.overB_ok (He.ba (He.ba (He.ba (He.ba (He.ba (He.ba (He.ba (He.ba (He.ba (He.ba (He.ba (He.ba (He.ba (He.ba (He.ba (He.ba (He.ba (He.ba (He.ba (He.ba (He.ba (He.ba (He.ba (He.ba (He.ba (He.ba (He.ba (He.ba (He.ba (He.ba (He.ba (He.ba (He.ba (He.ba (He.ba (c.x.more)).2).2).2).2).2).2).2).2).2).2).2).2).2).2).2).2).2).2).2).2).2).2).2).2).2).2).2).2).2).2).2).2).2).2).1) (by decide) (by decide) (c.at 5 rfl) (He.ba (He.ba (He.ba (He.ba (He.ba (He.ba (He.ba (He.ba (c.x.more)).2).2).2).2).2).2).2).1 ⟨_, rfl, rfl⟩ (by decide +kernel) (noSuper X G c) rfl ⟨rfl, rfl, rfl, by decide, rfl, by decide +kernel, by decide +kernel, by decide +kernel, by decide +kernel⟩ rfl (fun _ => rfl) (fun _ => rfl) (fun _ => rfl) rfl rfl (fun cc kV doc pm an cdv ct us hl => match us, hl with | [_, _], _ => rfl)
omit X G in
theorem XC_DuplicateName : DX.IsC K (He.ga K "DuplicateName") := DX.iscB_ok (He.ba (He.ba (He.ba (He.ba (He.ba (He.ba (He.ba (He.ba (He.ba (He.ba (He.ba (He.ba (He.ba (He.ba (He.ba (He.ba (He.ba (He.ba (He.ba (He.ba (He.ba (He.ba (He.ba (He.ba (He.ba (He.ba (He.ba (He.ba (He.ba (He.ba (He.ba (He.ba (He.ba (He.ba (He.ba (He.ba (c.x.more)).2).2).2).2).2).2).2).2).2).2).2).2).2).2).2).2).2).2).2).2).2).2).2).2).2).2).2).2).2).2).2).2).2).2).2).1
theorem E_InvalidCommand (base : Heap) : DX.ErD hP w K mg base 2 "InvalidCommand" 1 (DX.fs1D "at" "InvalidCommand") := by
  obtain ⟨fd, F, B⟩ := E_LotsError X G c base
  exact DX.er1 (d := i_InvalidCommand) (d0 := i_LotsError) F B (DX.clsB_ok (He.ba (c.x.more)).1) (gc_InvalidCommand X G c) DX.bfV (DX.overB_ok (He.ba (He.ba (He.ba (He.ba (He.ba (He.ba (He.ba (He.ba (He.ba (He.ba (He.ba (He.ba (He.ba (He.ba (He.ba (He.ba (He.ba (He.ba (He.ba (He.ba (He.ba (He.ba (He.ba (He.ba (He.ba (He.ba (He.ba (He.ba (He.ba (He.ba (He.ba (He.ba (He.ba (He.ba (He.ba (He.ba (He.ba (c.x.more)).2).2).2).2).2).2).2).2).2).2).2).2).2).2).2).2).2).2).2).2).2).2).2).2).2).2).2).2).2).2).2).2).2).2).2).2).1) (by decide) (by decide) (c.at 6 rfl) (He.ba (He.ba (He.ba (He.ba (He.ba (He.ba (He.ba (He.ba (He.ba (c.x.more)).2).2).2).2).2).2).2).2).1 ⟨_, rfl, rfl⟩ (by decide +kernel) (noSuper X G c) rfl ⟨rfl, rfl, rfl, by decide, rfl, by decide +kernel, by decide +kernel, by decide +kernel, by decide +kernel⟩ rfl (fun _ => rfl) (fun _ => rfl) (fun _ => rfl) rfl rfl (fun cc kV doc pm an cdv ct us hl => match us, hl with | [_, _], _ => rfl)
omit X G in
theorem XC_InvalidCommand : DX.IsC K (He.ga K "InvalidCommand") := DX.iscB_ok (He.ba (He.ba (He.ba (He.ba (He.ba (He.ba (He.ba (He.ba (He.ba (He.ba (He.ba (He.ba (He.ba (He.ba (He.ba (He.ba (He.ba (He.ba (He.ba (He.ba (He.ba (He.ba (He.ba (He.ba (He.ba (He.ba (He.ba (He.ba (He.ba (He.ba (He.ba (He.ba (He.ba (He.ba (He.ba (He.ba (He.ba (He.ba (c.x.more)).2).2).2).2).2).2).2).2).2).2).2).2).2).2).2).2).2).2).2).2).2).2).2).2).2).2).2).2).2).2).2).2).2).2).2).2).2).1
theorem E_InvalidText (base : Heap) : DX.ErD hP w K mg base 2 "InvalidText" 1 (DX.fs1D "line" "InvalidText") := by
  obtain ⟨fd, F, B⟩ := E_LotsError X G c base
  exact DX.er1 (d := i_InvalidText) (d0 := i_LotsError) F B (DX.clsB_ok (He.ba (c.x.more)).1) (gc_InvalidText X G c) DX.bfV (DX.overB_ok (He.ba (He.ba (He.ba (He.ba (He.ba (He.ba (He.ba (He.ba (He.ba (He.ba (He.ba (He.ba (He.ba (He.ba (He.ba (He.ba (He.ba (He.ba (He.ba (He.ba (He.ba (He.ba (He.ba (He.ba (He.ba (He.ba (He.ba (He.ba (He.ba (He.ba (He.ba (He.ba (He.ba (He.ba (He.ba (He.ba (He.ba (He.ba (He.ba (c.x.more)).2).2).2).2).2).2).2).2).2).2).2).2).2).2).2).2).2).2).2).2).2).2).2).2).2).2).2).2).2).2).2).2).2).2).2).2).2).2).1) (by decide) (by decide) (c.at 7 rfl) (He.ba (He.ba (He.ba (He.ba (He.ba (He.ba (He.ba (He.ba (He.ba (He.ba (c.x.more)).2).2).2).2).2).2).2).2).2).1 ⟨_, rfl, rfl⟩ (by decide +kernel) (noSuper X G c) rfl ⟨rfl, rfl, rfl, by decide, rfl, by decide +kernel, by decide +kernel, by decide +kernel, by decide +kernel⟩ rfl (fun _ => rfl) (fun _ => rfl) (fun _ => rfl) rfl rfl (fun cc kV doc pm an cdv ct us hl => match us, hl with | [_, _], _ => rfl)
omit X G in
theorem XC_InvalidText : DX.IsC K (He.ga K "InvalidText") := DX.iscB_ok (He.ba (He.ba (He.ba (He.ba (He.ba (He.ba (He.ba (He.ba (He.ba (He.ba (He.ba (He.ba (He.ba (He.ba (He.ba (He.ba (He.ba (He.ba (He.ba (He.ba (He.ba (He.ba (He.ba (He.ba (He.ba (He.ba (He.ba (He.ba (He.ba (He.ba (He.ba (He.ba (He.ba (He.ba (He.ba (He.ba (He.ba (He.ba (He.ba (He.ba (c.x.more)).2).2).2).2).2).2).2).2).2).2).2).2).2).2).2).2).2).2).2).2).2).2).2).2).2).2).2).2).2).2).2).2).2).2).2).2).2).2).2).1
theorem E_InvalidNumber (base : Heap) : DX.ErD hP w K mg base 2 "InvalidNumber" 1 (DX.fs1D "given" "InvalidNumber") := by
  obtain ⟨fd, F, B⟩ := E_LotsError X G c base
  exact DX.er1 (d := i_InvalidNumber) (d0 := i_LotsError) F B (DX.clsB_ok (He.ba (c.x.more)).1) (gc_InvalidNumber X G c) DX.bfV (DX.overB_ok (He.ba (He.ba (He.ba (He.ba (He.ba (He.ba (He.ba (He.ba (He.ba (He.ba (He.ba (He.ba (He.ba (He.ba (He.ba (He.ba (He.ba (He.ba (He.ba (He.ba (He.ba (He.ba (He.ba (He.ba (He.ba (He.ba (He.ba (He.ba (He.ba (He.ba (He.ba (He.ba (He.ba (He.ba (He.ba (He.ba (He.ba (He.ba (He.ba (He.ba (He.ba (c.x.more)).2).2).2).2).2).2).2).2).2).2).2).2).2).2).2).2).2).2).2).2).2).2).2).2).2).2).2).2).2).2).2).2).2).2).2).2).2).2).2).2).1) (by decide) (by decide) (c.at 8 rfl) (He.ba (He.ba (He.ba (He.ba (He.ba (He.ba (He.ba (He.ba (He.ba (He.ba (He.ba (c.x.more)).2).2).2).2).2).2).2).2).2).2).1 ⟨_, rfl, rfl⟩ (by decide +kernel) (noSuper X G c) rfl ⟨rfl, rfl, rfl, by decide, rfl, by decide +kernel, by decide +kernel, by decide +kernel, by decide +kernel⟩ rfl (fun _ => rfl) (fun _ => rfl) (fun _ => rfl) rfl rfl (fun cc kV doc pm an cdv ct us hl => match us, hl with | [_, _], _ => rfl)
omit X G in
theorem XC_InvalidNumber : DX.IsC K (He.ga K "InvalidNumber") := DX.iscB_ok (He.ba (He.ba (He.ba (He.ba (He.ba (He.ba (He.ba (He.ba (He.ba (He.ba (He.ba (He.ba (He.ba (He.ba (He.ba (He.ba (He.ba (He.ba (He.ba (He.ba (He.ba (He.ba (He.ba (He.ba (He.ba (He.ba (He.ba (He.ba (He.ba (He.ba (He.ba (He.ba (He.ba (He.ba (He.ba (He.ba (He.ba (He.ba (He.ba (He.ba (He.ba (He.ba (c.x.more)).2).2).2).2).2).2).2).2).2).2).2).2).2).2).2).2).2).2).2).2).2).2).2).2).2).2).2).2).2).2).2).2).2).2).2).2).2).2).2).2).2).1
theorem E_InvalidWord (base : Heap) : DX.ErD hP w K mg base 2 "InvalidWord" 1 (DX.fs1D "given" "InvalidWord") := by
  obtain ⟨fd, F, B⟩ := E_LotsError X G c base
  exact DX.er1 (d := i_InvalidWord) (d0 := i_LotsError) F B (DX.clsB_ok (He.ba (c.x.more)).1) (gc_InvalidWord X G c) DX.bfV (DX.overB_ok (He.ba (He.ba (He.ba (He.ba (He.ba (He.ba (He.ba (He.ba (He.ba (He.ba (He.ba (He.ba (He.ba (He.ba (He.ba (He.ba (He.ba (He.ba (He.ba (He.ba (He.ba (He.ba (He.ba (He.ba (He.ba (He.ba (He.ba (He.ba (He.ba (He.ba (He.ba (He.ba (He.ba (He.ba (He.ba (He.ba (He.ba (He.ba (He.ba (He.ba (He.ba (He.ba (He.ba (c.x.more)).2).2).2).2).2).2).2).2).2).2).2).2).2).2).2).2).2).2).2).2).2).2).2).2).2).2).2).2).2).2).2).2).2).2).2).2).2).2).2).2).2).2).1) (by decide) (by decide) (c.at 9 rfl) (He.ba (He.ba (He.ba (He.ba (He.ba (He.ba (He.ba (He.ba (He.ba (He.ba (He.ba (He.ba (c.x.more)).2).2).2).2).2).2).2).2).2).2).2).1 ⟨_, rfl, rfl⟩ (by decide +kernel) (noSuper X G c) rfl ⟨rfl, rfl, rfl, by decide, rfl, by decide +kernel, by decide +kernel, by decide +kernel, by decide +kernel⟩ rfl (fun _ => rfl) (fun _ => rfl) (fun _ => rfl) rfl rfl (fun cc kV doc pm an cdv ct us hl => match us, hl with | [_, _], _ => rfl)
omit X G in
theorem XC_InvalidWord : DX.IsC K (He.ga K "InvalidWord") := DX.iscB_ok (He.ba (He.ba (He.ba (He.ba (He.ba (He.ba (He.ba (He.ba (He.ba (He.ba (He.ba (He.ba (He.ba (He.ba (He.ba (He.ba (He.ba (He.ba (He.ba (He.ba (He.ba (He.ba (He.ba (He.ba (He.ba (He.ba (He.ba (He.ba (He.ba (He.ba (He.ba (He.ba (He.ba (He.ba (He.ba (He.ba (He.ba (He.ba (He.ba (He.ba (He.ba (He.ba (He.ba (He.ba (c.x.more)).2).2).2).2).2).2).2).2).2).2).2).2).2).2).2).2).2).2).2).2).2).2).2).2).2).2).2).2).2).2).2).2).2).2).2).2).2).2).2).2).2).2).2).1
theorem E_InvalidSetting (base : Heap) : DX.ErD hP w K mg base 2 "InvalidSetting" 1 (DX.fs1D "given" "InvalidSetting") := by
  obtain ⟨fd, F, B⟩ := E_LotsError X G c base
  exact DX.er1 (d := i_InvalidSetting) (d0 := i_LotsError) F B (DX.clsB_ok (He.ba (c.x.more)).1) (gc_InvalidSetting X G c) DX.bfV (DX.overB_ok (He.ba (He.ba (He.ba (He.ba (He.ba (He.ba (He.ba (He.ba (He.ba (He.ba (He.ba (He.ba (He.ba (He.ba (He.ba (He.ba (He.ba (He.ba (He.ba (He.ba (He.ba (He.ba (He.ba (He.ba (He.ba (He.ba (He.ba (He.ba (He.ba (He.ba (He.ba (He.ba (He.ba (He.ba (He.ba (He.ba (He.ba (He.ba (He.ba (He.ba (He.ba (He.ba (He.ba (He.ba (He.ba (c.x.more)).2).2).2).2).2).2).2).2).2).2).2).2).2).2).2).2).2).2).2).2).2).2).2).2).2).2).2).2).2).2).2).2).2).2).2).2).2).2).2).2).2).2).2).2).1) (by decide) (by decide) (c.at 10 rfl) (He.ba (He.ba (He.ba (He.ba (He.ba (He.ba (He.ba (He.ba (He.ba (He.ba (He.ba (He.ba (He.ba (c.x.more)).2).2).2).2).2).2).2).2).2).2).2).2).1 ⟨_, rfl, rfl⟩ (by decide +kernel) (noSuper X G c) rfl ⟨rfl, rfl, rfl, by decide, rfl, by decide +kernel, by decide +kernel, by decide +kernel, by decide +kernel⟩ rfl (fun _ => rfl) (fun _ => rfl) (fun _ => rfl) rfl rfl (fun cc kV doc pm an cdv ct us hl => match us, hl with | [_, _], _ => rfl)
omit X G in
theorem XC_InvalidSetting : DX.IsC K (He.ga K "InvalidSetting") := DX.iscB_ok (He.ba (He.ba (He.ba (He.ba (He.ba (He.ba (He.ba (He.ba (He.ba (He.ba (He.ba (He.ba (He.ba (He.ba (He.ba (He.ba (He.ba (He.ba (He.ba (He.ba (He.ba (He.ba (He.ba (He.ba (He.ba (He.ba (He.ba (He.ba (He.ba (He.ba (He.ba (He.ba (He.ba (He.ba (He.ba (He.ba (He.ba (He.ba (He.ba (He.ba (He.ba (He.ba (He.ba (He.ba (He.ba (He.ba (c.x.more)).2).2).2).2).2).2).2).2).2).2).2).2).2).2).2).2).2).2).2).2).2).2).2).2).2).2).2).2).2).2).2).2).2).2).2).2).2).2).2).2).2).2).2).2).2).1
theorem E_InvalidThing (base : Heap) : DX.ErD hP w K mg base 2 "InvalidThing" 1 (DX.fs1D "given" "InvalidThing") := by
  obtain ⟨fd, F, B⟩ := E_LotsError X G c base
  exact DX.er1 (d := i_InvalidThing) (d0 := i_LotsError) F B (DX.clsB_ok (He.ba (c.x.more)).1) (gc_InvalidThing X G c) DX.bfV (DX.overB_ok (He.ba (He.ba (He.ba (He.ba (He.ba (He.ba (He.ba (He.ba (He.ba (He.ba (He.ba (He.ba (He.ba (He.ba (He.ba (He.ba (He.ba (He.ba (He.ba (He.ba (He.ba (He.ba (He.ba (He.ba (He.ba (He.ba (He.ba (He.ba (He.ba (He.ba (He.ba (He.ba (He.ba (He.ba (He.ba (He.ba (He.ba (He.ba (He.ba (He.ba (He.ba (He.ba (He.ba (He.ba (He.ba (He.ba (He.ba (c.x.more)).2).2).2).2).2).2).2).2).2).2).2).2).2).2).2).2).2).2).2).2).2).2).2).2).2).2).2).2).2).2).2).2).2).2).2).2).2).2).2).2).2).2).2).2).2).2).1) (by decide) (by decide) (c.at 11 rfl) (He.ba (He.ba (He.ba (He.ba (He.ba (He.ba (He.ba (He.ba (He.ba (He.ba (He.ba (He.ba (He.ba (He.ba (c.x.more)).2).2).2).2).2).2).2).2).2).2).2).2).2).1 ⟨_, rfl, rfl⟩ (by decide +kernel) (noSuper X G c) rfl ⟨rfl, rfl, rfl, by decide, rfl, by decide +kernel, by decide +kernel, by decide +kernel, by decide +kernel⟩ rfl (fun _ => rfl) (fun _ => rfl) (fun _ => rfl) rfl rfl (fun cc kV doc pm an cdv ct us hl => match us, hl with | [_, _], _ => rfl)
omit X G in
theorem XC_InvalidThing : DX.IsC K (He.ga K "InvalidThing") := DX.iscB_ok (He.ba (He.ba (He.ba (He.ba (He.ba (He.ba (He.ba (He.ba (He.ba (He.ba (He.ba (He.ba (He.ba (He.ba (He.ba (He.ba (He.ba (He.ba (He.ba (He.ba (He.ba (He.ba (He.ba (He.ba (He.ba (He.ba (He.ba (He.ba (He.ba (He.ba (He.ba (He.ba (He.ba (He.ba (He.ba (He.ba (He.ba (He.ba (He.ba (He.ba (He.ba (He.ba (He.ba (He.ba (He.ba (He.ba (He.ba (He.ba (c.x.more)).2).2).2).2).2).2).2).2).2).2).2).2).2).2).2).2).2).2).2).2).2).2).2).2).2).2).2).2).2).2).2).2).2).2).2).2).2).2).2).2).2).2).2).2).2).2).2).1
theorem E_InvalidTest (base : Heap) : DX.ErD hP w K mg base 2 "InvalidTest" 1 (DX.fs1D "given" "InvalidTest") := by
  obtain ⟨fd, F, B⟩ := E_LotsError X G c base
  exact DX.er1 (d := i_InvalidTest) (d0 := i_LotsError) F B (DX.clsB_ok (He.ba (c.x.more)).1) (gc_InvalidTest X G c) DX.bfV (DX.overB_ok (He.ba (He.ba (He.ba (He.ba (He.ba (He.ba (He.ba (He.ba (He.ba (He.ba (He.ba (He.ba (He.ba (He.ba (He.ba (He.ba (He.ba (He.ba (He.ba (He.ba (He.ba (He.ba (He.ba (He.ba (He.ba (He.ba (He.ba (He.ba (He.ba (He.ba (He.ba (He.ba (He.ba (He.ba (He.ba (He.ba (He.ba (He.ba (He.ba (He.ba (He.ba (He.ba (He.ba (He.ba (He.ba (He.ba (He.ba (He.ba (He.ba (c.x.more)).2).2).2).2).2).2).2).2).2).2).2).2).2).2).2).2).2).2).2).2).2).2).2).2).2).2).2).2).2).2).2).2).2).2).2).2).2).2).2).2).2).2).2).2).2).2).2).2).1) (by decide) (by decide) (c.at 12 rfl) (He.ba (He.ba (He.ba (He.ba (He.ba (He.ba (He.ba (He.ba (He.ba (He.ba (He.ba (He.ba (He.ba (He.ba (He.ba (c.x.more)).2).2).2).2).2).2).2).2).2).2).2).2).2).2).1 ⟨_, rfl, rfl⟩ (by decide +kernel) (noSuper X G c) rfl ⟨rfl, rfl, rfl, by decide, rfl, by decide +kernel, by decide +kernel, by decide +kernel, by decide +kernel⟩ rfl (fun _ => rfl) (fun _ => rfl) (fun _ => rfl) rfl rfl (fun cc kV doc pm an cdv ct us hl => match us, hl with | [_, _], _ => rfl)
omit X G in
theorem XC_InvalidTest : DX.IsC K (He.ga K "InvalidTest") := DX.iscB_ok (He.ba (He.ba (He.ba (He.ba (He.ba (He.ba (He.ba (He.ba (He.ba (He.ba (He.ba (He.ba (He.ba (He.ba (He.ba (He.ba (He.ba (He.ba (He.ba (He.ba (He.ba (He.ba (He.ba (He.ba (He.ba (He.ba (He.ba (He.ba (He.ba (He.ba (He.ba (He.ba (He.ba (He.ba (He.ba (He.ba (He.ba (He.ba (He.ba (He.ba (He.ba (He.ba (He.ba (He.ba (He.ba (He.ba (He.ba (He.ba (He.ba (He.ba (c.x.more)).2).2).2).2).2).2).2).2).2).2).2).2).2).2).2).2).2).2).2).2).2).2).2).2).2).2).2).2).2).2).2).2).2).2).2).2).2).2).2).2).2).2).2).2).2).2).2).2).2).1
theorem E_InvalidStep (base : Heap) : DX.ErD hP w K mg base 2 "InvalidStep" 1 (DX.fs1D "at" "InvalidStep") := by
  obtain ⟨fd, F, B⟩ := E_LotsError X G c base
  exact DX.er1 (d := i_InvalidStep) (d0 := i_LotsError) F B (DX.clsB_ok (He.ba (c.x.more)).1) (gc_InvalidStep X G c) DX.bfV (DX.overB_ok (He.ba (He.ba (He.ba (He.ba (He.ba (He.ba (He.ba (He.ba (He.ba (He.ba (He.ba (He.ba (He.ba (He.ba (He.ba (He.ba (He.ba (He.ba (He.ba (He.ba (He.ba (He.ba (He.ba (He.ba (He.ba (He.ba (He.ba (He.ba (He.ba (He.ba (He.ba (He.ba (He.ba (He.ba (He.ba (He.ba (He.ba (He.ba (He.ba (He.ba (He.ba (He.ba (He.ba (He.ba (He.ba (He.ba (He.ba (He.ba (He.ba (He.ba (He.ba (c.x.more)).2).2).2).2).2).2).2).2).2).2).2).2).2).2).2).2).2).2).2).2).2).2).2).2).2).2).2).2).2).2).2).2).2).2).2).2).2).2).2).2).2).2).2).2).2).2).2).2).2).2).1) (by decide) (by decide) (c.at 13 rfl) (He.ba (He.ba (He.ba (He.ba (He.ba (He.ba (He.ba (He.ba (He.ba (He.ba (He.ba (He.ba (He.ba (He.ba (He.ba (He.ba (c.x.more)).2).2).2).2).2).2).2).2).2).2).2).2).2).2).2).1 ⟨_, rfl, rfl⟩ (by decide +kernel) (noSuper X G c) rfl ⟨rfl, rfl, rfl, by decide, rfl, by decide +kernel, by decide +kernel, by decide +kernel, by decide +kernel⟩ rfl (fun _ => rfl) (fun _ => rfl) (fun _ => rfl) rfl rfl (fun cc kV doc pm an cdv ct us hl => match us, hl with | [_, _], _ => rfl)
omit X G in
theorem XC_InvalidStep : DX.IsC K (He.ga K "InvalidStep") := DX.iscB_ok (He.ba (He.ba (He.ba (He.ba (He.ba (He.ba (He.ba (He.ba (He.ba (He.ba (He.ba (He.ba (He.ba (He.ba (He.ba (He.ba (He.ba (He.ba (He.ba (He.ba (He.ba (He.ba (He.ba (He.ba (He.ba (He.ba (He.ba (He.ba (He.ba (He.ba (He.ba (He.ba (He.ba (He.ba (He.ba (He.ba (He.ba (He.ba (He.ba (He.ba (He.ba (He.ba (He.ba (He.ba (He.ba (He.ba (He.ba (He.ba (He.ba (He.ba (He.ba (He.ba (c.x.more)).2).2).2).2).2).2).2).2).2).2).2).2).2).2).2).2).2).2).2).2).2).2).2).2).2).2).2).2).2).2).2).2).2).2).2).2).2).2).2).2).2).2).2).2).2).2).2).2).2).2).2).1
theorem E_InvalidKey (base : Heap) : DX.ErD hP w K mg base 2 "InvalidKey" 1 (DX.fs1D "given" "InvalidKey") := by
  obtain ⟨fd, F, B⟩ := E_LotsError X G c base
  exact DX.er1 (d := i_InvalidKey) (d0 := i_LotsError) F B (DX.clsB_ok (He.ba (c.x.more)).1) (gc_InvalidKey X G c) DX.bfV (DX.overB_ok (He.ba (He.ba (He.ba (He.ba (He.ba (He.ba (He.ba (He.ba (He.ba (He.ba (He.ba (He.ba (He.ba (He.ba (He.ba (He.ba (He.ba (He.ba (He.ba (He.ba (He.ba (He.ba (He.ba (He.ba (He.ba (He.ba (He.ba (He.ba (He.ba (He.ba (He.ba (He.ba (He.ba (He.ba (He.ba (He.ba (He.ba (He.ba (He.ba (He.ba (He.ba (He.ba (He.ba (He.ba (He.ba (He.ba (He.ba (He.ba (He.ba (He.ba (He.ba (He.ba (He.ba (c.x.more)).2).2).2).2).2).2).2).2).2).2).2).2).2).2).2).2).2).2).2).2).2).2).2).2).2).2).2).2).2).2).2).2).2).2).2).2).2).2).2).2).2).2).2).2).2).2).2).2).2).2).2).2).1) (by decide) (by decide) (c.at 14 rfl) (He.ba (He.ba (He.ba (He.ba (He.ba (He.ba (He.ba (He.ba (He.ba (He.ba (He.ba (He.ba (He.ba (He.ba (He.ba (He.ba (He.ba (c.x.more)).2).2).2).2).2).2).2).2).2).2).2).2).2).2).2).2).1 ⟨_, rfl, rfl⟩ (by decide +kernel) (noSuper X G c) rfl ⟨rfl, rfl, rfl, by decide, rfl, by decide +kernel, by decide +kernel, by decide +kernel, by decide +kernel⟩ rfl (fun _ => rfl) (fun _ => rfl) (fun _ => rfl) rfl rfl (fun cc kV doc pm an cdv ct us hl => match us, hl with | [_, _], _ => rfl)
omit X G in
theorem XC_InvalidKey : DX.IsC K (He.ga K "InvalidKey") := DX.iscB_ok (He.ba (He.ba (He.ba (He.ba (He.ba (He.ba (He.ba (He.ba (He.ba (He.ba (He.ba (He.ba (He.ba (He.ba (He.ba (He.ba (He.ba (He.ba (He.ba (He.ba (He.ba (He.ba (He.ba (He.ba (He.ba (He.ba (He.ba (He.ba (He.ba (He.ba (He.ba (He.ba (He.ba (He.ba (He.ba (He.ba (He.ba (He.ba (He.ba (He.ba (He.ba (He.ba (He.ba (He.ba (He.ba (He.ba (He.ba (He.ba (He.ba (He.ba (He.ba (He.ba (He.ba (He.ba (c.x.more)).2).2).2).2).2).2).2).2).2).2).2).2).2).2).2).2).2).2).2).2).2).2).2).2).2).2).2).2).2).2).2).2).2).2).2).2).2).2).2).2).2).2).2).2).2).2).2).2).2).2).2).2).2).1
theorem E_InvalidSide (base : Heap) : DX.ErD hP w K mg base 2 "InvalidSide" 1 (DX.fs1D "at" "InvalidSide") := by
  obtain ⟨fd, F, B⟩ := E_LotsError X G c base
  exact DX.er1 (d := i_InvalidSide) (d0 := i_LotsError) F B (DX.clsB_ok (He.ba (c.x.more)).1) (gc_InvalidSide X G c) DX.bfV (DX.overB_ok (He.ba (He.ba (He.ba (He.ba (He.ba (He.ba (He.ba (He.ba (He.ba (He.ba (He.ba (He.ba (He.ba (He.ba (He.ba (He.ba (He.ba (He.ba (He.ba (He.ba (He.ba (He.ba (He.ba (He.ba (He.ba (He.ba (He.ba (He.ba (He.ba (He.ba (He.ba (He.ba (He.ba (He.ba (He.ba (He.ba (He.ba (He.ba (He.ba (He.ba (He.ba (He.ba (He.ba (He.ba (He.ba (He.ba (He.ba (He.ba (He.ba (He.ba (He.ba (He.ba (He.ba (He.ba (He.ba (c.x.more)).2).2).2).2).2).2).2).2).2).2).2).2).2).2).2).2).2).2).2).2).2).2).2).2).2).2).2).2).2).2).2).2).2).2).2).2).2).2).2).2).2).2).2).2).2).2).2).2).2).2).2).2).2).2).1) (by decide) (by decide) (c.at 15 rfl) (He.ba (He.ba (He.ba (He.ba (He.ba (He.ba (He.ba (He.ba (He.ba (He.ba (He.ba (He.ba (He.ba (He.ba (He.ba (He.ba (He.ba (He.ba (c.x.more)).2).2).2).2).2).2).2).2).2).2).2).2).2).2).2).2).2).1 ⟨_, rfl, rfl⟩ (by decide +kernel) (noSuper X G c) rfl ⟨rfl, rfl, rfl, by decide, rfl, by decide +kernel, by decide +kernel, by decide +kernel, by decide +kernel⟩ rfl (fun _ => rfl) (fun _ => rfl) (fun _ => rfl) rfl rfl (fun cc kV doc pm an cdv ct us hl => match us, hl with | [_, _], _ => rfl)
omit X G in
theorem XC_InvalidSide : DX.IsC K (He.ga K "InvalidSide") := DX.iscB_ok (He.ba (He.ba (He.ba (He.ba (He.ba (He.ba (He.ba (He.ba (He.ba (He.ba (He.ba (He.ba (He.ba (He.ba (He.ba (He.ba (He.ba (He.ba (He.ba (He.ba (He.ba (He.ba (He.ba (He.ba (He.ba (He.ba (He.ba (He.ba (He.ba (He.ba (He.ba (He.ba (He.ba (He.ba (He.ba (He.ba (He.ba (He.ba (He.ba (He.ba (He.ba (He.ba (He.ba (He.ba (He.ba (He.ba (He.ba (He.ba (He.ba (He.ba (He.ba (He.ba (He.ba (He.ba (He.ba (He.ba (c.x.more)).2).2).2).2).2).2).2).2).2).2).2).2).2).2).2).2).2).2).2).2).2).2).2).2).2).2).2).2).2).2).2).2).2).2).2).2).2).2).2).2).2).2).2).2).2).2).2).2).2).2).2).2).2).2).2).1
theorem E_InvalidColumn (base : Heap) : DX.ErD hP w K mg base 2 "InvalidColumn" 1 (DX.fs1D "at" "InvalidColumn") := by
  obtain ⟨fd, F, B⟩ := E_LotsError X G c base
  exact DX.er1 (d := i_InvalidColumn) (d0 := i_LotsError) F B (DX.clsB_ok (He.ba (c.x.more)).1) (gc_InvalidColumn X G c) DX.bfV (DX.overB_ok (He.ba (He.ba (He.ba (He.ba (He.ba (He.ba (He.ba (He.ba (He.ba (He.ba (He.ba (He.ba (He.ba (He.ba (He.ba (He.ba (He.ba (He.ba (He.ba (He.ba (He.ba (He.ba (He.ba (He.ba (He.ba (He.ba (He.ba (He.ba (He.ba (He.ba (He.ba (He.ba (He.ba (He.ba (He.ba (He.ba (He.ba (He.ba (He.ba (He.ba (He.ba (He.ba (He.ba (He.ba (He.ba (He.ba (He.ba (He.ba (He.ba (He.ba (He.ba (He.ba (He.ba (He.ba (He.ba (He.ba (He.ba (c.x.more)).2).2).2).2).2).2).2).2).2).2).2).2).2).2).2).2).2).2).2).2).2).2).2).2).2).2).2).2).2).2).2).2).2).2).2).2).2).2).2).2).2).2).2).2).2).2).2).2).2).2).2).2).2).2).2).2).1) (by decide) (by decide) (c.at 16 rfl) (He.ba (He.ba (He.ba (He.ba (He.ba (He.ba (He.ba (He.ba (He.ba (He.ba (He.ba (He.ba (He.ba (He.ba (He.ba (He.ba (He.ba (He.ba (He.ba (c.x.more)).2).2).2).2).2).2).2).2).2).2).2).2).2).2).2).2).2).2).1 ⟨_, rfl, rfl⟩ (by decide +kernel) (noSuper X G c) rfl ⟨rfl, rfl, rfl, by decide, rfl, by decide +kernel, by decide +kernel, by decide +kernel, by decide +kernel⟩ rfl (fun _ => rfl) (fun _ => rfl) (fun _ => rfl) rfl rfl (fun cc kV doc pm an cdv ct us hl => match us, hl with | [_, _], _ => rfl)
omit X G in
theorem XC_InvalidColumn : DX.IsC K (He.ga K "InvalidColumn") := DX.iscB_ok (He.ba (He.ba (He.ba (He.ba (He.ba (He.ba (He.ba (He.ba (He.ba (He.ba (He.ba (He.ba (He.ba (He.ba (He.ba (He.ba (He.ba (He.ba (He.ba (He.ba (He.ba (He.ba (He.ba (He.ba (He.ba (He.ba (He.ba (He.ba (He.ba (He.ba (He.ba (He.ba (He.ba (He.ba (He.ba (He.ba (He.ba (He.ba (He.ba (He.ba (He.ba (He.ba (He.ba (He.ba (He.ba (He.ba (He.ba (He.ba (He.ba (He.ba (He.ba (He.ba (He.ba (He.ba (He.ba (He.ba (He.ba (He.ba (c.x.more)).2).2).2).2).2).2).2).2).2).2).2).2).2).2).2).2).2).2).2).2).2).2).2).2).2).2).2).2).2).2).2).2).2).2).2).2).2).2).2).2).2).2).2).2).2).2).2).2).2).2).2).2).2).2).2).2).2).1
theorem E_InvalidName (base : Heap) : DX.ErD hP w K mg base 2 "InvalidName" 1 (DX.fs1D "given" "InvalidName") := by
  obtain ⟨fd, F, B⟩ := E_LotsError X G c base
  exact DX.er1 (d := i_InvalidName) (d0 := i_LotsError) F B (DX.clsB_ok (He.ba (c.x.more)).1) (gc_InvalidName X G c) DX.bfV (DX.overB_ok (He.ba (He.ba (He.ba (He.ba (He.ba (He.ba (He.ba (He.ba (He.ba (He.ba (He.ba (He.ba (He.ba (He.ba (He.ba (He.ba (He.ba (He.ba (He.ba (He.ba (He.ba (He.ba (He.ba (He.ba (He.ba (He.ba (He.ba (He.ba (He.ba (He.ba (He.ba (He.ba (He.ba (He.ba (He.ba (He.ba (He.ba (He.ba (He.ba (He.ba (He.ba (He.ba (He.ba (He.ba (He.ba (He.ba (He.ba (He.ba (He.ba (He.ba (He.ba (He.ba (He.ba (He.ba (He.ba (He.ba (He.ba (He.ba (He.ba (c.x.more)).2).2).2).2).2).2).2).2).2).2).2).2).2).2).2).2).2).2).2).2).2).2).2).2).2).2).2).2).2).2).2).2).2).2).2).2).2).2).2).2).2).2).2).2).2).2).2).2).2).2).2).2).2).2).2).2).2).2).1) (by decide) (by decide) (c.at 17 rfl) (He.ba (He.ba (He.ba (He.ba (He.ba (He.ba (He.ba (He.ba (He.ba (He.ba (He.ba (He.ba (He.ba (He.ba (He.ba (He.ba (He.ba (He.ba (He.ba (He.ba (c.x.more)).2).2).2).2).2).2).2).2).2).2).2).2).2).2).2).2).2).2).2).1 ⟨_, rfl, rfl⟩ (by decide +kernel) (noSuper X G c) rfl ⟨rfl, rfl, rfl, by decide, rfl, by decide +kernel, by decide +kernel, by decide +kernel, by decide +kernel⟩ rfl (fun _ => rfl) (fun _ => rfl) (fun _ => rfl) rfl rfl (fun cc kV doc pm an cdv ct us hl => match us, hl with | [_, _], _ => rfl)
omit X G in
theorem XC_InvalidName : DX.IsC K (He.ga K "InvalidName") := DX.iscB_ok (He.ba (He.ba (He.ba (He.ba (He.ba (He.ba (He.ba (He.ba (He.ba (He.ba (He.ba (He.ba (He.ba (He.ba (He.ba (He.ba (He.ba (He.ba (He.ba (He.ba (He.ba (He.ba (He.ba (He.ba (He.ba (He.ba (He.ba (He.ba (He.ba (He.ba (He.ba (He.ba (He.ba (He.ba (He.ba (He.ba (He.ba (He.ba (He.ba (He.ba (He.ba (He.ba (He.ba (He.ba (He.ba (He.ba (He.ba (He.ba (He.ba (He.ba (He.ba (He.ba (He.ba (He.ba (He.ba (He.ba (He.ba (He.ba (He.ba (He.ba (c.x.more)).2).2).2).2).2).2).2).2).2).2).2).2).2).2).2).2).2).2).2).2).2).2).2).2).2).2).2).2).2).2).2).2).2).2).2).2).2).2).2).2).2).2).2).2).2).2).2).2).2).2).2).2).2).2).2).2).2).2).2).1
theorem E_Untold (base : Heap) : DX.ErD hP w K mg base 2 "Untold" 0 (DX.fs0D "Untold") := by
  obtain ⟨fd, F, B⟩ := E_LotsError X G c base
  exact DX.er0 (d := i_Untold) (d0 := i_LotsError) F B (DX.clsB_ok (He.ba (c.x.more)).1) (gc_Untold X G c) DX.bfV (DX.overB_ok (He.ba (He.ba (He.ba (He.ba (He.ba (He.ba (He.ba (He.ba (He.ba (He.ba (He.ba (He.ba (He.ba (He.ba (He.ba (He.ba (He.ba (He.ba (He.ba (He.ba (He.ba (He.ba (He.ba (He.ba (He.ba (He.ba (He.ba (He.ba (He.ba (He.ba (He.ba (He.ba (He.ba (He.ba (He.ba (He.ba (He.ba (He.ba (He.ba (He.ba (He.ba (He.ba (He.ba (He.ba (He.ba (He.ba (He.ba (He.ba (He.ba (He.ba (He.ba (He.ba (He.ba (He.ba (He.ba (He.ba (He.ba (He.ba (He.ba (He.ba (He.ba (c.x.more)).2).2).2).2).2).2).2).2).2).2).2).2).2).2).2).2).2).2).2).2).2).2).2).2).2).2).2).2).2).2).2).2).2).2).2).2).2).2).2).2).2).2).2).2).2).2).2).2).2).2).2).2).2).2).2).2).2).2).2).2).1) (by decide) (c.at 18 rfl) (He.ba (He.ba (He.ba (He.ba (He.ba (He.ba (He.ba (He.ba (He.ba (He.ba (He.ba (He.ba (He.ba (He.ba (He.ba (He.ba (He.ba (He.ba (He.ba (He.ba (He.ba (c.x.more)).2).2).2).2).2).2).2).2).2).2).2).2).2).2).2).2).2).2).2).2).1 ⟨_, rfl, rfl⟩ (by decide +kernel) (noSuper X G c) rfl ⟨rfl, rfl, rfl, by decide, rfl, by decide +kernel, by decide +kernel, by decide +kernel, by decide +kernel⟩ rfl (fun _ => rfl) (fun _ => rfl) (fun cc kV doc pm an cdv ct us hl => match us, hl with | [_], _ => rfl)
omit X G in
theorem XC_Untold : DX.IsC K (He.ga K "Untold") := DX.iscB_ok (He.ba (He.ba (He.ba (He.ba (He.ba (He.ba (He.ba (He.ba (He.ba (He.ba (He.ba (He.ba (He.ba (He.ba (He.ba (He.ba (He.ba (He.ba (He.ba (He.ba (He.ba (He.ba (He.ba (He.ba (He.ba (He.ba (He.ba (He.ba (He.ba (He.ba (He.ba (He.ba (He.ba (He.ba (He.ba (He.ba (He.ba (He.ba (He.ba (He.ba (He.ba (He.ba (He.ba (He.ba (He.ba (He.ba (He.ba (He.ba (He.ba (He.ba (He.ba (He.ba (He.ba (He.ba (He.ba (He.ba (He.ba (He.ba (He.ba (He.ba (He.ba (He.ba (c.x.more)).2).2).2).2).2).2).2).2).2).2).2).2).2).2).2).2).2).2).2).2).2).2).2).2).2).2).2).2).2).2).2).2).2).2).2).2).2).2).2).2).2).2).2).2).2).2).2).2).2).2).2).2).2).2).2).2).2).2).2).2).2).1
theorem E_OtherProgram (base : Heap) : DX.ErD hP w K mg base 2 "OtherProgram" 0 (DX.fs0D "OtherProgram") := by
  obtain ⟨fd, F, B⟩ := E_LotsError X G c base
  exact DX.er0 (d := i_OtherProgram) (d0 := i_LotsError) F B (DX.clsB_ok (He.ba (c.x.more)).1) (gc_OtherProgram X G c) DX.bfV (DX.overB_ok (He.ba (He.ba (He.ba (He.ba (He.ba (He.ba (He.ba (He.ba (He.ba (He.ba (He.ba (He.ba (He.ba (He.ba (He.ba (He.ba (He.ba (He.ba (He.ba (He.ba (He.ba (He.ba (He.ba (He.ba (He.ba (He.ba (He.ba (He.ba (He.ba (He.ba (He.ba (He.ba (He.ba (He.ba (He.ba (He.ba (He.ba (He.ba (He.ba (He.ba (He.ba (He.ba (He.ba (He.ba (He.ba (He.ba (He.ba (He.ba (He.ba (He.ba (He.ba (He.ba (He.ba (He.ba (He.ba (He.ba (He.ba (He.ba (He.ba (He.ba (He.ba (He.ba (He.ba (c.x.more)).2).2).2).2).2).2).2).2).2).2).2).2).2).2).2).2).2).2).2).2).2).2).2).2).2).2).2).2).2).2).2).2).2).2).2).2).2).2).2).2).2).2).2).2).2).2).2).2).2).2).2).2).2).2).2).2).2).2).2).2).2).2).1) (by decide) (c.at 19 rfl) (He.ba (He.ba (He.ba (He.ba (He.ba (He.ba (He.ba (He.ba (He.ba (He.ba (He.ba (He.ba (He.ba (He.ba (He.ba (He.ba (He.ba (He.ba (He.ba (He.ba (He.ba (He.ba (c.x.more)).2).2).2).2).2).2).2).2).2).2).2).2).2).2).2).2).2).2).2).2).2).1 ⟨_, rfl, rfl⟩ (by decide +kernel) (noSuper X G c) rfl ⟨rfl, rfl, rfl, by decide, rfl, by decide +kernel, by decide +kernel, by decide +kernel, by decide +kernel⟩ rfl (fun _ => rfl) (fun _ => rfl) (fun cc kV doc pm an cdv ct us hl => match us, hl with | [_], _ => rfl)
omit X G in
theorem XC_OtherProgram : DX.IsC K (He.ga K "OtherProgram") := DX.iscB_ok (He.ba (He.ba (He.ba (He.ba (He.ba (He.ba (He.ba (He.ba (He.ba (He.ba (He.ba (He.ba (He.ba (He.ba (He.ba (He.ba (He.ba (He.ba (He.ba (He.ba (He.ba (He.ba (He.ba (He.ba (He.ba (He.ba (He.ba (He.ba (He.ba (He.ba (He.ba (He.ba (He.ba (He.ba (He.ba (He.ba (He.ba (He.ba (He.ba (He.ba (He.ba (He.ba (He.ba (He.ba (He.ba (He.ba (He.ba (He.ba (He.ba (He.ba (He.ba (He.ba (He.ba (He.ba (He.ba (He.ba (He.ba (He.ba (He.ba (He.ba (He.ba (He.ba (He.ba (He.ba (c.x.more)).2).2).2).2).2).2).2).2).2).2).2).2).2).2).2).2).2).2).2).2).2).2).2).2).2).2).2).2).2).2).2).2).2).2).2).2).2).2).2).2).2).2).2).2).2).2).2).2).2).2).2).2).2).2).2).2).2).2).2).2).2).2).2).1
theorem E_Torn (base : Heap) : DX.ErD hP w K mg base 2 "Torn" 2 (DX.fs2D "one" "other" "Torn") := by
  obtain ⟨fd, F, B⟩ := E_LotsError X G c base
  exact DX.er2 (d := i_Torn) (d0 := i_LotsError) F B (DX.clsB_ok (He.ba (c.x.more)).1) (gc_Torn X G c) DX.bfV (DX.overB_ok (He.ba (He.ba (He.ba (He.ba (He.ba (He.ba (He.ba (He.ba (He.ba (He.ba (He.ba (He.ba (He.ba (He.ba (He.ba (He.ba (He.ba (He.ba (He.ba (He.ba (He.ba (He.ba (He.ba (He.ba (He.ba (He.ba (He.ba (He.ba (He.ba (He.ba (He.ba (He.ba (He.ba (He.ba (He.ba (He.ba (He.ba (He.ba (He.ba (He.ba (He.ba (He.ba (He.ba (He.ba (He.ba (He.ba (He.ba (He.ba (He.ba (He.ba (He.ba (He.ba (He.ba (He.ba (He.ba (He.ba (He.ba (He.ba (He.ba (He.ba (He.ba (He.ba (He.ba (He.ba (He.ba (c.x.more)).2).2).2).2).2).2).2).2).2).2).2).2).2).2).2).2).2).2).2).2).2).2).2).2).2).2).2).2).2).2).2).2).2).2).2).2).2).2).2).2).2).2).2).2).2).2).2).2).2).2).2).2).2).2).2).2).2).2).2).2).2).2).2).2).1) (by decide) (by decide) (by decide) (c.at 20 rfl) (He.ba (He.ba (He.ba (He.ba (He.ba (He.ba (He.ba (He.ba (He.ba (He.ba (He.ba (He.ba (He.ba (He.ba (He.ba (He.ba (He.ba (He.ba (He.ba (He.ba (He.ba (He.ba (He.ba (c.x.more)).2).2).2).2).2).2).2).2).2).2).2).2).2).2).2).2).2).2).2).2).2).2).1 ⟨_, rfl, rfl⟩ (by decide +kernel) (noSuper X G c) rfl ⟨rfl, rfl, rfl, by decide, rfl, by decide +kernel, by decide +kernel, by decide +kernel, by decide +kernel⟩ rfl (fun _ => rfl) (fun _ => rfl) (fun _ => rfl) (fun _ => rfl) rfl rfl rfl rfl (fun cc kV doc pm an cdv ct us hl => match us, hl with | [_, _, _], _ => rfl)
omit X G in
theorem XC_Torn : DX.IsC K (He.ga K "Torn") := DX.iscB_ok (He.ba (He.ba (He.ba (He.ba (He.ba (He.ba (He.ba (He.ba (He.ba (He.ba (He.ba (He.ba (He.ba (He.ba (He.ba (He.ba (He.ba (He.ba (He.ba (He.ba (He.ba (He.ba (He.ba (He.ba (He.ba (He.ba (He.ba (He.ba (He.ba (He.ba (He.ba (He.ba (He.ba (He.ba (He.ba (He.ba (He.ba (He.ba (He.ba (He.ba (He.ba (He.ba (He.ba (He.ba (He.ba (He.ba (He.ba (He.ba (He.ba (He.ba (He.ba (He.ba (He.ba (He.ba (He.ba (He.ba (He.ba (He.ba (He.ba (He.ba (He.ba (He.ba (He.ba (He.ba (He.ba (He.ba (c.x.more)).2).2).2).2).2).2).2).2).2).2).2).2).2).2).2).2).2).2).2).2).2).2).2).2).2).2).2).2).2).2).2).2).2).2).2).2).2).2).2).2).2).2).2).2).2).2).2).2).2).2).2).2).2).2).2).2).2).2).2).2).2).2).2).2).2).1
theorem E_InvalidRow (base : Heap) : DX.ErD hP w K mg base 2 "InvalidRow" 2 (DX.fs2D "table" "at" "InvalidRow") := by
  obtain ⟨fd, F, B⟩ := E_LotsError X G c base
  exact DX.er2 (d := i_InvalidRow) (d0 := i_LotsError) F B (DX.clsB_ok (He.ba (c.x.more)).1) (gc_InvalidRow X G c) DX.bfV (DX.overB_ok (He.ba (He.ba (He.ba (He.ba (He.ba (He.ba (He.ba (He.ba (He.ba (He.ba (He.ba (He.ba (He.ba (He.ba (He.ba (He.ba (He.ba (He.ba (He.ba (He.ba (He.ba (He.ba (He.ba (He.ba (He.ba (He.ba (He.ba (He.ba (He.ba (He.ba (He.ba (He.ba (He.ba (He.ba (He.ba (He.ba (He.ba (He.ba (He.ba (He.ba (He.ba (He.ba (He.ba (He.ba (He.ba (He.ba (He.ba (He.ba (He.ba (He.ba (He.ba (He.ba (He.ba (He.ba (He.ba (He.ba (He.ba (He.ba (He.ba (He.ba (He.ba (He.ba (He.ba (He.ba (He.ba (He.ba (He.ba (c.x.more)).2).2).2).2).2).2).2).2).2).2).2).2).2).2).2).2).2).2).2).2).2).2).2).2).2).2).2).2).2).2).2).2).2).2).2).2).2).2).2).2).2).2).2).2).2).2).2).2).2).2).2).2).2).2).2).2).2).2).2).2).2).2).2).2).2).2).1) (by decide) (by decide) (by decide) (c.at 21 rfl) (He.ba (He.ba (He.ba (He.ba (He.ba (He.ba (He.ba (He.ba (He.ba (He.ba (He.ba (He.ba (He.ba (He.ba (He.ba (He.ba (He.ba (He.ba (He.ba (He.ba (He.ba (He.ba (He.ba (He.ba (c.x.more)).2).2).2).2).2).2).2).2).2).2).2).2).2).2).2).2).2).2).2).2).2).2).2).1 ⟨_, rfl, rfl⟩ (by decide +kernel) (noSuper X G c) rfl ⟨rfl, rfl, rfl, by decide, rfl, by decide +kernel, by decide +kernel, by decide +kernel, by decide +kernel⟩ rfl (fun _ => rfl) (fun _ => rfl) (fun _ => rfl) (fun _ => rfl) rfl rfl rfl rfl (fun cc kV doc pm an cdv ct us hl => match us, hl with | [_, _, _], _ => rfl)
omit X G in
theorem XC_InvalidRow : DX.IsC K (He.ga K "InvalidRow") := DX.iscB_ok (He.ba (He.ba (He.ba (He.ba (He.ba (He.ba (He.ba (He.ba (He.ba (He.ba (He.ba (He.ba (He.ba (He.ba (He.ba (He.ba (He.ba (He.ba (He.ba (He.ba (He.ba (He.ba (He.ba (He.ba (He.ba (He.ba (He.ba (He.ba (He.ba (He.ba (He.ba (He.ba (He.ba (He.ba (He.ba (He.ba (He.ba (He.ba (He.ba (He.ba (He.ba (He.ba (He.ba (He.ba (He.ba (He.ba (He.ba (He.ba (He.ba (He.ba (He.ba (He.ba (He.ba (He.ba (He.ba (He.ba (He.ba (He.ba (He.ba (He.ba (He.ba (He.ba (He.ba (He.ba (He.ba (He.ba (He.ba (He.ba (c.x.more)).2).2).2).2).2).2).2).2).2).2).2).2).2).2).2).2).2).2).2).2).2).2).2).2).2).2).2).2).2).2).2).2).2).2).2).2).2).2).2).2).2).2).2).2).2).2).2).2).2).2).2).2).2).2).2).2).2).2).2).2).2).2).2).2).2).2).2).1
theorem E_UnknownRow (base : Heap) : DX.ErD hP w K mg base 2 "UnknownRow" 1 (DX.fs1D "number" "UnknownRow") := by
  obtain ⟨fd, F, B⟩ := E_Missing X G c base
  exact DX.er1 (d := i_UnknownRow) (d0 := i_Missing) F B (DX.clsB_ok (He.ba (He.ba (c.x.more)).2).1) (gc_UnknownRow X G c) DX.bfL (DX.overB_ok (He.ba (He.ba (He.ba (He.ba (He.ba (He.ba (He.ba (He.ba (He.ba (He.ba (He.ba (He.ba (He.ba (He.ba (He.ba (He.ba (He.ba (He.ba (He.ba (He.ba (He.ba (He.ba (He.ba (He.ba (He.ba (He.ba (He.ba (He.ba (He.ba (He.ba (He.ba (He.ba (He.ba (He.ba (He.ba (He.ba (He.ba (He.ba (He.ba (He.ba (He.ba (He.ba (He.ba (He.ba (He.ba (He.ba (He.ba (He.ba (He.ba (He.ba (He.ba (He.ba (He.ba (He.ba (He.ba (He.ba (He.ba (He.ba (He.ba (He.ba (He.ba (He.ba (He.ba (He.ba (He.ba (He.ba (He.ba (He.ba (He.ba (c.x.more)).2).2).2).2).2).2).2).2).2).2).2).2).2).2).2).2).2).2).2).2).2).2).2).2).2).2).2).2).2).2).2).2).2).2).2).2).2).2).2).2).2).2).2).2).2).2).2).2).2).2).2).2).2).2).2).2).2).2).2).2).2).2).2).2).2).2).2).2).1) (by decide) (by decide) (c.at 22 rfl) (He.ba (He.ba (He.ba (He.ba (He.ba (He.ba (He.ba (He.ba (He.ba (He.ba (He.ba (He.ba (He.ba (He.ba (He.ba (He.ba (He.ba (He.ba (He.ba (He.ba (He.ba (He.ba (He.ba (He.ba (He.ba (c.x.more)).2).2).2).2).2).2).2).2).2).2).2).2).2).2).2).2).2).2).2).2).2).2).2).2).1 ⟨_, rfl, rfl⟩ (by decide +kernel) (noSuper X G c) rfl ⟨rfl, rfl, rfl, by decide, rfl, by decide +kernel, by decide +kernel, by decide +kernel, by decide +kernel⟩ rfl (fun _ => rfl) (fun _ => rfl) (fun _ => rfl) rfl rfl (fun cc kV doc pm an cdv ct us hl => match us, hl with | [_, _], _ => rfl)
omit X G in
theorem XC_UnknownRow : DX.IsC K (He.ga K "UnknownRow") := DX.iscB_ok (He.ba (He.ba (He.ba (He.ba (He.ba (He.ba (He.ba (He.ba (He.ba (He.ba (He.ba (He.ba (He.ba (He.ba (He.ba (He.ba (He.ba (He.ba (He.ba (He.ba (He.ba (He.ba (He.ba (He.ba (He.ba (He.ba (He.ba (He.ba (He.ba (He.ba (He.ba (He.ba (He.ba (He.ba (He.ba (He.ba (He.ba (He.ba (He.ba (He.ba (He.ba (He.ba (He.ba (He.ba (He.ba (He.ba (He.ba (He.ba (He.ba (He.ba (He.ba (He.ba (He.ba (He.ba (He.ba (He.ba (He.ba (He.ba (He.ba (He.ba (He.ba (He.ba (He.ba (He.ba (He.ba (He.ba (He.ba (He.ba (He.ba (He.ba (c.x.more)).2).2).2).2).2).2).2).2).2).2).2).2).2).2).2).2).2).2).2).2).2).2).2).2).2).2).2).2).2).2).2).2).2).2).2).2).2).2).2).2).2).2).2).2).2).2).2).2).2).2).2).2).2).2).2).2).2).2).2).2).2).2).2).2).2).2).2).2).2).1
theorem E_UnknownColumn (base : Heap) : DX.ErD hP w K mg base 2 "UnknownColumn" 1 (DX.fs1D "name" "UnknownColumn") := by
  obtain ⟨fd, F, B⟩ := E_Missing X G c base
  exact DX.er1 (d := i_UnknownColumn) (d0 := i_Missing) F B (DX.clsB_ok (He.ba (He.ba (c.x.more)).2).1) (gc_UnknownColumn X G c) DX.bfL (DX.overB_ok (He.ba (He.ba (He.ba (He.ba (He.ba (He.ba (He.ba (He.ba (He.ba (He.ba (He.ba (He.ba (He.ba (He.ba (He.ba (He.ba (He.ba (He.ba (He.ba (He.ba (He.ba (He.ba (He.ba (He.ba (He.ba (He.ba (He.ba (He.ba (He.ba (He.ba (He.ba (He.ba (He.ba (He.ba (He.ba (He.ba (He.ba (He.ba (He.ba (He.ba (He.ba (He.ba (He.ba (He.ba (He.ba (He.ba (He.ba (He.ba (He.ba (He.ba (He.ba (He.ba (He.ba (He.ba (He.ba (He.ba (He.ba (He.ba (He.ba (He.ba (He.ba (He.ba (He.ba (He.ba (He.ba (He.ba (He.ba (He.ba (He.ba (He.ba (He.ba (c.x.more)).2).2).2).2).2).2).2).2).2).2).2).2).2).2).2).2).2).2).2).2).2).2).2).2).2).2).2).2).2).2).2).2).2).2).2).2).2).2).2).2).2).2).2).2).2).2).2).2).2).2).2).2).2).2).2).2).2).2).2).2).2).2).2).2).2).2).2).2).2).2).1) (by decide) (by decide) (c.at 23 rfl) (He.ba (He.ba (He.ba (He.ba (He.ba (He.ba (He.ba (He.ba (He.ba (He.ba (He.ba (He.ba (He.ba (He.ba (He.ba (He.ba (He.ba (He.ba (He.ba (He.ba (He.ba (He.ba (He.ba (He.ba (He.ba (He.ba (c.x.more)).2).2).2).2).2).2).2).2).2).2).2).2).2).2).2).2).2).2).2).2).2).2).2).2).2).1 ⟨_, rfl, rfl⟩ (by decide +kernel) (noSuper X G c) rfl ⟨rfl, rfl, rfl, by decide, rfl, by decide +kernel, by decide +kernel, by decide +kernel, by decide +kernel⟩ rfl (fun _ => rfl) (fun _ => rfl) (fun _ => rfl) rfl rfl (fun cc kV doc pm an cdv ct us hl => match us, hl with | [_, _], _ => rfl)
omit X G in
theorem XC_UnknownColumn : DX.IsC K (He.ga K "UnknownColumn") := DX.iscB_ok (He.ba (He.ba (He.ba (He.ba (He.ba (He.ba (He.ba (He.ba (He.ba (He.ba (He.ba (He.ba (He.ba (He.ba (He.ba (He.ba (He.ba (He.ba (He.ba (He.ba (He.ba (He.ba (He.ba (He.ba (He.ba (He.ba (He.ba (He.ba (He.ba (He.ba (He.ba (He.ba (He.ba (He.ba (He.ba (He.ba (He.ba (He.ba (He.ba (He.ba (He.ba (He.ba (He.ba (He.ba (He.ba (He.ba (He.ba (He.ba (He.ba (He.ba (He.ba (He.ba (He.ba (He.ba (He.ba (He.ba (He.ba (He.ba (He.ba (He.ba (He.ba (He.ba (He.ba (He.ba (He.ba (He.ba (He.ba (He.ba (He.ba (He.ba (He.ba (He.ba (c.x.more)).2).2).2).2).2).2).2).2).2).2).2).2).2).2).2).2).2).2).2).2).2).2).2).2).2).2).2).2).2).2).2).2).2).2).2).2).2).2).2).2).2).2).2).2).2).2).2).2).2).2).2).2).2).2).2).2).2).2).2).2).2).2).2).2).2).2).2).2).2).2).2).1
theorem E_UnknownName (base : Heap) : DX.ErD hP w K mg base 2 "UnknownName" 1 (DX.fs1D "name" "UnknownName") := by
  obtain ⟨fd, F, B⟩ := E_Missing X G c base
  exact DX.er1 (d := i_UnknownName) (d0 := i_Missing) F B (DX.clsB_ok (He.ba (He.ba (c.x.more)).2).1) (gc_UnknownName X G c) DX.bfL (DX.overB_ok (He.ba (He.ba (He.ba (He.ba (He.ba (He.ba (He.ba (He.ba (He.ba (He.ba (He.ba (He.ba (He.ba (He.ba (He.ba (He.ba (He.ba (He.ba (He.ba (He.ba (He.ba (He.ba (He.ba (He.ba (He.ba (He.ba (He.ba (He.ba (He.ba (He.ba (He.ba (He.ba (He.ba (He.ba (He.ba (He.ba (He.ba (He.ba (He.ba (He.ba (He.ba (He.ba (He.ba (He.ba (He.ba (He.ba (He.ba (He.ba (He.ba (He.ba (He.ba (He.ba (He.ba (He.ba (He.ba (He.ba (He.ba (He.ba (He.ba (He.ba (He.ba (He.ba (He.ba (He.ba (He.ba (He.ba (He.ba (He.ba (He.ba (He.ba (He.ba (He.ba (He.ba (c.x.more)).2).2).2).2).2).2).2).2).2).2).2).2).2).2).2).2).2).2).2).2).2).2).2).2).2).2).2).2).2).2).2).2).2).2).2).2).2).2).2).2).2).2).2).2).2).2).2).2).2).2).2).2).2).2).2).2).2).2).2).2).2).2).2).2).2).2).2).2).2).2).2).2).1) (by decide) (by decide) (c.at 24 rfl) (He.ba (He.ba (He.ba (He.ba (He.ba (He.ba (He.ba (He.ba (He.ba (He.ba (He.ba (He.ba (He.ba (He.ba (He.ba (He.ba (He.ba (He.ba (He.ba (He.ba (He.ba (He.ba (He.ba (He.ba (He.ba (He.ba (He.ba (c.x.more)).2).2).2).2).2).2).2).2).2).2).2).2).2).2).2).2).2).2).2).2).2).2).2).2).2).2).1 ⟨_, rfl, rfl⟩ (by decide +kernel) (noSuper X G c) rfl ⟨rfl, rfl, rfl, by decide, rfl, by decide +kernel, by decide +kernel, by decide +kernel, by decide +kernel⟩ rfl (fun _ => rfl) (fun _ => rfl) (fun _ => rfl) rfl rfl (fun cc kV doc pm an cdv ct us hl => match us, hl with | [_, _], _ => rfl)
omit X G in
theorem XC_UnknownName : DX.IsC K (He.ga K "UnknownName") := DX.iscB_ok (He.ba (He.ba (He.ba (He.ba (He.ba (He.ba (He.ba (He.ba (He.ba (He.ba (He.ba (He.ba (He.ba (He.ba (He.ba (He.ba (He.ba (He.ba (He.ba (He.ba (He.ba (He.ba (He.ba (He.ba (He.ba (He.ba (He.ba (He.ba (He.ba (He.ba (He.ba (He.ba (He.ba (He.ba (He.ba (He.ba (He.ba (He.ba (He.ba (He.ba (He.ba (He.ba (He.ba (He.ba (He.ba (He.ba (He.ba (He.ba (He.ba (He.ba (He.ba (He.ba (He.ba (He.ba (He.ba (He.ba (He.ba (He.ba (He.ba (He.ba (He.ba (He.ba (He.ba (He.ba (He.ba (He.ba (He.ba (He.ba (He.ba (He.ba (He.ba (He.ba (He.ba (He.ba (c.x.more)).2).2).2).2).2).2).2).2).2).2).2).2).2).2).2).2).2).2).2).2).2).2).2).2).2).2).2).2).2).2).2).2).2).2).2).2).2).2).2).2).2).2).2).2).2).2).2).2).2).2).2).2).2).2).2).2).2).2).2).2).2).2).2).2).2).2).2).2).2).2).2).2).2).1
theorem E_NothingLeft (base : Heap) : DX.ErD hP w K mg base 1 "NothingLeft" 0 (DX.fs0D "NothingLeft") :=
  DX.erB0 (d := i_NothingLeft) DX.bfI (gc_NothingLeft X G c) (He.ba (He.ba (He.ba (He.ba (He.ba (He.ba (He.ba (He.ba (He.ba (He.ba (He.ba (He.ba (He.ba (He.ba (He.ba (He.ba (He.ba (He.ba (He.ba (He.ba (He.ba (He.ba (He.ba (He.ba (He.ba (He.ba (He.ba (He.ba (He.ba (He.ba (He.ba (He.ba (He.ba (He.ba (He.ba (He.ba (He.ba (He.ba (He.ba (He.ba (He.ba (He.ba (He.ba (He.ba (He.ba (He.ba (He.ba (He.ba (He.ba (He.ba (He.ba (He.ba (He.ba (He.ba (He.ba (He.ba (He.ba (He.ba (He.ba (He.ba (He.ba (He.ba (He.ba (He.ba (He.ba (He.ba (He.ba (He.ba (He.ba (He.ba (He.ba (He.ba (He.ba (He.ba (He.ba (c.x.more)).2).2).2).2).2).2).2).2).2).2).2).2).2).2).2).2).2).2).2).2).2).2).2).2).2).2).2).2).2).2).2).2).2).2).2).2).2).2).2).2).2).2).2).2).2).2).2).2).2).2).2).2).2).2).2).2).2).2).2).2).2).2).2).2).2).2).2).2).2).2).2).2).2).2).1 (by decide) (c.at 25 rfl) (He.ba (He.ba (He.ba (He.ba (He.ba (He.ba (He.ba (He.ba (He.ba (He.ba (He.ba (He.ba (He.ba (He.ba (He.ba (He.ba (He.ba (He.ba (He.ba (He.ba (He.ba (He.ba (He.ba (He.ba (He.ba (He.ba (He.ba (He.ba (c.x.more)).2).2).2).2).2).2).2).2).2).2).2).2).2).2).2).2).2).2).2).2).2).2).2).2).2).2).2).1 ⟨_, rfl, rfl⟩ (by decide +kernel) (noSuper X G c) rfl ⟨rfl, rfl, rfl, by decide, rfl, by decide +kernel, by decide +kernel, by decide +kernel, by decide +kernel⟩ rfl (fun _ => rfl) (fun _ => rfl) (fun _ => rfl) (fun cc kV doc pm an cdv ct us hl => match us, hl with | [_], _ => rfl)
omit X G in
theorem XC_NothingLeft : DX.IsC K (He.ga K "NothingLeft") := DX.iscB_ok (He.ba (He.ba (He.ba (He.ba (He.ba (He.ba (He.ba (He.ba (He.ba (He.ba (He.ba (He.ba (He.ba (He.ba (He.ba (He.ba (He.ba (He.ba (He.ba (He.ba (He.ba (He.ba (He.ba (He.ba (He.ba (He.ba (He.ba (He.ba (He.ba (He.ba (He.ba (He.ba (He.ba (He.ba (He.ba (He.ba (He.ba (He.ba (He.ba (He.ba (He.ba (He.ba (He.ba (He.ba (He.ba (He.ba (He.ba (He.ba (He.ba (He.ba (He.ba (He.ba (He.ba (He.ba (He.ba (He.ba (He.ba (He.ba (He.ba (He.ba (He.ba (He.ba (He.ba (He.ba (He.ba (He.ba (He.ba (He.ba (He.ba (He.ba (He.ba (He.ba (He.ba (He.ba (He.ba (He.ba (c.x.more)).2).2).2).2).2).2).2).2).2).2).2).2).2).2).2).2).2).2).2).2).2).2).2).2).2).2).2).2).2).2).2).2).2).2).2).2).2).2).2).2).2).2).2).2).2).2).2).2).2).2).2).2).2).2).2).2).2).2).2).2).2).2).2).2).2).2).2).2).2).2).2).2).2).2).2).1
omit X G in
theorem XM_tab : (isTab K) = true := (He.ba (He.ba (He.ba (He.ba (He.ba (He.ba (He.ba (He.ba (He.ba (He.ba (He.ba (He.ba (He.ba (He.ba (He.ba (He.ba (He.ba (He.ba (He.ba (He.ba (He.ba (He.ba (He.ba (He.ba (He.ba (He.ba (He.ba (He.ba (He.ba (He.ba (He.ba (He.ba (He.ba (He.ba (He.ba (He.ba (He.ba (He.ba (He.ba (He.ba (He.ba (He.ba (He.ba (He.ba (He.ba (He.ba (He.ba (He.ba (He.ba (He.ba (He.ba (He.ba (He.ba (He.ba (He.ba (He.ba (He.ba (He.ba (He.ba (He.ba (He.ba (He.ba (He.ba (He.ba (He.ba (He.ba (He.ba (He.ba (He.ba (He.ba (He.ba (He.ba (He.ba (He.ba (He.ba (He.ba (He.ba (c.x.more)).2).2).2).2).2).2).2).2).2).2).2).2).2).2).2).2).2).2).2).2).2).2).2).2).2).2).2).2).2).2).2).2).2).2).2).2).2).2).2).2).2).2).2).2).2).2).2).2).2).2).2).2).2).2).2).2).2).2).2).2).2).2).2).2).2).2).2).2).2).2).2).2).2).2).2).2).1
omit X G in
theorem XM_bas : (isBas K) = true := (He.ba (He.ba (He.ba (He.ba (He.ba (He.ba (He.ba (He.ba (He.ba (He.ba (He.ba (He.ba (He.ba (He.ba (He.ba (He.ba (He.ba (He.ba (He.ba (He.ba (He.ba (He.ba (He.ba (He.ba (He.ba (He.ba (He.ba (He.ba (He.ba (He.ba (He.ba (He.ba (He.ba (He.ba (He.ba (He.ba (He.ba (He.ba (He.ba (He.ba (He.ba (He.ba (He.ba (He.ba (He.ba (He.ba (He.ba (He.ba (He.ba (He.ba (He.ba (He.ba (He.ba (He.ba (He.ba (He.ba (He.ba (He.ba (He.ba (He.ba (He.ba (He.ba (He.ba (He.ba (He.ba (He.ba (He.ba (He.ba (He.ba (He.ba (He.ba (He.ba (He.ba (He.ba (He.ba (He.ba (He.ba (c.x.more)).2).2).2).2).2).2).2).2).2).2).2).2).2).2).2).2).2).2).2).2).2).2).2).2).2).2).2).2).2).2).2).2).2).2).2).2).2).2).2).2).2).2).2).2).2).2).2).2).2).2).2).2).2).2).2).2).2).2).2).2).2).2).2).2).2).2).2).2).2).2).2).2).2).2).2).2).2
end
section
variable {w : World} {K : PySem.W.Frag} {h : Heap} (c : DX.SaysI hfa hfn hts [] hex hins w h K)
include c
theorem F__law_box : ∃ fd, FnM K "_law_box" "_law_box" st__law_box (He.fAd K ("_law_box", none)) fd := c.x.t.d.def_ 0 (d := dd__law_box) rfl
theorem F__law_pull : ∃ fd, FnM K "_law_pull" "_law_pull" st__law_pull (He.fAd K ("_law_pull", none)) fd := c.x.t.d.def_ 1 (d := dd__law_pull) rfl
theorem F__law_of : ∃ fd, FnM K "_law_of" "_law_of" st__law_of (He.fAd K ("_law_of", none)) fd := c.x.t.d.def_ 2 (d := dd__law_of) rfl
theorem F__law_same : ∃ fd, FnM K "_law_same" "_law_same" st__law_same (He.fAd K ("_law_same", none)) fd := c.x.t.d.def_ 3 (d := dd__law_same) rfl
theorem F__law_field : ∃ fd, FnM K "_law_field" "_law_field" st__law_field (He.fAd K ("_law_field", none)) fd := c.x.t.d.def_ 4 (d := dd__law_field) rfl
theorem F__law_odd : ∃ fd, FnM K "_law_odd" "_law_odd" st__law_odd (He.fAd K ("_law_odd", none)) fd := c.x.t.d.def_ 5 (d := dd__law_odd) rfl
theorem F__law_bases : ∃ fd, FnM K "_law_bases" "_law_bases" st__law_bases (He.fAd K ("_law_bases", none)) fd := c.x.t.d.def_ 6 (d := dd__law_bases) rfl
theorem F__law_apart : ∃ fd, FnM K "_law_apart" "_law_apart" st__law_apart (He.fAd K ("_law_apart", none)) fd := c.x.t.d.def_ 7 (d := dd__law_apart) rfl
theorem F_law : ∃ fd, FnM K "law" "law" st_law (He.fAd K ("law", none)) fd := c.x.t.d.def_ 8 (d := dd_law) rfl
end
theorem B__law_pull_2 {K : PySem.W.Frag} {f : Addr} {fd : FuncData} (F : FnM K "_law_pull" "_law_pull" st__law_pull f fd) : Binds K fd ["_law_box_here", "_law_many"] [] := F.bindsN fun _ _ _ _ _ _ us hl => match us, hl with | [_, _], _ => rfl
theorem B__law_same_2 {K : PySem.W.Frag} {f : Addr} {fd : FuncData} (F : FnM K "_law_same" "_law_same" st__law_same f fd) : Binds K fd ["_law_found", "_law_due"] [] := F.bindsN fun _ _ _ _ _ _ us hl => match us, hl with | [_, _], _ => rfl
theorem B__law_of_2 {K : PySem.W.Frag} {f : Addr} {fd : FuncData} (F : FnM K "_law_of" "_law_of" st__law_of f fd) : Binds K fd ["_law_box_here", "_law_some"] [] := F.bindsN fun _ _ _ _ _ _ us hl => match us, hl with | [_, _], _ => rfl
theorem B__law_box_1 {K : PySem.W.Frag} {f : Addr} {fd : FuncData} (F : FnM K "_law_box" "_law_box" st__law_box f fd) : Binds K fd ["_law_script"] [] := F.bindsN fun _ _ _ _ _ _ us hl => match us, hl with | [_], _ => rfl
theorem B__law_odd_2 {K : PySem.W.Frag} {f : Addr} {fd : FuncData} (F : FnM K "_law_odd" "_law_odd" st__law_odd f fd) : Binds K fd ["_law_box_here", "_law_more"] [] := F.bindsN fun _ _ _ _ _ _ us hl => match us, hl with | [_, _], _ => rfl
theorem B__law_field_1 {K : PySem.W.Frag} {f : Addr} {fd : FuncData} (F : FnM K "_law_field" "_law_field" st__law_field f fd) : Binds K fd ["_law_e"] [] := F.bindsN fun _ _ _ _ _ _ us hl => match us, hl with | [_], _ => rfl
theorem B__law_bases_1 {K : PySem.W.Frag} {f : Addr} {fd : FuncData} (F : FnM K "_law_bases" "_law_bases" st__law_bases f fd) : Binds K fd ["_law_e"] [] := F.bindsN fun _ _ _ _ _ _ us hl => match us, hl with | [_], _ => rfl
theorem B__law_apart_1 {K : PySem.W.Frag} {f : Addr} {fd : FuncData} (F : FnM K "_law_apart" "_law_apart" st__law_apart f fd) : Binds K fd ["_law_lots"] [] := F.bindsN fun _ _ _ _ _ _ us hl => match us, hl with | [_], _ => rfl
end K64
set_option maxHeartbeats 1000000
namespace K64
open PySem L2 DL CM DX
section
variable {V : Ev}
theorem field_ok (ds : List D) (M : Mh) (k : DK) (kx : XKd) (h : sFieldX V.isc ds M k kx) : b__law_field V { nx := fun _ M' => k .non M', rt := k } (startD 1 ds) M noX := by
  obtain ⟨p, rfl, dx, C, fs, c, v, hM, ok, hc, hv, hk⟩ := h
  show b__law_field V _ [some (.ref p)] M noX
  unfold fieldD at hv
  refine f_in hM ok fl1 hc (fun _ _ _ _ => rfl) (by decide) (by decide) (fun q => ?_) fun q => ?_
  · rw [if_pos q] at hv; exact f_get hM ok hv hk
  rw [if_neg q] at hv
  refine f_in hM ok fl2 hc (fun _ _ _ _ => rfl) (by decide) (by decide) (fun q => ?_) fun q => ?_
  · rw [if_pos q] at hv; exact f_get hM ok hv hk
  rw [if_neg q] at hv
  refine f_eq hM ok _ hc (fun q => ?_) fun q => ?_
  · rw [if_pos q] at hv; exact f_two hM ok hv hk
  rw [if_neg q] at hv
  refine f_eq hM ok _ hc (fun q => ?_) fun q => ?_
  · rw [if_pos q] at hv; exact f_two hM ok hv hk
  rw [if_neg q] at hv
  refine f_in hM ok fl3 hc (fun _ _ _ _ => rfl) (by decide) (by decide) (fun q => ?_) fun q => ?_
  · rw [if_pos q] at hv; exact f_get hM ok hv hk
  rw [if_neg q] at hv
  refine f_in hM ok fl4 hc (fun _ _ _ _ => rfl) (by decide) (by decide) (fun q => ?_) fun q => ?_
  · rw [if_pos q] at hv; exact f_get hM ok hv hk
  rw [if_neg q] at hv
  refine f_eq hM ok _ hc (fun q => ?_) fun q => ?_
  · rw [if_pos q] at hv; exact f_get hM ok hv hk
  rw [if_neg q] at hv
  refine f_eq hM ok _ hc (fun q => ?_) fun q => ?_
  · rw [if_pos q] at hv; exact f_get hM ok hv hk
  rw [if_neg q] at hv
  refine ⟨.ref p, rfl, p, dx, C, fs, .str c, rfl, hM, ok, hc, ?_⟩
  show ∃ b, D.bl (decide (c = "InvalidText")) = .bl b ∧ _
  refine ⟨_, rfl, ?_⟩
  by_cases q : decide (c = "InvalidText") = true
  · rw [if_pos q] at hv ⊢; exact f_get hM ok hv hk
  · rw [if_neg q] at hv ⊢
    cases hv
    exact hk
theorem bases_ok (ds : List D) (M : Mh) (k : DK) (kx : XKd) (h : sBases V ds M k kx) : b__law_bases V { nx := fun _ M' => k .non M', rt := k } (startD 1 ds) M noX := by
  obtain ⟨p, rfl, dx, C, fs, b1, b2, b3, b4, b5, hM, ok, h1, h2, h3, h4, h5, hk⟩ := h
  exact ⟨_, rfl, p, dx, C, fs, b1, rfl, hM, ok, h1, _, rfl, p, dx, C, fs, b2, rfl, hM, ok, h2, _, rfl, p, dx, C, fs, b3, rfl, hM, ok, h3, _, rfl, p, dx, C, fs, b4, rfl, hM, ok, h4, _, rfl, p, dx, C, fs, b5, rfl, hM, ok, h5, by show 5 ≤ sizeLine; decide, hk⟩
/-! ### no error is under another one -/
def rowD (i : Nat) : D := .lst ((List.range 24).map fun j => .bl (decide (i = j)))
def rowM (V : Ev) : ME := (mLst (mCons (mUn (dIsX V.isc V.is "InvalidName") (mVar 2)) (mCons (mUn (dIsX V.isc V.is "InvalidColumn") (mVar 2)) (mCons (mUn (dIsX V.isc V.is "InvalidSide") (mVar 2)) (mCons (mUn (dIsX V.isc V.is "InvalidKey") (mVar 2)) (mCons (mUn (dIsX V.isc V.is "InvalidStep") (mVar 2)) (mCons (mUn (dIsX V.isc V.is "InvalidTest") (mVar 2)) (mCons (mUn (dIsX V.isc V.is "InvalidThing") (mVar 2)) (mCons (mUn (dIsX V.isc V.is "InvalidSetting") (mVar 2)) (mCons (mUn (dIsX V.isc V.is "InvalidWord") (mVar 2)) (mCons (mUn (dIsX V.isc V.is "InvalidNumber") (mVar 2)) (mCons (mUn (dIsX V.isc V.is "InvalidText") (mVar 2)) (mCons (mUn (dIsX V.isc V.is "InvalidCommand") (mVar 2)) (mCons (mUn (dIsX V.isc V.is "DuplicateName") (mVar 2)) (mCons (mUn (dIsX V.isc V.is "SideTaken") (mVar 2)) (mCons (mUn (dIsX V.isc V.is "TooMany") (mVar 2)) (mCons (mUn (dIsX V.isc V.is "Full") (mVar 2)) (mCons (mUn (dIsX V.isc V.is "InvalidRow") (mVar 2)) (mCons (mUn (dIsX V.isc V.is "Torn") (mVar 2)) (mCons (mUn (dIsX V.isc V.is "OtherProgram") (mVar 2)) (mCons (mUn (dIsX V.isc V.is "Untold") (mVar 2)) (mCons (mUn (dIsX V.isc V.is "UnknownName") (mVar 2)) (mCons (mUn (dIsX V.isc V.is "UnknownColumn") (mVar 2)) (mCons (mUn (dIsX V.isc V.is "UnknownRow") (mVar 2)) (mCons (mUn (dIsX V.isc V.is "NothingLeft") (mVar 2)) mNil)))))))))))))))))))))))))
theorem row_at {M : Mh} {a b : D} {i : Nat} {d x0 : D} {x1 x3 x4 : Option D} {k : DK} {kx : XKd} (hv : HV V) (hi : i < 24) (h : ExI V M a b i d) (hk : k (rowD i) M) : rowM V [some x0, x1, some d, x3, x4] M k kx := by
  obtain ⟨p, dx, rfl, hM⟩ := h
  have ok := hv.1 i hi
  have is := hv.2.1 i hi
  exact ⟨_, rfl, p, dx, _, _, _, rfl, hM, ok, is 0 (by decide), _, rfl, p, dx, _, _, _, rfl, hM, ok, is 1 (by decide), _, rfl, p, dx, _, _, _, rfl, hM, ok, is 2 (by decide), _, rfl, p, dx, _, _, _, rfl, hM, ok, is 3 (by decide), _, rfl, p, dx, _, _, _, rfl, hM, ok, is 4 (by decide), _, rfl, p, dx, _, _, _, rfl, hM, ok, is 5 (by decide), _, rfl, p, dx, _, _, _, rfl, hM, ok, is 6 (by decide), _, rfl, p, dx, _, _, _, rfl, hM, ok, is 7 (by decide), _, rfl, p, dx, _, _, _, rfl, hM, ok, is 8 (by decide), _, rfl, p, dx, _, _, _, rfl, hM, ok, is 9 (by decide), _, rfl, p, dx, _, _, _, rfl, hM, ok, is 10 (by decide), _, rfl, p, dx, _, _, _, rfl, hM, ok, is 11 (by decide), _, rfl, p, dx, _, _, _, rfl, hM, ok, is 12 (by decide), _, rfl, p, dx, _, _, _, rfl, hM, ok, is 13 (by decide), _, rfl, p, dx, _, _, _, rfl, hM, ok, is 14 (by decide), _, rfl, p, dx, _, _, _, rfl, hM, ok, is 15 (by decide), _, rfl, p, dx, _, _, _, rfl, hM, ok, is 16 (by decide), _, rfl, p, dx, _, _, _, rfl, hM, ok, is 17 (by decide), _, rfl, p, dx, _, _, _, rfl, hM, ok, is 18 (by decide), _, rfl, p, dx, _, _, _, rfl, hM, ok, is 19 (by decide), _, rfl, p, dx, _, _, _, rfl, hM, ok, is 20 (by decide), _, rfl, p, dx, _, _, _, rfl, hM, ok, is 21 (by decide), _, rfl, p, dx, _, _, _, rfl, hM, ok, is 22 (by decide), _, rfl, p, dx, _, _, _, rfl, hM, ok, is 23 (by decide), by show 24 ≤ sizeLine; decide, hk⟩
end
end K64
set_option maxHeartbeats 1000000
namespace K64
open PySem L2 DL CM DX
theorem ls_ref {M : Mh} {a : Addr} {ds : List D} (h : M a = some (.lst ds)) : lsOf M (.ref a) = some ds := by show mls (M a) = _; rw [h]; rfl
theorem all_t (n : Nat) : (List.range n).all (fun _ => true) = true := by simp
theorem row_eq (M : Mh) (n i : Nat) : EqD M (n + 1) (rowD i) (rowD i) true := by
  have z := EqD.lst (M := M) (n := n) (d := rowD i) (e := rowD i) (fun _ => true) rfl rfl (fun _ _ q => by cases q) rfl fun j x y h1 h2 => by
    rw [h1] at h2
    cases h2
    rw [List.getElem?_map] at h1
    cases c : (List.range 24)[j]? with
    | none => rw [c] at h1; cases h1
    | some m =>
      rw [c] at h1
      cases h1
      exact .sc (by simp [eqS])
  rw [all_t] at z
  exact z
theorem rows_eq {M : Mh} {f : Addr} (h : M f = some (.lst ((List.range 24).map rowD))) : EqD M 10 (.ref f) (.lst ((List.range 24).map rowD)) true := by
  have z := EqD.lst (M := M) (n := 9) (d := .ref f) (e := .lst ((List.range 24).map rowD)) (fun _ => true) (ls_ref h) rfl (fun _ _ _ q => by cases q) rfl fun j x y h1 h2 => by
    rw [h1] at h2
    cases h2
    rw [List.getElem?_map] at h1
    cases c : (List.range 24)[j]? with
    | none => rw [c] at h1; cases h1
    | some m =>
      rw [c] at h1
      cases h1
      exact row_eq M 8 m
  rw [all_t] at z
  exact z
section
variable {V : Ev}
theorem apart_loop (hv : HV V) {De : DEnds} {kx : XKd} {f : Addr} {a b x0 : D} {x3 x4 : Option D} : ∀ (xs : List D) (n : Nat) (M : Mh) (x2 : Option D), (∀ i d, xs[i]? = some d → ExI V M a b (n + i) d) → n + xs.length = 24 → M f = some (.lst ((List.range n).map rowD)) →
    (∀ M' y2, (∀ y o, y ≠ f → M y = some o → M' y = some o) → M' f = some (.lst ((List.range 24).map rowD)) → De.nx [some x0, some (.ref f), y2, x3, x4] M') → loopFor (.nm 2) anyG (mDrop (mAppend (mVar 1) (rowM V))) De kx xs [some x0, some (.ref f), x2, x3, x4] M
  | [], n, M, x2, _, hn, hf, h => by
    obtain rfl : n = 24 := by simpa using hn
    exact ⟨trivial, h M x2 (fun _ _ _ e => e) hf⟩
  | d :: xs, n, M, x2, hx, hn, hf, h => by
    rw [List.length_cons] at hn
    have h0 : ExI V M a b n d := hx 0 d rfl
    refine ⟨trivial, [some x0, some (.ref f), some d, x3, x4], rfl, .ref f, rfl, f, _, rfl, hf, row_at hv (by omega) h0 ?_⟩
    have e1 : (List.range n).map rowD ++ [rowD n] = (List.range (n + 1)).map rowD := by rw [List.range_succ, List.map_append]; rfl
    refine ⟨_, hf, by rw [List.length_map, List.length_range]; exact Nat.lt_of_lt_of_le (by omega) (sz_le (n := 1000) (by decide)), ?_⟩
    rw [e1]
    refine apart_loop (a := a) (b := b) hv xs (n + 1) _ _ (fun i d' hd => ?_) (by omega) (set_at _ _ _) fun M' y2 hk hf' => h M' y2 (fun y o ne e => hk y o ne (by rw [set_ne _ _ ne]; exact e)) hf'
    obtain ⟨p, dx, e2, hM⟩ := hx (i + 1) d' hd
    refine ⟨p, dx, e2, ?_⟩
    rw [set_ne _ _ (fun q => by rw [q, hf] at hM; cases hM), show n + 1 + i = n + (i + 1) by omega]
    exact hM
def natD : D → Nat
  | .int i => i.toNat
  | _ => 0
theorem ints24 : intsD 0 (24 : Int).toNat = (List.range 24).map fun i : Nat => D.int (i : Int) := by kernel_rfl
theorem apart_ok (ds : List D) (M : Mh) (k : DK) (kx : XKd) (h : sApart V ds M k kx) : b__law_apart V { nx := fun _ M' => k .non M', rt := k } (startD 5 ds) M noX := by
  obtain ⟨xs, rfl, a, b, hv, hl, hx, hk⟩ := h
  refine ⟨by show 0 ≤ sizeLine; decide, fun f hf => ⟨_, rfl, ?_⟩⟩
  refine ⟨_, rfl, ?_⟩
  refine apart_loop (a := a) (b := b) hv xs 0 _ _ (fun i d hd => ?_) (by omega) (set_at _ _ _) fun M' y2 kp hf' => ?_
  · obtain ⟨p, dx, e, hM⟩ := hx i d hd
    refine ⟨p, dx, e, ?_⟩
    rw [set_ne _ _ (ne_of hf hM).symm, Nat.zero_add]
    exact hM
  have KP : ∀ y o, M y = some o → M' y = some o := fun y o e => kp y o (ne_of hf e).symm (by rw [set_ne _ _ (ne_of hf e).symm]; exact e)
  refine ⟨.ref f, rfl, 24, rfl, by decide, by decide, ?_⟩
  rw [ints24]
  refine ⟨by show 24 ≤ sizeLine; decide, lc_map (fun d => rowD (natD d)) trivial (fun d hd => ?_) ?_⟩
  · obtain ⟨i, hi, rfl⟩ := List.mem_map.mp hd
    refine ⟨_, rfl, fun k' hk' => ⟨24, rfl, by decide, by decide, ?_⟩⟩
    rw [ints24]
    refine ⟨by show 24 ≤ sizeLine; decide, lc_map (fun d => .bl (decide (i = natD d))) trivial (fun d hd => ?_) ?_⟩
    · obtain ⟨j, hj, rfl⟩ := List.mem_map.mp hd
      refine ⟨_, rfl, fun k2 hk2 => ⟨_, rfl, _, rfl, ?_⟩⟩
      show k2 (.bl (decide ((j : Int) = (i : Int)))) M'
      rw [show decide ((j : Int) = (i : Int)) = decide (i = natD (.int (j : Int))) from decide_eq_decide.mpr ⟨fun e => (Int.ofNat.inj e).symm, fun e => by rw [e]; rfl⟩]
      exact hk2
    · have e : [] ++ ((List.range 24).map fun i : Nat => D.int (i : Int)).map (fun d => D.bl (decide (i = natD d))) = (List.range 24).map fun j => D.bl (decide (i = j)) := by rw [List.nil_append, List.map_map]; rfl
      rw [e]
      exact hk'
  · have e : [] ++ ((List.range 24).map fun i : Nat => D.int (i : Int)).map (fun d => rowD (natD d)) = (List.range 24).map rowD := by rw [List.nil_append, List.map_map]; rfl
    rw [e]
    exact ⟨9, true, by decide, rows_eq hf', rfl, fun a q => ⟨(by intro z; cases z), by cases q; intro kvs e; rw [hf'] at e; cases e⟩, hk _ KP⟩
end
end K64
set_option maxHeartbeats 4000000
namespace K64
open PySem L2 DL CM DX
def AllX (V : Ev) (a b : D) (M : Mh) (xs : List (Nat × D)) : Prop := ∀ q ∈ xs, q.1 < 24 ∧ ExI V M a b q.1 q.2
theorem ExI.keep {V : Ev} {a b : D} {M M' : Mh} {i : Nat} {d : D} (h : ExI V M a b i d) (k : Kp M M') : ExI V M' a b i d := by
  obtain ⟨p, dx, e, hM⟩ := h
  exact ⟨p, dx, e, k _ _ hM⟩
theorem AllX.keep {V : Ev} {a b : D} {M M' : Mh} {xs : List (Nat × D)} (h : AllX V a b M xs) (k : Kp M M') : AllX V a b M' xs := fun q hq => ⟨(h q hq).1, (h q hq).2.keep k⟩
theorem AllX.app {V : Ev} {a b : D} {M : Mh} {xs ys : List (Nat × D)} (h : AllX V a b M xs) (g : AllX V a b M ys) : AllX V a b M (xs ++ ys) := fun q hq => by
  rcases List.mem_append.mp hq with hq | hq
  · exact h q hq
  · exact g q hq
theorem AllX.nil {V : Ev} {a b : D} {M : Mh} : AllX V a b M [] := fun q hq => by cases hq
theorem AllX.cons {V : Ev} {a b : D} {M : Mh} {i : Nat} {d : D} {xs : List (Nat × D)} (hi : i < 24) (h : ExI V M a b i d) (g : AllX V a b M xs) : AllX V a b M ((i, d) :: xs) := fun q hq => by
  rcases List.mem_cons.mp hq with rfl | hq
  · exact ⟨hi, h⟩
  · exact g q hq
section
variable {V : Ev} {a b : D} {M : Mh} {Γ : DL.Env} {k : List D → Mh → Prop} {kx : XKd}
def elemM (V : Ev) : ME := (mLst (mCons (mFldX V.isc "code" (mVar 7)) (mCons (mCall (sFieldX V.isc) (mCons (mVar 7) mNil)) mNil)))
theorem lc_x (hv : HV V) (xs : List (Nat × D)) (A : AllX V a b M xs) (h23 : ∀ q ∈ xs, q.1 < 23) (hΓ : 7 < Γ.length) (hk : k (xs.map fun q => .lst [.str (nmI q.1), fldI q.1 a b]) M) : loopLc (.nm 7) anyG mYes (elemM V) Γ k kx [] (xs.map (·.2)) M := by
  have z := lc_two (t := .nm 7) (G := anyG) (te := elemM V) (Γ := Γ) (k := k) (kx := kx) (M := M) trivial (xs.map fun q => (q.2, D.lst [.str (nmI q.1), fldI q.1 a b])) [] (fun q hq => by
    obtain ⟨⟨i, d⟩, hm, rfl⟩ := List.mem_map.mp hq
    obtain ⟨hi, p, dx, e, hM⟩ := A _ hm
    refine ⟨_, rfl, fun k' hk' => ?_⟩
    have g7 : (Γ.set 7 (some d))[7]? = some (some d) := List.getElem?_set_self hΓ
    have e : d = .ref p := e
    subst e
    exact ⟨_, g7, p, dx, _, _, _, rfl, hM, hv.1 i hi, code_at i hi a b, _, g7, p, rfl, dx, _, _, _, _, hM, hv.1 i hi, code_at i hi a b, field_at i (h23 _ hm) a b, by show 2 ≤ sizeLine; decide, hk'⟩) (by rw [List.nil_append, List.map_map]; exact hk)
  rw [List.map_map] at z
  exact z
theorem eq_row {k : DK} (r : List Bool) (hr : r = [true, true, false, false, false] ∨ r = [false, false, true, true, false] ∨ r = [false, false, false, true, true]) (neg : Bool) (hk : k (.bl (!neg)) M) : dEqB neg (.lst (r.map D.bl)) (.lst (r.map D.bl)) M k := by
  rcases hr with rfl | rfl | rfl
  · refine ⟨_, _, ⟨rfl, by decide +kernel⟩, ⟨rfl, by decide +kernel⟩, ?_⟩
    cases neg
    · rw [show (if false = true then !PyData.eqv _ _ else PyData.eqv _ _) = true by decide +kernel]; exact hk
    · rw [show (if true = true then !PyData.eqv _ _ else PyData.eqv _ _) = false by decide +kernel]; exact hk
  · refine ⟨_, _, ⟨rfl, by decide +kernel⟩, ⟨rfl, by decide +kernel⟩, ?_⟩
    cases neg
    · rw [show (if false = true then !PyData.eqv _ _ else PyData.eqv _ _) = true by decide +kernel]; exact hk
    · rw [show (if true = true then !PyData.eqv _ _ else PyData.eqv _ _) = false by decide +kernel]; exact hk
  · refine ⟨_, _, ⟨rfl, by decide +kernel⟩, ⟨rfl, by decide +kernel⟩, ?_⟩
    cases neg
    · rw [show (if false = true then !PyData.eqv _ _ else PyData.eqv _ _) = true by decide +kernel]; exact hk
    · rw [show (if true = true then !PyData.eqv _ _ else PyData.eqv _ _) = false by decide +kernel]; exact hk
/-- what _law_bases tells of the i-th error -/
theorem bases_at (hv : HV V) {i : Nat} {d : D} {k : DK} (hi : i < 24) (h : ExI V M a b i d) (hk : k (.lst ((rowB i).map D.bl)) M) : sBases V [d] M k kx := by
  obtain ⟨p, dx, rfl, hM⟩ := h
  have q := hv.2.2 i hi
  have e : (.lst ((rowB i).map D.bl) : D) = .lst [.bl ((rowB i).getD 0 false), .bl ((rowB i).getD 1 false), .bl ((rowB i).getD 2 false), .bl ((rowB i).getD 3 false), .bl ((rowB i).getD 4 false)] := by
    unfold rowB
    split
    · rfl
    · split <;> rfl
  rw [e] at hk
  exact ⟨p, rfl, dx, _, _, _, _, _, _, _, hM, hv.1 i hi, q 0 (by decide), q 1 (by decide), q 2 (by decide), q 3 (by decide), q 4 (by decide), hk⟩
def basM (V : Ev) (m : ME) : ME := (mOp dEq (mCall (sBases V) (mCons (mVar 7) mNil)) m)
theorem lc_b (hv : HV V) (xs : List (Nat × D)) (r : List Bool) (hr : r = [true, true, false, false, false] ∨ r = [false, false, true, true, false] ∨ r = [false, false, false, true, true]) {m : ME} (hm : ∀ (Γ : DL.Env) (M : Mh) (k : DK) (kx : XKd), k (.lst (r.map D.bl)) M → m Γ M k kx) (A : AllX V a b M xs) (h : ∀ q ∈ xs, rowB q.1 = r) (hΓ : 7 < Γ.length) (hk : k (xs.map fun _ => .bl true) M) : loopLc (.nm 7) anyG mYes (basM V m) Γ k kx [] (xs.map (·.2)) M := by
  have z := lc_two (t := .nm 7) (G := anyG) (te := basM V m) (Γ := Γ) (k := k) (kx := kx) (M := M) trivial (xs.map fun q => (q.2, D.bl true)) [] (fun q hq => by
    obtain ⟨⟨i, d⟩, hmm, rfl⟩ := List.mem_map.mp hq
    obtain ⟨hi, hx⟩ := A _ hmm
    refine ⟨_, rfl, fun k' hk' => ?_⟩
    have g7 : (Γ.set 7 (some d))[7]? = some (some d) := List.getElem?_set_self hΓ
    refine ⟨d, g7, ?_⟩
    show sBases V [d] M (fun x M1 => m (Γ.set 7 (some d)) M1 (fun y M2 => dEq x y M2 k') kx) kx
    refine bases_at hv hi hx ?_
    refine hm _ _ _ _ ?_
    rw [h _ hmm]
    exact eq_row r hr false hk') (by rw [List.nil_append, List.map_map]; exact hk)
  rw [List.map_map] at z
  exact z
end
def oddX : List D := oddL ++ [.str "x"] ++ (oddL ++ [.str "y", .int 5])
theorem odd_all : (oddX.all fun x => pureN 3 x && (pureN 2 x && shortD x)) = true := by decide +kernel
theorem odd_is {x : D} (h : x ∈ oddX) : pureN 3 x = true ∧ pureN 2 x = true ∧ shortD x = true := by
  have z := List.all_eq_true.mp odd_all x h
  simp only [Bool.and_eq_true] at z
  exact z
end K64
set_option maxHeartbeats 4000000
namespace K64
open PySem L2 DL CM DX
section
variable {V : Ev}
theorem all_of {xs : List (Nat × D)} {P : Nat → Prop} [DecidablePred P] (h : (xs.all fun q => decide (P q.1)) = true) : ∀ q ∈ xs, P q.1 := fun q hq => of_decide_eq_true (List.all_eq_true.mp h q hq)
theorem bases_of (hv : HV V) {a b : D} {M : Mh} {i : Nat} {d : D} {k : DK} {kx : XKd} {Γ : DL.Env} (hi : i < 24) (h : ExI V M a b i d) (hk : k (.lst ((rowB i).map D.bl)) M) : mNil Γ M (fun xs M2 => sBases V (d :: xs) M2 k kx) kx := bases_at (kx := kx) hv hi h hk
def turnB (V : Ev) : MS := (mSeq (b_law_1 V) (mSeq (b_law_2 V) (mSeq (b_law_3 V) (mSeq (b_law_4 V) (mSeq (b_law_5 V) (mSeq (b_law_6 V) (mSeq (b_law_7 V) (mSeq (b_law_8 V) (mSeq (b_law_9 V) (mSeq (b_law_10 V) (mSeq (b_law_11 V) (mSeq (b_law_12 V) (b_law_13 V)))))))))))))
theorem turn_ok (hv : HV V) (p : Addr) (M : Mh) (hb : M p = some .box) (De : DEnds) (x0 x2 x3 x4 x5 x6 x7 x8 x9 x10 x11 : Option D) (kx : XKd)
    (hn : ∀ M' y3 y4 y5 y6 y7 y8 y9 y10 y11, M' p = some .box → De.nx [x0, some (.ref p), x2, y3, y4, y5, y6, y7, y8, y9, y10, y11] M') : turnB V De [x0, some (.ref p), x2, x3, x4, x5, x6, x7, x8, x9, x10, x11] M kx := by
  refine ⟨_, rfl, by show 1 ≤ sizeLine; decide, p, _, _, rfl, hb, rfl, by show 1 ≤ 1000; decide, fun a ha => ?_⟩
  refine ⟨_, rfl, by show 2 ≤ sizeLine; decide, p, _, _, rfl, hb, rfl, by show 2 ≤ 1000; decide, fun b hbb => ?_⟩
  obtain ⟨pa3, pa2, sa⟩ := odd_is (x := a) (List.mem_append_left _ ha)
  obtain ⟨pb3, pb2, sb⟩ := odd_is (x := b) (List.mem_append_right _ hbb)
  refine ⟨by show 2 ≤ sizeLine; decide, _, rfl, ?_⟩
  refine ⟨_, rfl, rfl, fun p0 d0 h0 => ?_⟩
  generalize g0 : setM M p0 _ = M0
  have e0 : M0 p0 = some (.exv p0 d0 (V.G (nmI 0)) (fsI 0 a b)) := by rw [← g0]; exact set_at _ _ _
  have K0 : Kp M M0 := by rw [← g0]; exact kp_new h0
  refine ⟨_, rfl, rfl, fun p1 d1 h1 => ?_⟩
  generalize g1 : setM M0 p1 _ = M1
  have e1 : M1 p1 = some (.exv p1 d1 (V.G (nmI 1)) (fsI 1 a b)) := by rw [← g1]; exact set_at _ _ _
  have K1 : Kp M0 M1 := by rw [← g1]; exact kp_new h1
  refine ⟨_, rfl, rfl, fun p2 d2 h2 => ?_⟩
  generalize g2 : setM M1 p2 _ = M2
  have e2 : M2 p2 = some (.exv p2 d2 (V.G (nmI 2)) (fsI 2 a b)) := by rw [← g2]; exact set_at _ _ _
  have K2 : Kp M1 M2 := by rw [← g2]; exact kp_new h2
  refine ⟨_, rfl, rfl, fun p3 d3 h3 => ?_⟩
  generalize g3 : setM M2 p3 _ = M3
  have e3 : M3 p3 = some (.exv p3 d3 (V.G (nmI 3)) (fsI 3 a b)) := by rw [← g3]; exact set_at _ _ _
  have K3 : Kp M2 M3 := by rw [← g3]; exact kp_new h3
  refine ⟨_, rfl, rfl, fun p4 d4 h4 => ?_⟩
  generalize g4 : setM M3 p4 _ = M4
  have e4 : M4 p4 = some (.exv p4 d4 (V.G (nmI 4)) (fsI 4 a b)) := by rw [← g4]; exact set_at _ _ _
  have K4 : Kp M3 M4 := by rw [← g4]; exact kp_new h4
  refine ⟨_, rfl, rfl, fun p5 d5 h5 => ?_⟩
  generalize g5 : setM M4 p5 _ = M5
  have e5 : M5 p5 = some (.exv p5 d5 (V.G (nmI 5)) (fsI 5 a b)) := by rw [← g5]; exact set_at _ _ _
  have K5 : Kp M4 M5 := by rw [← g5]; exact kp_new h5
  refine ⟨_, rfl, rfl, fun p6 d6 h6 => ?_⟩
  generalize g6 : setM M5 p6 _ = M6
  have e6 : M6 p6 = some (.exv p6 d6 (V.G (nmI 6)) (fsI 6 a b)) := by rw [← g6]; exact set_at _ _ _
  have K6 : Kp M5 M6 := by rw [← g6]; exact kp_new h6
  refine ⟨_, rfl, rfl, fun p7 d7 h7 => ?_⟩
  generalize g7 : setM M6 p7 _ = M7
  have e7 : M7 p7 = some (.exv p7 d7 (V.G (nmI 7)) (fsI 7 a b)) := by rw [← g7]; exact set_at _ _ _
  have K7 : Kp M6 M7 := by rw [← g7]; exact kp_new h7
  refine ⟨_, rfl, rfl, fun p8 d8 h8 => ?_⟩
  generalize g8 : setM M7 p8 _ = M8
  have e8 : M8 p8 = some (.exv p8 d8 (V.G (nmI 8)) (fsI 8 a b)) := by rw [← g8]; exact set_at _ _ _
  have K8 : Kp M7 M8 := by rw [← g8]; exact kp_new h8
  refine ⟨_, rfl, rfl, fun p9 d9 h9 => ?_⟩
  generalize g9 : setM M8 p9 _ = M9
  have e9 : M9 p9 = some (.exv p9 d9 (V.G (nmI 9)) (fsI 9 a b)) := by rw [← g9]; exact set_at _ _ _
  have K9 : Kp M8 M9 := by rw [← g9]; exact kp_new h9
  refine ⟨_, rfl, rfl, fun p10 d10 h10 => ?_⟩
  generalize g10 : setM M9 p10 _ = M10
  have e10 : M10 p10 = some (.exv p10 d10 (V.G (nmI 10)) (fsI 10 a b)) := by rw [← g10]; exact set_at _ _ _
  have K10 : Kp M9 M10 := by rw [← g10]; exact kp_new h10
  refine ⟨_, rfl, rfl, fun p11 d11 h11 => ?_⟩
  generalize g11 : setM M10 p11 _ = M11
  have e11 : M11 p11 = some (.exv p11 d11 (V.G (nmI 11)) (fsI 11 a b)) := by rw [← g11]; exact set_at _ _ _
  have K11 : Kp M10 M11 := by rw [← g11]; exact kp_new h11
  refine ⟨_, rfl, rfl, fun p12 d12 h12 => ?_⟩
  generalize g12 : setM M11 p12 _ = M12
  have e12 : M12 p12 = some (.exv p12 d12 (V.G (nmI 12)) (fsI 12 a b)) := by rw [← g12]; exact set_at _ _ _
  have K12 : Kp M11 M12 := by rw [← g12]; exact kp_new h12
  refine ⟨_, rfl, rfl, fun p13 d13 h13 => ?_⟩
  generalize g13 : setM M12 p13 _ = M13
  have e13 : M13 p13 = some (.exv p13 d13 (V.G (nmI 13)) (fsI 13 a b)) := by rw [← g13]; exact set_at _ _ _
  have K13 : Kp M12 M13 := by rw [← g13]; exact kp_new h13
  refine ⟨_, rfl, rfl, fun p14 d14 h14 => ?_⟩
  generalize g14 : setM M13 p14 _ = M14
  have e14 : M14 p14 = some (.exv p14 d14 (V.G (nmI 14)) (fsI 14 a b)) := by rw [← g14]; exact set_at _ _ _
  have K14 : Kp M13 M14 := by rw [← g14]; exact kp_new h14
  refine ⟨_, rfl, rfl, fun p15 d15 h15 => ?_⟩
  generalize g15 : setM M14 p15 _ = M15
  have e15 : M15 p15 = some (.exv p15 d15 (V.G (nmI 15)) (fsI 15 a b)) := by rw [← g15]; exact set_at _ _ _
  have K15 : Kp M14 M15 := by rw [← g15]; exact kp_new h15
  have k15 : Kp M15 M15 := fun _ _ z => z
  have k14 : Kp M14 M15 := K15.trans k15
  have k13 : Kp M13 M15 := K14.trans k14
  have k12 : Kp M12 M15 := K13.trans k13
  have k11 : Kp M11 M15 := K12.trans k12
  have k10 : Kp M10 M15 := K11.trans k11
  have k9 : Kp M9 M15 := K10.trans k10
  have k8 : Kp M8 M15 := K9.trans k9
  have k7 : Kp M7 M15 := K8.trans k8
  have k6 : Kp M6 M15 := K7.trans k7
  have k5 : Kp M5 M15 := K6.trans k6
  have k4 : Kp M4 M15 := K5.trans k5
  have k3 : Kp M3 M15 := K4.trans k4
  have k2 : Kp M2 M15 := K3.trans k3
  have k1 : Kp M1 M15 := K2.trans k2
  have k0 : Kp M0 M15 := K1.trans k1
  have kA0 : Kp M M15 := K0.trans k0
  have A0 : AllX V a b M15 [(0, .ref p0), (1, .ref p1), (2, .ref p2), (3, .ref p3), (4, .ref p4), (5, .ref p5), (6, .ref p6), (7, .ref p7), (8, .ref p8), (9, .ref p9), (10, .ref p10), (11, .ref p11), (12, .ref p12), (13, .ref p13), (14, .ref p14), (15, .ref p15)] := AllX.cons (i := 0) (d := .ref p0) (by decide) (show ExI V M15 a b 0 (.ref p0) from ⟨p0, d0, rfl, k0 _ _ e0⟩) (AllX.cons (i := 1) (d := .ref p1) (by decide) (show ExI V M15 a b 1 (.ref p1) from ⟨p1, d1, rfl, k1 _ _ e1⟩) (AllX.cons (i := 2) (d := .ref p2) (by decide) (show ExI V M15 a b 2 (.ref p2) from ⟨p2, d2, rfl, k2 _ _ e2⟩) (AllX.cons (i := 3) (d := .ref p3) (by decide) (show ExI V M15 a b 3 (.ref p3) from ⟨p3, d3, rfl, k3 _ _ e3⟩) (AllX.cons (i := 4) (d := .ref p4) (by decide) (show ExI V M15 a b 4 (.ref p4) from ⟨p4, d4, rfl, k4 _ _ e4⟩) (AllX.cons (i := 5) (d := .ref p5) (by decide) (show ExI V M15 a b 5 (.ref p5) from ⟨p5, d5, rfl, k5 _ _ e5⟩) (AllX.cons (i := 6) (d := .ref p6) (by decide) (show ExI V M15 a b 6 (.ref p6) from ⟨p6, d6, rfl, k6 _ _ e6⟩) (AllX.cons (i := 7) (d := .ref p7) (by decide) (show ExI V M15 a b 7 (.ref p7) from ⟨p7, d7, rfl, k7 _ _ e7⟩) (AllX.cons (i := 8) (d := .ref p8) (by decide) (show ExI V M15 a b 8 (.ref p8) from ⟨p8, d8, rfl, k8 _ _ e8⟩) (AllX.cons (i := 9) (d := .ref p9) (by decide) (show ExI V M15 a b 9 (.ref p9) from ⟨p9, d9, rfl, k9 _ _ e9⟩) (AllX.cons (i := 10) (d := .ref p10) (by decide) (show ExI V M15 a b 10 (.ref p10) from ⟨p10, d10, rfl, k10 _ _ e10⟩) (AllX.cons (i := 11) (d := .ref p11) (by decide) (show ExI V M15 a b 11 (.ref p11) from ⟨p11, d11, rfl, k11 _ _ e11⟩) (AllX.cons (i := 12) (d := .ref p12) (by decide) (show ExI V M15 a b 12 (.ref p12) from ⟨p12, d12, rfl, k12 _ _ e12⟩) (AllX.cons (i := 13) (d := .ref p13) (by decide) (show ExI V M15 a b 13 (.ref p13) from ⟨p13, d13, rfl, k13 _ _ e13⟩) (AllX.cons (i := 14) (d := .ref p14) (by decide) (show ExI V M15 a b 14 (.ref p14) from ⟨p14, d14, rfl, k14 _ _ e14⟩) (AllX.cons (i := 15) (d := .ref p15) (by decide) (show ExI V M15 a b 15 (.ref p15) from ⟨p15, d15, rfl, k15 _ _ e15⟩) (AllX.nil))))))))))))))))
  have b15 := kA0 _ _ hb
  refine ⟨by show 16 ≤ sizeLine; decide, _, rfl, ?_⟩
  refine ⟨by show 16 ≤ sizeLine; decide, _, rfl, ?_⟩
  refine ⟨_, rfl, by show 16 ≤ sizeLine; decide, lc_x hv _ A0 (all_of (P := fun i => i < 23) rfl) (by show 7 < 12; decide) ?_⟩
  refine ⟨_, rfl, by show 16 ≤ sizeLine; decide, lc_map (fun d => .lst [d, a]) trivial (fun d hd => ⟨_, rfl, fun k' hk' => ⟨_, rfl, _, rfl, by show 2 ≤ sizeLine; decide, hk'⟩⟩) ?_⟩
  refine ⟨_, rfl, ?_, ?_, _, rfl, ?_⟩
  · simp [pureN, pureAll, fldI, pa3]
  · simp [shortD, shortAll, fldI, sa]
  refine ⟨_, rfl, _, rfl, rfl, fun p16 d16 h16 => ?_⟩
  generalize g16 : setM M15 p16 _ = M16
  have e16 : M16 p16 = some (.exv p16 d16 (V.G (nmI 16)) (fsI 16 a b)) := by rw [← g16]; exact set_at _ _ _
  have K16 : Kp M15 M16 := by rw [← g16]; exact kp_new h16
  refine ⟨_, rfl, _, rfl, rfl, fun p17 d17 h17 => ?_⟩
  generalize g17 : setM M16 p17 _ = M17
  have e17 : M17 p17 = some (.exv p17 d17 (V.G (nmI 17)) (fsI 17 a b)) := by rw [← g17]; exact set_at _ _ _
  have K17 : Kp M16 M17 := by rw [← g17]; exact kp_new h17
  refine ⟨rfl, fun p18 d18 h18 => ?_⟩
  generalize g18 : setM M17 p18 _ = M18
  have e18 : M18 p18 = some (.exv p18 d18 (V.G (nmI 18)) (fsI 18 a b)) := by rw [← g18]; exact set_at _ _ _
  have K18 : Kp M17 M18 := by rw [← g18]; exact kp_new h18
  refine ⟨rfl, fun p19 d19 h19 => ?_⟩
  generalize g19 : setM M18 p19 _ = M19
  have e19 : M19 p19 = some (.exv p19 d19 (V.G (nmI 19)) (fsI 19 a b)) := by rw [← g19]; exact set_at _ _ _
  have K19 : Kp M18 M19 := by rw [← g19]; exact kp_new h19
  have k19 : Kp M19 M19 := fun _ _ z => z
  have k18 : Kp M18 M19 := K19.trans k19
  have k17 : Kp M17 M19 := K18.trans k18
  have k16 : Kp M16 M19 := K17.trans k17
  have kA16 : Kp M15 M19 := K16.trans k16
  have A16 : AllX V a b M19 [(16, .ref p16), (17, .ref p17), (18, .ref p18), (19, .ref p19)] := AllX.cons (i := 16) (d := .ref p16) (by decide) (show ExI V M19 a b 16 (.ref p16) from ⟨p16, d16, rfl, k16 _ _ e16⟩) (AllX.cons (i := 17) (d := .ref p17) (by decide) (show ExI V M19 a b 17 (.ref p17) from ⟨p17, d17, rfl, k17 _ _ e17⟩) (AllX.cons (i := 18) (d := .ref p18) (by decide) (show ExI V M19 a b 18 (.ref p18) from ⟨p18, d18, rfl, k18 _ _ e18⟩) (AllX.cons (i := 19) (d := .ref p19) (by decide) (show ExI V M19 a b 19 (.ref p19) from ⟨p19, d19, rfl, k19 _ _ e19⟩) (AllX.nil))))
  have b19 := kA16 _ _ b15
  refine ⟨by show 4 ≤ sizeLine; decide, _, rfl, ?_⟩
  refine ⟨_, rfl, by show 4 ≤ sizeLine; decide, lc_x hv _ A16 (all_of (P := fun i => i < 23) rfl) (by show 7 < 12; decide) ?_⟩
  refine ⟨_, rfl, _, rfl, by show 2 ≤ sizeLine; decide, by show 2 ≤ sizeLine; decide, _, rfl, _, rfl, by show 2 ≤ sizeLine; decide, by show 2 ≤ sizeLine; decide, by show 2 ≤ sizeLine; decide, by show 2 ≤ sizeLine; decide, by show 4 ≤ sizeLine; decide, ?_⟩
  refine ⟨_, rfl, ?_, ?_, _, rfl, ?_⟩
  · simp [pureN, pureAll, fldI, pa2, pb2]
  · simp [shortD, shortAll, fldI, sa, sb]
  have A0' := AllX.app (A0.keep kA16) A16
  refine ⟨_, rfl, _, rfl, _, _, rfl, rfl, by show 20 ≤ sizeLine; decide, by show 20 ≤ sizeLine; decide, lc_b hv _ [true, true, false, false, false] (.inl rfl) (fun _ _ _ _ h => ⟨by show 5 ≤ sizeLine; decide, h⟩) A0' (all_of (P := fun i => rowB i = [true, true, false, false, false]) rfl) (by show 7 < 12; decide) ?_⟩
  refine ⟨_, _, _, rfl, rfl, rfl, _, rfl, ?_⟩
  refine ⟨_, rfl, rfl, fun p20 d20 h20 => ?_⟩
  generalize g20 : setM M19 p20 _ = M20
  have e20 : M20 p20 = some (.exv p20 d20 (V.G (nmI 20)) (fsI 20 a b)) := by rw [← g20]; exact set_at _ _ _
  have K20 : Kp M19 M20 := by rw [← g20]; exact kp_new h20
  refine ⟨_, rfl, rfl, fun p21 d21 h21 => ?_⟩
  generalize g21 : setM M20 p21 _ = M21
  have e21 : M21 p21 = some (.exv p21 d21 (V.G (nmI 21)) (fsI 21 a b)) := by rw [← g21]; exact set_at _ _ _
  have K21 : Kp M20 M21 := by rw [← g21]; exact kp_new h21
  refine ⟨_, rfl, rfl, fun p22 d22 h22 => ?_⟩
  generalize g22 : setM M21 p22 _ = M22
  have e22 : M22 p22 = some (.exv p22 d22 (V.G (nmI 22)) (fsI 22 a b)) := by rw [← g22]; exact set_at _ _ _
  have K22 : Kp M21 M22 := by rw [← g22]; exact kp_new h22
  have k22 : Kp M22 M22 := fun _ _ z => z
  have k21 : Kp M21 M22 := K22.trans k22
  have k20 : Kp M20 M22 := K21.trans k21
  have kA20 : Kp M19 M22 := K20.trans k20
  have A20 : AllX V a b M22 [(20, .ref p20), (21, .ref p21), (22, .ref p22)] := AllX.cons (i := 20) (d := .ref p20) (by decide) (show ExI V M22 a b 20 (.ref p20) from ⟨p20, d20, rfl, k20 _ _ e20⟩) (AllX.cons (i := 21) (d := .ref p21) (by decide) (show ExI V M22 a b 21 (.ref p21) from ⟨p21, d21, rfl, k21 _ _ e21⟩) (AllX.cons (i := 22) (d := .ref p22) (by decide) (show ExI V M22 a b 22 (.ref p22) from ⟨p22, d22, rfl, k22 _ _ e22⟩) (AllX.nil)))
  have b22 := kA20 _ _ b19
  refine ⟨by show 3 ≤ sizeLine; decide, _, rfl, ?_⟩
  refine ⟨_, rfl, by show 3 ≤ sizeLine; decide, lc_x hv _ A20 (all_of (P := fun i => i < 23) rfl) (by show 7 < 12; decide) ?_⟩
  refine ⟨by show 3 ≤ sizeLine; decide, by show 3 ≤ sizeLine; decide, lc_map (fun d => .lst [d, a]) trivial (fun d hd => ⟨_, rfl, fun k' hk' => ⟨_, rfl, _, rfl, by show 2 ≤ sizeLine; decide, hk'⟩⟩) ?_⟩
  refine ⟨_, rfl, ?_, ?_, _, rfl, ?_⟩
  · simp [pureN, pureAll, fldI, pa3]
  · simp [shortD, shortAll, fldI, sa]
  refine ⟨_, rfl, by show 3 ≤ sizeLine; decide, lc_b hv _ [false, false, true, true, false] (.inr (.inl rfl)) (fun _ _ _ _ h => ⟨by show 5 ≤ sizeLine; decide, h⟩) A20 (all_of (P := fun i => rowB i = [false, false, true, true, false]) rfl) (by show 7 < 12; decide) ?_⟩
  refine ⟨_, _, _, rfl, rfl, rfl, _, rfl, ?_⟩
  refine ⟨rfl, fun p23 d23 h23 => ?_⟩
  generalize g23 : setM M22 p23 _ = M23
  have e23 : M23 p23 = some (.exv p23 d23 (V.G (nmI 23)) (fsI 23 a b)) := by rw [← g23]; exact set_at _ _ _
  have K23 : Kp M22 M23 := by rw [← g23]; exact kp_new h23
  have k23 : Kp M23 M23 := fun _ _ z => z
  have kA23 : Kp M22 M23 := K23.trans k23
  have A23 : AllX V a b M23 [(23, .ref p23)] := AllX.cons (i := 23) (d := .ref p23) (by decide) (show ExI V M23 a b 23 (.ref p23) from ⟨p23, d23, rfl, k23 _ _ e23⟩) (AllX.nil)
  have b23 := kA23 _ _ b22
  refine ⟨_, rfl, ?_⟩
  have X23 := A23 (23, .ref p23) (List.mem_singleton.mpr rfl)
  obtain ⟨_, q23, c23, f23, h23⟩ := id X23
  refine ⟨_, rfl, q23, c23, _, _, _, f23, h23, hv.1 23 (by decide), code_at 23 (by decide) a b, _, rfl, ?_⟩
  refine ⟨_, rfl, ?_⟩
  refine bases_of hv (i := 23) (by decide) X23.2 ⟨by show 5 ≤ sizeLine; decide, eq_row (rowB 23) (.inr (.inr rfl)) true ⟨_, rfl, ?_⟩⟩
  have AA := AllX.app (AllX.app (A0'.keep (kA20.trans kA23)) (A20.keep kA23)) A23
  refine ⟨_, rfl, _, rfl, _, _, rfl, rfl, by show 20 ≤ sizeLine; decide, _, rfl, _, _, rfl, rfl, by show 23 ≤ sizeLine; decide, _, rfl, by show 1 ≤ sizeLine; decide, _, _, rfl, rfl, by show 24 ≤ sizeLine; decide, ?_⟩
  refine ⟨_, rfl, a, b, hv, rfl, fun i d hd => ?_, fun M' kp => ⟨_, rfl, ?_⟩⟩
  · match i, hd with
    | 0, hd => cases hd; exact (AA (0, .ref p0) (by simp)).2
    | 1, hd => cases hd; exact (AA (1, .ref p1) (by simp)).2
    | 2, hd => cases hd; exact (AA (2, .ref p2) (by simp)).2
    | 3, hd => cases hd; exact (AA (3, .ref p3) (by simp)).2
    | 4, hd => cases hd; exact (AA (4, .ref p4) (by simp)).2
    | 5, hd => cases hd; exact (AA (5, .ref p5) (by simp)).2
    | 6, hd => cases hd; exact (AA (6, .ref p6) (by simp)).2
    | 7, hd => cases hd; exact (AA (7, .ref p7) (by simp)).2
    | 8, hd => cases hd; exact (AA (8, .ref p8) (by simp)).2
    | 9, hd => cases hd; exact (AA (9, .ref p9) (by simp)).2
    | 10, hd => cases hd; exact (AA (10, .ref p10) (by simp)).2
    | 11, hd => cases hd; exact (AA (11, .ref p11) (by simp)).2
    | 12, hd => cases hd; exact (AA (12, .ref p12) (by simp)).2
    | 13, hd => cases hd; exact (AA (13, .ref p13) (by simp)).2
    | 14, hd => cases hd; exact (AA (14, .ref p14) (by simp)).2
    | 15, hd => cases hd; exact (AA (15, .ref p15) (by simp)).2
    | 16, hd => cases hd; exact (AA (16, .ref p16) (by simp)).2
    | 17, hd => cases hd; exact (AA (17, .ref p17) (by simp)).2
    | 18, hd => cases hd; exact (AA (18, .ref p18) (by simp)).2
    | 19, hd => cases hd; exact (AA (19, .ref p19) (by simp)).2
    | 20, hd => cases hd; exact (AA (20, .ref p20) (by simp)).2
    | 21, hd => cases hd; exact (AA (21, .ref p21) (by simp)).2
    | 22, hd => cases hd; exact (AA (22, .ref p22) (by simp)).2
    | 23, hd => cases hd; exact (AA (23, .ref p23) (by simp)).2
    | n + 24, hd => cases hd
  · exact hn _ _ _ _ _ _ _ _ _ _ (kp _ _ b23)
def sLaw (V : Ev) : MF := fun ds M k _ => ∃ ns : List Int, ds = [.scr ns] ∧ ns.length ≤ 63 ∧ HV V ∧ ∀ M', k (.bl true) M'
theorem law_ok (ds : List D) (M : Mh) (k : DK) (kx : XKd) (h : sLaw V ds M k kx) : b_law V { nx := fun _ M' => k .non M', rt := k } (startD 12 ds) M noX := by
  obtain ⟨ns, rfl, hl, hv, hk⟩ := h
  refine ⟨_, rfl, ns, rfl, hl, fun p hp => ⟨_, rfl, ?_⟩⟩
  have hb : setM M p .box p = some .box := set_at _ _ _
  generalize setM M p .box = M1 at hb
  refine ⟨3, rfl, by decide, by decide, ?_⟩
  refine for_inv (fun Γ M' => M' p = some .box ∧ ∃ x0 x2 x3 x4 x5 x6 x7 x8 x9 x10 x11, Γ = [x0, some (.ref p), x2, x3, x4, x5, x6, x7, x8, x9, x10, x11]) _ ⟨hb, _, _, _, _, _, _, _, _, _, _, _, rfl⟩ ?_ ?_
  · rintro d hd Γ M' ⟨hb', x0, x2, x3, x4, x5, x6, x7, x8, x9, x10, x11, rfl⟩
    refine ⟨trivial, _, rfl, fun nx hnx => ?_⟩
    exact turn_ok hv p M' hb' _ x0 (some d) x3 x4 x5 x6 x7 x8 x9 x10 x11 _ fun _ _ _ _ _ _ _ _ _ _ hb2 => hnx _ _ ⟨hb2, _, _, _, _, _, _, _, _, _, _, _, rfl⟩
  · rintro Γ M' ⟨hb', _⟩
    exact ⟨trivial, hk _⟩
end
end K64
set_option maxHeartbeats 1000000
namespace K64
open PySem L2 DL DX CM
theorem hv_of {w : World} {K : PySem.W.Frag} {h : Heap} (c : DX.SaysI hfa hfn hts [] hex hins w h K) : HV ⟨He.ga K, DX.okE K, fun q => (He.cT K (q, none)).2, DX.isK K, DX.IsC K⟩ := by
  have T : isTab K = true := XM_tab c
  have B : isBas K = true := XM_bas c
  refine ⟨fun i hi => ?_, fun i hi j hj => ?_, fun i hi j hj => ?_⟩
  · match i, hi with
    | 0, _ => exact XC_InvalidName c
    | 1, _ => exact XC_InvalidColumn c
    | 2, _ => exact XC_InvalidSide c
    | 3, _ => exact XC_InvalidKey c
    | 4, _ => exact XC_InvalidStep c
    | 5, _ => exact XC_InvalidTest c
    | 6, _ => exact XC_InvalidThing c
    | 7, _ => exact XC_InvalidSetting c
    | 8, _ => exact XC_InvalidWord c
    | 9, _ => exact XC_InvalidNumber c
    | 10, _ => exact XC_InvalidText c
    | 11, _ => exact XC_InvalidCommand c
    | 12, _ => exact XC_DuplicateName c
    | 13, _ => exact XC_SideTaken c
    | 14, _ => exact XC_TooMany c
    | 15, _ => exact XC_Full c
    | 16, _ => exact XC_InvalidRow c
    | 17, _ => exact XC_Torn c
    | 18, _ => exact XC_OtherProgram c
    | 19, _ => exact XC_Untold c
    | 20, _ => exact XC_UnknownName c
    | 21, _ => exact XC_UnknownColumn c
    | 22, _ => exact XC_UnknownRow c
    | 23, _ => exact XC_NothingLeft c
    | n + 24, hi => exact absurd hi (by omega)
  · exact of_decide_eq_true (List.all_eq_true.mp (List.all_eq_true.mp T i (List.mem_range.mpr hi)) j (List.mem_range.mpr hj))
  · exact of_decide_eq_true (List.all_eq_true.mp (List.all_eq_true.mp B i (List.mem_range.mpr hi)) j (List.mem_range.mpr hj))
/-! ### all together -/
theorem facts {w : World} {K : PySem.W.Frag} {h : Heap} {mg : Str → Option Value} {f : Addr} (X : K.In h) (G : h.Ns mainGlobals mg) (hlw : mg ("law" : Str) = some (.ref f)) (c : DX.SaysI hfa hfn hts [] hex hins w h K) :
    ∃ fd : FuncData, (∀ (s : Shared) (v : Value), BindsTo s fd ⟨[v], []⟩ [("_law_script", v)]) ∧ ∀ base : Heap, K.In base → base.Ns mainGlobals mg → FnOk hP w K mg base CX0 10 f fd ["_law_script"] (spI K (sLaw ⟨He.ga K, DX.okE K, fun q => (He.cT K (q, none)).2, DX.isK K, DX.IsC K⟩)) := by
  have T := txt X G c
  obtain ⟨fd__law_box, F__law_box⟩ := F__law_box c
  obtain ⟨fd__law_pull, F__law_pull⟩ := F__law_pull c
  obtain ⟨fd__law_of, F__law_of⟩ := F__law_of c
  obtain ⟨fd__law_same, F__law_same⟩ := F__law_same c
  obtain ⟨fd__law_field, F__law_field⟩ := F__law_field c
  obtain ⟨fd__law_odd, F__law_odd⟩ := F__law_odd c
  obtain ⟨fd__law_bases, F__law_bases⟩ := F__law_bases c
  obtain ⟨fd__law_apart, F__law_apart⟩ := F__law_apart c
  obtain ⟨fd_law, F_law⟩ := F_law c
  have e := hlw.symm.trans (g_law X G c)
  cases e
  have b := FunD.bindsA (ps := ["_law_script"]) F_law fun _ _ _ _ _ _ us hl => match us, hl with | [_], _ => rfl
  refine ⟨fd_law, fun s v => b s [v] rfl, fun base _ _ => ?_⟩
  have D__law_box : Df hP w K mg base CX0 1 _ fd__law_box "_law_box" ["_law_script"] sBox := ⟨box_box (m := fun ds M k _ => ds.length = 1 ∧ CM.b__law_box { nx := fun _ M' => k .non M', rt := k } (startD 3 ds) M noX) (ok__law_box (k := 0) F__law_box T (fun _ _ _ _ q => q.1) fun _ _ _ _ q => q.2) fun ns M k hl hk => ⟨rfl, CM.box_body ns M k hl hk⟩, g__law_box X G c, F__law_box.kp⟩
  have D__law_pull : Df hP w K mg base CX0 1 _ fd__law_pull "_law_pull" ["_law_box_here", "_law_many"] sPull := ⟨pull_box (m := fun ds M k _ => ds.length = 2 ∧ CM.b__law_pull { nx := fun _ M' => k .non M', rt := k } (startD 5 ds) M noX) (ok__law_pull (k := 0) F__law_pull T (fun _ _ _ _ q => q.1) fun _ _ _ _ q => q.2) fun b n ds M k h1 h2 h3 h4 h5 => ⟨rfl, CM.pull_body b n ds M k h1 h2 h3 h4 h5⟩, g__law_pull X G c, F__law_pull.kp⟩
  have D__law_of : Df hP w K mg base CX0 2 _ fd__law_of "_law_of" ["_law_box_here", "_law_some"] CM.sOf := ⟨ok__law_of (k := 1) F__law_of T D__law_pull (by first | decide | omega) (B__law_pull_2 F__law_pull) (fun _ _ _ _ ⟨_, _, _,  e, _⟩ => by rw [e]; rfl) CM.of_ok, g__law_of X G c, F__law_of.kp⟩
  have D__law_same : ∀ n : Nat, Df hP w K mg base CX0 (n + 1) _ fd__law_same "_law_same" ["_law_found", "_law_due"] (CM.sSame n) := fun n => by
    induction n with
    | zero => exact ⟨fn_false fun _ _ _ _ ⟨d, _, q, _⟩ => (by rw [CM.pureN] at q; exact Bool.false_ne_true q), g__law_same X G c, F__law_same.kp⟩
    | succ n ih => exact ⟨ok__law_same (k := n + 1) F__law_same T ih (by first | decide | omega) (B__law_same_2 F__law_same) (fun _ _ _ _ ⟨_,  e, _⟩ => by rw [e]; rfl) (CM.same_ok n), g__law_same X G c, F__law_same.kp⟩
  have D__law_field : Df hP w K mg base CX0 1 _ fd__law_field "_law_field" ["_law_e"] (sFieldX (DX.IsC K)) := ⟨ok__law_field (V := ⟨He.ga K, DX.okE K, fun q => (He.cT K (q, none)).2, DX.isK K, DX.IsC K⟩) (k := 0) F__law_field T (show DX.EvD K ⟨He.ga K, DX.okE K, fun q => (He.cT K (q, none)).2, DX.isK K, DX.IsC K⟩ from ⟨rfl, rfl, rfl, rfl⟩) (fun _ _ _ _ ⟨_,  e, _⟩ => by rw [e]; rfl) (field_ok (V := ⟨He.ga K, DX.okE K, fun q => (He.cT K (q, none)).2, DX.isK K, DX.IsC K⟩)), g__law_field X G c, F__law_field.kp⟩
  have D__law_odd : Df hP w K mg base CX0 3 _ fd__law_odd "_law_odd" ["_law_box_here", "_law_more"] CM.sOdd := ⟨ok__law_odd (k := 2) F__law_odd T D__law_of (by first | decide | omega) (B__law_of_2 F__law_of) (fun _ _ _ _ ⟨_, _, _,  e, _⟩ => by rw [e]; rfl) CM.odd_ok, g__law_odd X G c, F__law_odd.kp⟩
  have D__law_bases : Df hP w K mg base CX0 1 _ fd__law_bases "_law_bases" ["_law_e"] (sBases ⟨He.ga K, DX.okE K, fun q => (He.cT K (q, none)).2, DX.isK K, DX.IsC K⟩) := ⟨ok__law_bases (V := ⟨He.ga K, DX.okE K, fun q => (He.cT K (q, none)).2, DX.isK K, DX.IsC K⟩) (k := 0) F__law_bases T (gc_Missing X G c) (gc_LotsError X G c) (show DX.EvD K ⟨He.ga K, DX.okE K, fun q => (He.cT K (q, none)).2, DX.isK K, DX.IsC K⟩ from ⟨rfl, rfl, rfl, rfl⟩) (fun _ _ _ _ ⟨_,  e, _⟩ => by rw [e]; rfl) (bases_ok (V := ⟨He.ga K, DX.okE K, fun q => (He.cT K (q, none)).2, DX.isK K, DX.IsC K⟩)), g__law_bases X G c, F__law_bases.kp⟩
  have D__law_apart : Df hP w K mg base CX0 1 _ fd__law_apart "_law_apart" ["_law_lots"] (sApart ⟨He.ga K, DX.okE K, fun q => (He.cT K (q, none)).2, DX.isK K, DX.IsC K⟩) := ⟨ok__law_apart (V := ⟨He.ga K, DX.okE K, fun q => (He.cT K (q, none)).2, DX.isK K, DX.IsC K⟩) (k := 0) F__law_apart T (gc_NothingLeft X G c) (gc_UnknownRow X G c) (gc_UnknownColumn X G c) (gc_UnknownName X G c) (gc_Untold X G c) (gc_OtherProgram X G c) (gc_Torn X G c) (gc_InvalidRow X G c) (gc_Full X G c) (gc_TooMany X G c) (gc_SideTaken X G c) (gc_DuplicateName X G c) (gc_InvalidCommand X G c) (gc_InvalidText X G c) (gc_InvalidNumber X G c) (gc_InvalidWord X G c) (gc_InvalidSetting X G c) (gc_InvalidThing X G c) (gc_InvalidTest X G c) (gc_InvalidStep X G c) (gc_InvalidKey X G c) (gc_InvalidSide X G c) (gc_InvalidColumn X G c) (gc_InvalidName X G c) (show DX.EvD K ⟨He.ga K, DX.okE K, fun q => (He.cT K (q, none)).2, DX.isK K, DX.IsC K⟩ from ⟨rfl, rfl, rfl, rfl⟩) (fun _ _ _ _ ⟨_,  e, _⟩ => by rw [e]; rfl) (apart_ok (V := ⟨He.ga K, DX.okE K, fun q => (He.cT K (q, none)).2, DX.isK K, DX.IsC K⟩)), g__law_apart X G c, F__law_apart.kp⟩
  exact ok_law (V := ⟨He.ga K, DX.okE K, fun q => (He.cT K (q, none)).2, DX.isK K, DX.IsC K⟩) (k := 9) F_law T D__law_box (by first | decide | omega) D__law_odd (by first | decide | omega) (D__law_same 5) (by first | decide | omega) D__law_field (by first | decide | omega) D__law_bases (by first | decide | omega) D__law_apart (by first | decide | omega) (E_Full X G c base) (by first | decide | omega) (E_TooMany X G c base) (by first | decide | omega) (E_SideTaken X G c base) (by first | decide | omega) (E_DuplicateName X G c base) (by first | decide | omega) (E_InvalidCommand X G c base) (by first | decide | omega) (E_InvalidText X G c base) (by first | decide | omega) (E_InvalidNumber X G c base) (by first | decide | omega) (E_InvalidWord X G c base) (by first | decide | omega) (E_InvalidSetting X G c base) (by first | decide | omega) (E_InvalidThing X G c base) (by first | decide | omega) (E_InvalidTest X G c base) (by first | decide | omega) (E_InvalidStep X G c base) (by first | decide | omega) (E_InvalidKey X G c base) (by first | decide | omega) (E_InvalidSide X G c base) (by first | decide | omega) (E_InvalidColumn X G c base) (by first | decide | omega) (E_InvalidName X G c base) (by first | decide | omega) (E_Untold X G c base) (by first | decide | omega) (E_OtherProgram X G c base) (by first | decide | omega) (E_Torn X G c base) (by first | decide | omega) (E_InvalidRow X G c base) (by first | decide | omega) (E_UnknownRow X G c base) (by first | decide | omega) (E_UnknownColumn X G c base) (by first | decide | omega) (E_UnknownName X G c base) (by first | decide | omega) (E_NothingLeft X G c base) (by first | decide | omega) (B__law_box_1 F__law_box) (B__law_odd_2 F__law_odd) (B__law_field_1 F__law_field) (B__law_same_2 F__law_same) (B__law_bases_1 F__law_bases) (B__law_apart_1 F__law_apart) (show DX.EvD K ⟨He.ga K, DX.okE K, fun q => (He.cT K (q, none)).2, DX.isK K, DX.IsC K⟩ from ⟨rfl, rfl, rfl, rfl⟩) (fun _ _ _ _ ⟨_,  e, _⟩ => by rw [e]; rfl) (law_ok (V := ⟨He.ga K, DX.okE K, fun q => (He.cT K (q, none)).2, DX.isK K, DX.IsC K⟩))
end K64
open PySem PySem.W PySem.Calls PyProof.Rows
set_option maxHeartbeats 0 in
theorem PySem.Challenge.cw_bothlots_k64_errors_and_classes_holds : PySem.Challenge.rw_bothlots_k64_errors_and_classes.Holds := by
  w_on; o_law
  o_head K64.hk
  case hw => w_witness2
  case hc =>
    refine L2.walk_ofE (l := PySem.Challenge.rw_bothlots_k64_errors_and_classes) (n := 63) (k := 10) (x := "_law_script") (CX := L2.CX0) rfl (by decide) (by kernel_rfl) ⟨rfl, by decide, by decide⟩ ?F (fun _ _ _ _ z => z)
    intro w mg fa h Y G hmg0
    obtain ⟨K, KX, c⟩ := Y
    have hmg : mg ("law" : PySem.Str) = some (.ref fa) := hmg0
    obtain ⟨fd, hb, hF⟩ := K64.facts (w := w) KX G hmg c
    exact ⟨K, fd, _, KX, hb, fun H a ns hl _ hS => DL.law_start hS fun M => ⟨ns, rfl, hl, K64.hv_of c, fun _ => rfl⟩, hF⟩
#print axioms PySem.Challenge.cw_bothlots_k64_errors_and_classes_holds
