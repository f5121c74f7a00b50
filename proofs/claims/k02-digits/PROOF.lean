import PyProof.Rows.All
import Wide.All
import OpenK.AllK
import Wide.FinOn
import HandS.ForMost
import HandS.ForExc
import HandS.Wide
import HandS.IsInst
import HandS.Deep
import HandS.TupAny
import HandS.TupMul
import HandS.Zip
import HandS.Style
import HandS.Conv
import PySem.Challenge.RW_flipchoice_k02_digits_and_open_words
set_option Elab.async false
set_option linter.all false
set_option maxRecDepth 100000
set_option maxHeartbeats 4000000
/-! Fc: an abstract machine over plain data (Dv) and a store of changing objects (Sto); each construct of Python as a total function on it. -/
namespace Fc
open PySem L2

/-- plain data; ref n is the n-th object of the store -/
inductive Dv where
  | non | bl (b : Bool) | int (i : Int) | str (x : Str) | tup (ds : List Dv) | fz (ds : List Dv) | ref (n : Nat)
  deriving Inhabited
/-- what changes: a list, a dict (open or locked by a loop), an instance of the c-th class -/
inductive Ob where
  | lst (ds : List Dv) | dic (kvs : List (Key × Dv)) | ldic (kvs : List (Key × Dv)) | ins (c : Nat) (fs : List (Str × Dv))
  deriving Inhabited
abbrev Sto := List Ob
/-- how a piece of the text ends -/
inductive Res (α : Type) where
  | ok (a : α) (S : Sto) | exn (c : Nat) (S : Sto) | stuck
def Res.bd {α β : Type} (r : Res α) (f : α → Sto → Res β) : Res β :=
  match r with
  | .ok a S => f a S
  | .exn c S => .exn c S
  | .stuck => .stuck
@[simp] theorem Res.bd_ok {α β : Type} (a : α) (S : Sto) (f : α → Sto → Res β) : (Res.ok a S).bd f = f a S := rfl
@[simp] theorem Res.bd_exn {α β : Type} (c : Nat) (S : Sto) (f : α → Sto → Res β) : (Res.exn c S : Res α).bd f = .exn c S := rfl
@[simp] theorem Res.bd_stuck {α β : Type} (f : α → Sto → Res β) : (Res.stuck : Res α).bd f = .stuck := rfl
/-- locals by slot -/
abbrev Ev := List (Option Dv)
inductive Out where
  | nx (ρ : Ev) | rt (d : Dv) | bk (ρ : Ev) | ct (ρ : Ev) | ex (c : Nat) (ρ : Ev)
abbrev DE := Ev → Sto → Res Dv
abbrev DT := Ev → Sto → Res Bool
abbrev DL := Ev → Sto → Res (List Dv)
abbrev DS := Ev → Sto → Res Out
/-- a loop's bound: never met -/
theorem big_ex : ∃ n : Nat, n = 1000000000000 := ⟨_, rfl⟩
noncomputable def big : Nat := Classical.choose big_ex
theorem big_eq : big = 1000000000000 := Classical.choose_spec big_ex
theorem lt_big {n : Nat} (h : n < 1000000000000) : n < big := by
  rw [big_eq]
  exact h
/-- the longest list, tuple, text that is built -/
def lim : Nat := 100000

/-! ### what the data mean: values over the layer's heap -/
/-- a list that nothing writes -/
def Fzl (K : PySem.W.Frag) (H : Hp) (a : Addr) (xs : List V) : Prop :=
  (∃ o, H a = some (.frz o (.lst xs))) ∨ (SqL K (fun _ => none) a xs)
theorem Fzl.seq {K : PySem.W.Frag} {H : Hp} {a : Addr} {xs : List V} (h : Fzl K H a xs) : SqL K H a xs := by
  rcases h with h | h
  · exact .inl (.inr h)
  · rcases h with (h | ⟨o, h⟩) | h
    · cases h
    · cases h
    · exact .inr h
mutual
def VR (K : PySem.W.Frag) (H : Hp) (μ : List Addr) : Dv → V → Prop
  | .non, v => v = .non
  | .bl b, v => v = .bl b
  | .int i, v => v = .int i
  | .str x, v => v = .str x
  | .tup ds, v => ∃ a vs, v = .ref a ∧ SqT K H a vs ∧ VRs K H μ ds vs
  | .fz ds, v => ∃ a vs, v = .ref a ∧ Fzl K H a vs ∧ VRs K H μ ds vs
  | .ref n, v => ∃ a, μ[n]? = some a ∧ v = .ref a
def VRs (K : PySem.W.Frag) (H : Hp) (μ : List Addr) : List Dv → List V → Prop
  | [], vs => vs = []
  | d :: ds, vs => ∃ v r, vs = v :: r ∧ VR K H μ d v ∧ VRs K H μ ds r
end
/-- later: addresses of the store stay, what never changes stays -/
structure Aft (K : PySem.W.Frag) (μ : List Addr) (H : Hp) (μ' : List Addr) (H' : Hp) : Prop where
  pre : ∃ ν, μ' = μ ++ ν
  tup : ∀ a xs, SqT K H a xs → SqT K H' a xs
  fzl : ∀ a xs, Fzl K H a xs → Fzl K H' a xs
section
variable {K : PySem.W.Frag} {H H' H1 H2 : Hp} {μ μ' μ1 μ2 : List Addr}
theorem Aft.refl : Aft K μ H μ H := ⟨⟨[], by simp⟩, fun _ _ h => h, fun _ _ h => h⟩
theorem Aft.trans (a : Aft K μ H μ1 H1) (b : Aft K μ1 H1 μ2 H2) : Aft K μ H μ2 H2 := by
  obtain ⟨⟨ν, rfl⟩, a1, a2⟩ := a
  obtain ⟨⟨ξ, rfl⟩, b1, b2⟩ := b
  exact ⟨⟨ν ++ ξ, by simp⟩, fun x xs h => b1 x xs (a1 x xs h), fun x xs h => b2 x xs (a2 x xs h)⟩
theorem Aft.at (a : Aft K μ H μ' H') {n : Nat} {x : Addr} (h : μ[n]? = some x) : μ'[n]? = some x := by
  obtain ⟨⟨ν, rfl⟩, _, _⟩ := a
  rw [List.getElem?_append_left (List.getElem?_eq_some_iff.mp h).1]
  exact h
mutual
theorem VR.mono (a : Aft K μ H μ' H') : ∀ {d : Dv} {v : V}, VR K H μ d v → VR K H' μ' d v
  | .non, _, h => by simpa [VR] using h
  | .bl _, _, h => by simpa [VR] using h
  | .int _, _, h => by simpa [VR] using h
  | .str _, _, h => by simpa [VR] using h
  | .tup ds, _, h => by
    simp only [VR] at h ⊢
    obtain ⟨x, vs, e, h1, h2⟩ := h
    exact ⟨x, vs, e, a.tup _ _ h1, VRs.mono a h2⟩
  | .fz ds, _, h => by
    simp only [VR] at h ⊢
    obtain ⟨x, vs, e, h1, h2⟩ := h
    exact ⟨x, vs, e, a.fzl _ _ h1, VRs.mono a h2⟩
  | .ref n, _, h => by
    simp only [VR] at h ⊢
    obtain ⟨x, h1, e⟩ := h
    exact ⟨x, a.at h1, e⟩
theorem VRs.mono (a : Aft K μ H μ' H') : ∀ {ds : List Dv} {vs : List V}, VRs K H μ ds vs → VRs K H' μ' ds vs
  | [], _, h => by simpa [VRs] using h
  | d :: ds, _, h => by
    simp only [VRs] at h ⊢
    obtain ⟨v, r, e, h1, h2⟩ := h
    exact ⟨v, r, e, VR.mono a h1, VRs.mono a h2⟩
end
@[simp] theorem VR_non {v : V} : VR K H μ .non v ↔ v = .non := by simp [VR]
@[simp] theorem VR_bl {b : Bool} {v : V} : VR K H μ (.bl b) v ↔ v = .bl b := by simp [VR]
@[simp] theorem VR_int {i : Int} {v : V} : VR K H μ (.int i) v ↔ v = .int i := by simp [VR]
@[simp] theorem VR_str {x : Str} {v : V} : VR K H μ (.str x) v ↔ v = .str x := by simp [VR]
theorem VR_tup {ds : List Dv} {v : V} : VR K H μ (.tup ds) v ↔ ∃ a vs, v = .ref a ∧ SqT K H a vs ∧ VRs K H μ ds vs := by simp [VR]
theorem VR_fz {ds : List Dv} {v : V} : VR K H μ (.fz ds) v ↔ ∃ a vs, v = .ref a ∧ Fzl K H a vs ∧ VRs K H μ ds vs := by simp [VR]
theorem VR_ref {n : Nat} {v : V} : VR K H μ (.ref n) v ↔ ∃ a, μ[n]? = some a ∧ v = .ref a := by simp [VR]
theorem VRs_nil {vs : List V} : VRs K H μ [] vs ↔ vs = [] := by simp [VRs]
theorem VRs_cons {d : Dv} {ds : List Dv} {vs : List V} : VRs K H μ (d :: ds) vs ↔ ∃ v r, vs = v :: r ∧ VR K H μ d v ∧ VRs K H μ ds r := by simp [VRs]
theorem VRs.length : ∀ {ds : List Dv} {vs : List V}, VRs K H μ ds vs → ds.length = vs.length
  | [], _, h => by rw [VRs_nil.mp h]; rfl
  | d :: ds, _, h => by
    obtain ⟨v, r, rfl, _, h2⟩ := VRs_cons.mp h
    simp [VRs.length h2]
theorem VRs.get : ∀ {ds : List Dv} {vs : List V} {i : Nat} {d : Dv}, VRs K H μ ds vs → ds[i]? = some d → ∃ v, vs[i]? = some v ∧ VR K H μ d v
  | [], _, _, _, _, e => by simp at e
  | d :: ds, _, 0, _, h, e => by
    obtain ⟨v, r, rfl, h1, h2⟩ := VRs_cons.mp h
    simp at e
    subst e
    exact ⟨v, rfl, h1⟩
  | d :: ds, _, i + 1, _, h, e => by
    obtain ⟨v, r, rfl, h1, h2⟩ := VRs_cons.mp h
    obtain ⟨w, q1, q2⟩ := VRs.get (i := i) h2 (by simpa using e)
    exact ⟨w, by simpa using q1, q2⟩
theorem VRs.get' : ∀ {ds : List Dv} {vs : List V} {i : Nat} {v : V}, VRs K H μ ds vs → vs[i]? = some v → ∃ d, ds[i]? = some d ∧ VR K H μ d v := fun {ds vs i v} h e => by
  have hi : i < ds.length := by rw [h.length]; exact (List.getElem?_eq_some_iff.mp e).1
  obtain ⟨w, e2, r⟩ := h.get (List.getElem?_eq_getElem hi)
  rw [e] at e2
  cases e2
  exact ⟨_, List.getElem?_eq_getElem hi, r⟩
theorem VRs.of_get : ∀ {ds : List Dv} {vs : List V}, ds.length = vs.length → (∀ (i : Nat) (d : Dv) (v : V), ds[i]? = some d → vs[i]? = some v → VR K H μ d v) → VRs K H μ ds vs
  | [], [], _, _ => VRs_nil.mpr rfl
  | [], _ :: _, h, _ => by simp at h
  | _ :: _, [], h, _ => by simp at h
  | d :: ds, v :: vs, h, g => VRs_cons.mpr ⟨v, vs, rfl, g 0 d v rfl rfl, VRs.of_get (by simpa using h) fun i d v h1 h2 => g (i + 1) d v (by simpa using h1) (by simpa using h2)⟩
theorem VRs.append : ∀ {ds es : List Dv} {vs ws : List V}, VRs K H μ ds vs → VRs K H μ es ws → VRs K H μ (ds ++ es) (vs ++ ws)
  | [], _, _, _, h, h' => by rw [VRs_nil.mp h]; exact h'
  | d :: ds, _, _, _, h, h' => by
    obtain ⟨v, r, rfl, h1, h2⟩ := VRs_cons.mp h
    exact VRs_cons.mpr ⟨v, _, rfl, h1, VRs.append h2 h'⟩
theorem VRs.take : ∀ {ds : List Dv} {vs : List V} (n : Nat), VRs K H μ ds vs → VRs K H μ (ds.take n) (vs.take n)
  | [], _, n, h => by rw [VRs_nil.mp h]; simp [VRs_nil]
  | _ :: _, _, 0, h => by simp [VRs_nil]
  | d :: ds, _, n + 1, h => by
    obtain ⟨v, r, rfl, h1, h2⟩ := VRs_cons.mp h
    exact VRs_cons.mpr ⟨v, _, rfl, h1, VRs.take n h2⟩
theorem VRs.drop : ∀ {ds : List Dv} {vs : List V} (n : Nat), VRs K H μ ds vs → VRs K H μ (ds.drop n) (vs.drop n)
  | [], _, n, h => by rw [VRs_nil.mp h]; simp [VRs_nil]
  | _ :: _, _, 0, h => h
  | d :: ds, _, n + 1, h => by
    obtain ⟨v, r, rfl, h1, h2⟩ := VRs_cons.mp h
    exact VRs.drop n h2
theorem VRs.set : ∀ {ds : List Dv} {vs : List V} {d : Dv} {v : V} (n : Nat), VRs K H μ ds vs → VR K H μ d v → VRs K H μ (ds.set n d) (vs.set n v)
  | [], _, _, _, n, h, _ => by rw [VRs_nil.mp h]; simp [VRs_nil]
  | _ :: _, _, _, _, 0, h, q => by
    obtain ⟨v, r, rfl, h1, h2⟩ := VRs_cons.mp h
    exact VRs_cons.mpr ⟨_, _, rfl, q, h2⟩
  | d :: ds, _, _, _, n + 1, h, q => by
    obtain ⟨v, r, rfl, h1, h2⟩ := VRs_cons.mp h
    exact VRs_cons.mpr ⟨_, _, rfl, h1, VRs.set n h2 q⟩
theorem VRs.reverse {ds : List Dv} {vs : List V} (h : VRs K H μ ds vs) : VRs K H μ ds.reverse vs.reverse := by
  refine VRs.of_get (by simp [h.length]) fun i d v h1 h2 => ?_
  have hl := h.length
  have i1 : i < ds.length := by have := (List.getElem?_eq_some_iff.mp h1).1; simpa using this
  rw [List.getElem?_reverse i1] at h1
  rw [List.getElem?_reverse (by omega)] at h2
  obtain ⟨w, e, r⟩ := h.get h1
  rw [hl, h2] at e
  cases e
  exact r
theorem VRs.rep {ds : List Dv} {vs : List V} (h : VRs K H μ ds vs) : ∀ k : Nat, VRs K H μ (List.replicate k ds).flatten (List.replicate k vs).flatten
  | 0 => VRs_nil.mpr rfl
  | k + 1 => by
    rw [List.replicate_succ, List.replicate_succ, List.flatten_cons, List.flatten_cons]
    exact h.append (VRs.rep h k)
theorem VRs.ints : ∀ {ns : List Int} {vs : List V}, VRs K H μ (ns.map Dv.int) vs ↔ vs = ns.map V.int
  | [], _ => by simp [VRs_nil]
  | n :: ns, vs => by
    rw [List.map_cons, List.map_cons, VRs_cons]
    constructor
    · rintro ⟨v, r, rfl, h1, h2⟩
      rw [VR_int.mp h1, VRs.ints.mp h2]
    · rintro rfl
      exact ⟨_, _, rfl, VR_int.mpr rfl, VRs.ints.mpr rfl⟩
end

/-! ### objects -/
def KRs (K : PySem.W.Frag) (H : Hp) (μ : List Addr) {κ : Type} : List (κ × Dv) → List (κ × V) → Prop
  | [], l => l = []
  | (k, d) :: r, l => ∃ v t, l = (k, v) :: t ∧ VR K H μ d v ∧ KRs K H μ r t
theorem KRs.mono {K : PySem.W.Frag} {H H' : Hp} {μ μ' : List Addr} {κ : Type} (a : Aft K μ H μ' H') : ∀ {l : List (κ × Dv)} {m : List (κ × V)}, KRs K H μ l m → KRs K H' μ' l m
  | [], _, h => h
  | (k, d) :: r, _, h => by
    obtain ⟨v, t, rfl, h1, h2⟩ := h
    exact ⟨v, t, rfl, h1.mono a, KRs.mono a h2⟩
def OR (K : PySem.W.Frag) (C : Nat → Addr) (H : Hp) (μ : List Addr) : Ob → HO → Prop
  | .lst ds, ho => ∃ vs, ho = .lst vs ∧ VRs K H μ ds vs
  | .dic kvs, ho => ∃ kws, ho = .dK kws ∧ KRs K H μ kvs kws
  | .ldic kvs, ho => ∃ o kws, ho = .frz o (.dK kws) ∧ KRs K H μ kvs kws
  | .ins c fs, ho => ∃ dx gs, ho = .ins (C c) dx gs ∧ KRs K H μ fs gs
theorem OR.mono {K : PySem.W.Frag} {C : Nat → Addr} {H H' : Hp} {μ μ' : List Addr} (a : Aft K μ H μ' H') : ∀ {o : Ob} {ho : HO}, OR K C H μ o ho → OR K C H' μ' o ho
  | .lst _, _, ⟨vs, e, h⟩ => ⟨vs, e, h.mono a⟩
  | .dic _, _, ⟨vs, e, h⟩ => ⟨vs, e, h.mono a⟩
  | .ldic _, _, ⟨o, vs, e, h⟩ => ⟨o, vs, e, h.mono a⟩
  | .ins _ _, _, ⟨dx, vs, e, h⟩ => ⟨dx, vs, e, h.mono a⟩
/-- the store is held by the heap -/
structure SR (K : PySem.W.Frag) (C : Nat → Addr) (μ : List Addr) (S : Sto) (H : Hp) : Prop where
  len : μ.length = S.length
  nd : μ.Nodup
  ob : ∀ (n : Nat) (o : Ob) (a : Addr), S[n]? = some o → μ[n]? = some a → ∃ ho, H a = some ho ∧ OR K C H μ o ho
/-- what may be overwritten (or is free): no tuple, no list that is only read -/
def Soft : Option HO → Prop
  | some (.tup _) => False
  | some (.frz _ (.tup _)) => False
  | some (.frz _ (.lst _)) => False
  | _ => True
theorem Aft.upd {K : PySem.W.Frag} {H : Hp} {μ : List Addr} {p : Addr} {o : HO} (h : Soft (H p)) : Aft K μ H μ (L2.upd H p o) := by
  refine ⟨⟨[], by simp⟩, fun a xs q => ?_, fun a xs q => ?_⟩
  · rcases q with (q | ⟨ob, q⟩) | q
    · refine .inl (.inl ?_)
      rw [upd_ne]
      · exact q
      · rintro rfl
        rw [q] at h
        exact h
    · refine .inl (.inr ⟨ob, ?_⟩)
      rw [upd_ne]
      · exact q
      · rintro rfl
        rw [q] at h
        exact h
    · exact .inr q
  · rcases q with ⟨ob, q⟩ | q
    · refine .inl ⟨ob, ?_⟩
      rw [upd_ne]
      · exact q
      · rintro rfl
        rw [q] at h
        exact h
    · exact .inr q
theorem Aft.grow {K : PySem.W.Frag} {H : Hp} {μ : List Addr} (ν : List Addr) : Aft K μ H (μ ++ ν) H := ⟨⟨ν, rfl⟩, fun _ _ h => h, fun _ _ h => h⟩
section
variable {K : PySem.W.Frag} {C : Nat → Addr} {H : Hp} {μ : List Addr} {S : Sto}
theorem SR.at (s : SR K C μ S H) {n : Nat} {o : Ob} (h : S[n]? = some o) : ∃ a ho, μ[n]? = some a ∧ H a = some ho ∧ OR K C H μ o ho := by
  have hn : n < μ.length := by rw [s.len]; exact (List.getElem?_eq_some_iff.mp h).1
  obtain ⟨ho, h1, h2⟩ := s.ob n o _ h (List.getElem?_eq_getElem hn)
  exact ⟨_, ho, List.getElem?_eq_getElem hn, h1, h2⟩
theorem OR.soft {o : Ob} {ho : HO} (h : OR K C H μ o ho) : Soft (some ho) := by
  cases o with
  | lst ds => obtain ⟨_, rfl, _⟩ := h; trivial
  | dic ds => obtain ⟨_, rfl, _⟩ := h; trivial
  | ldic ds => obtain ⟨_, _, rfl, _⟩ := h; trivial
  | ins c ds => obtain ⟨_, _, rfl, _⟩ := h; trivial
theorem SR.tracked (s : SR K C μ S H) {n : Nat} {a : Addr} (h : μ[n]? = some a) : ∃ ho, H a = some ho ∧ Soft (some ho) := by
  have hn : n < S.length := by rw [← s.len]; exact (List.getElem?_eq_some_iff.mp h).1
  obtain ⟨ho, h1, h2⟩ := s.ob n _ a (List.getElem?_eq_getElem hn) h
  exact ⟨ho, h1, h2.soft⟩
/-- the heap has moved on, the store is as it was -/
theorem SR.keep {H' : Hp} (s : SR K C μ S H) (a : Aft K μ H μ H') (k : ∀ (n : Nat) (x : Addr), μ[n]? = some x → H' x = H x) : SR K C μ S H' :=
  ⟨s.len, s.nd, fun n o x h1 h2 => by
    obtain ⟨ho, e, r⟩ := s.ob n o x h1 h2
    exact ⟨ho, (k n x h2).trans e, r.mono a⟩⟩
/-- an untracked thing is laid -/
theorem SR.lay (s : SR K C μ S H) {p : Addr} {o : HO} (h : H p = none) : SR K C μ S (L2.upd H p o) :=
  s.keep (Aft.upd (by rw [h]; trivial)) fun n x e => upd_ne (by
    rintro rfl
    obtain ⟨ho, q, _⟩ := s.tracked e
    rw [h] at q
    cases q)
/-- a new object of the store -/
theorem SR.alloc (s : SR K C μ S H) {p : Addr} {o : Ob} {ho : HO} (h : H p = none) (r : OR K C (L2.upd H p ho) (μ ++ [p]) o ho) : SR K C (μ ++ [p]) (S ++ [o]) (L2.upd H p ho) := by
  have s' := s.lay (o := ho) h
  refine ⟨by simp [s.len], ?_, fun n q x h1 h2 => ?_⟩
  · rw [List.nodup_append]
    refine ⟨s.nd, by simp, fun x hx y hy e => ?_⟩
    simp at hy
    subst hy e
    obtain ⟨n, e⟩ := List.getElem?_of_mem hx
    obtain ⟨_, q, _⟩ := s.tracked e
    rw [h] at q
    cases q
  · by_cases hn : n < S.length
    · rw [List.getElem?_append_left hn] at h1
      rw [List.getElem?_append_left (by rw [s.len]; exact hn)] at h2
      obtain ⟨hq, e, r⟩ := s'.ob n q x h1 h2
      exact ⟨hq, e, r.mono (Aft.grow _)⟩
    · have e : n = S.length := by
        have := (List.getElem?_eq_some_iff.mp h1).1
        simp at this
        omega
      subst e
      rw [List.getElem?_append_right (Nat.le_refl _)] at h1
      rw [List.getElem?_append_right (by rw [s.len]; exact Nat.le_refl _), s.len] at h2
      simp at h1 h2
      subst h1 h2
      exact ⟨ho, upd_same, r⟩
theorem SR.alloc_aft (s : SR K C μ S H) {p : Addr} {ho : HO} (h : H p = none) : Aft K μ H (μ ++ [p]) (L2.upd H p ho) :=
  (Aft.upd (by rw [h]; trivial)).trans (Aft.grow _)
/-- an object of the store is overwritten -/
theorem SR.put (s : SR K C μ S H) {n : Nat} {a : Addr} {o : Ob} {ho : HO} (h : μ[n]? = some a) (r : OR K C (L2.upd H a ho) μ o ho) : SR K C μ (S.set n o) (L2.upd H a ho) := by
  have af : Aft K μ H μ (L2.upd H a ho) := by
    obtain ⟨hq, e, so⟩ := s.tracked h
    exact Aft.upd (by rw [e]; exact so)
  refine ⟨by simp [s.len], s.nd, fun m q x h1 h2 => ?_⟩
  by_cases e : m = n
  · subst e
    have hl : m < S.length := by
      have := (List.getElem?_eq_some_iff.mp h1).1
      simpa using this
    rw [List.getElem?_set_self hl] at h1
    rw [h] at h2
    cases h1
    cases h2
    exact ⟨ho, upd_same, r⟩
  · rw [List.getElem?_set_ne (Ne.symm e)] at h1
    obtain ⟨hq, e1, r1⟩ := s.ob m q x h1 h2
    refine ⟨hq, ?_, r1.mono af⟩
    rw [upd_ne]
    · exact e1
    · rintro rfl
      exact e (nodup_ix' s.nd h2 h)
where
  nodup_ix' {l : List Addr} (hN : l.Nodup) {i j : Nat} {x : Addr} (a : l[i]? = some x) (b : l[j]? = some x) : i = j := by
    obtain ⟨h1, e1⟩ := List.getElem?_eq_some_iff.mp a
    obtain ⟨h2, e2⟩ := List.getElem?_eq_some_iff.mp b
    exact (List.getElem_inj hN).mp (e1.trans e2.symm)
theorem SR.put_aft (s : SR K C μ S H) {n : Nat} {a : Addr} {ho : HO} (h : μ[n]? = some a) : Aft K μ H μ (L2.upd H a ho) := by
  obtain ⟨hq, e, so⟩ := s.tracked h
  exact Aft.upd (by rw [e]; exact so)
end

/-! ### a state: locals and store -/
structure Rl (K : PySem.W.Frag) (C : Nat → Addr) (μ : List Addr) (ρ : Ev) (S : Sto) (σ : L2.St) (H : Hp) : Prop where
  sr : SR K C μ S H
  len : ρ.length = σ.length
  sl : ∀ (i : Nat) (d : Dv), ρ[i]? = some (some d) → ∃ v, σ[i]? = some (some v) ∧ VR K H μ d v
section
variable {K : PySem.W.Frag} {C : Nat → Addr} {H H' H1 : Hp} {μ μ' μ1 : List Addr} {S S' : Sto} {ρ : Ev} {σ : L2.St} {W : WX} {α β : Type}
theorem Rl.next (r : Rl K C μ ρ S σ H) (a : Aft K μ H μ' H') (s : SR K C μ' S' H') : Rl K C μ' ρ S' σ H' :=
  ⟨s, r.len, fun i d e => by
    obtain ⟨v, h1, h2⟩ := r.sl i d e
    exact ⟨v, h1, h2.mono a⟩⟩
/-- a piece's end, told of the heap. P: how its answer stands there -/
def tR (K : PySem.W.Frag) (C : Nat → Addr) (W : WX) (P : List Addr → Hp → α → β → Prop) (r : Res α) (μ : List Addr) (σ : L2.St) (H : Hp) (Q : β → Hp → Prop) : Prop :=
  match r with
  | .ok d S' => ∀ μ' H' v, Aft K μ H μ' H' → SR K C μ' S' H' → P μ' H' d v → Q v H'
  | .exn c S' => ∀ μ' H', Aft K μ H μ' H' → SR K C μ' S' H' → W (.ref (C c)) none σ H'
  | .stuck => False
theorem tR.imp {P : List Addr → Hp → α → β → Prop} {r : Res α} {Q Q' : β → Hp → Prop} (h : tR K C W P r μ σ H Q) (k : ∀ v H1, Q v H1 → Q' v H1) : tR K C W P r μ σ H Q' := by
  cases r with
  | ok d S' => exact fun μ' H' v a s q => k _ _ (h μ' H' v a s q)
  | exn c S' => exact h
  | stuck => exact h
theorem tR.aft {P : List Addr → Hp → α → β → Prop} {r : Res α} {Q : β → Hp → Prop} (h : tR K C W P r μ σ H Q) (b : Aft K μ H μ1 H1) : tR K C W P r μ1 σ H1 Q := by
  cases r with
  | ok d S' => exact fun μ' H' v a s q => h μ' H' v (b.trans a) s q
  | exn c S' => exact fun μ' H' a s => h μ' H' (b.trans a) s
  | stuck => exact h
theorem tR.bd {γ δ : Type} {P : List Addr → Hp → α → β → Prop} {P2 : List Addr → Hp → γ → δ → Prop} {r : Res α} {k : α → Sto → Res γ} {Q : δ → Hp → Prop} (h : tR K C W P2 (r.bd k) μ σ H Q) :
    tR K C W P r μ σ H fun v H1 => ∃ μ1 S1 d, Aft K μ H μ1 H1 ∧ SR K C μ1 S1 H1 ∧ P μ1 H1 d v ∧ tR K C W P2 (k d S1) μ1 σ H1 Q := by
  cases r with
  | ok d S' => exact fun μ' H' v a s q => ⟨μ', S', d, a, s, q, tR.aft (r := k d S') h a⟩
  | exn c S' => exact h
  | stuck => exact h
/-- an expression; a test; several expressions -/
abbrev PV (K : PySem.W.Frag) : List Addr → Hp → Dv → V → Prop := fun μ H d v => VR K H μ d v
abbrev PB : List Addr → Hp → Bool → Bool → Prop := fun _ _ b c => b = c
abbrev PL (K : PySem.W.Frag) : List Addr → Hp → List Dv → List V → Prop := fun μ H d v => VRs K H μ d v
def tG (K : PySem.W.Frag) (C : Nat → Addr) (W : WX) (P : List Addr → Hp → α → β → Prop) (f : Ev → Sto → Res α) : L2.St → Hp → (β → Hp → Prop) → Prop := fun σ H Q => ∃ μ ρ S, Rl K C μ ρ S σ H ∧ tR K C W P (f ρ S) μ σ H Q
/-- what is asked of a statement -/
def tSt (K : PySem.W.Frag) (C : Nat → Addr) (W : WX) (r : Res Out) (μ : List Addr) (H : Hp) (D : Ends) : Prop :=
  match r with
  | .ok (.nx ρ') S' => ∀ μ' σ' H', Aft K μ H μ' H' → Rl K C μ' ρ' S' σ' H' → D.nx σ' H'
  | .ok (.rt d) S' => ∀ μ' H' v, Aft K μ H μ' H' → SR K C μ' S' H' → VR K H' μ' d v → D.rt v H'
  | .ok (.bk ρ') S' => ∀ μ' σ' H', Aft K μ H μ' H' → Rl K C μ' ρ' S' σ' H' → D.bk σ' H'
  | .ok (.ct ρ') S' => ∀ μ' σ' H', Aft K μ H μ' H' → Rl K C μ' ρ' S' σ' H' → D.ct σ' H'
  | .ok (.ex c ρ') S' => ∀ μ' σ' H', Aft K μ H μ' H' → Rl K C μ' ρ' S' σ' H' → W (.ref (C c)) none σ' H'
  | .exn _ _ => False
  | .stuck => False
theorem tSt.aft {r : Res Out} {D : Ends} (h : tSt K C W r μ H D) (b : Aft K μ H μ1 H1) : tSt K C W r μ1 H1 D := by
  cases r with
  | ok o S' => cases o <;> exact fun μ' σ' H' a => h μ' σ' H' (b.trans a)
  | exn c S' => exact h
  | stuck => exact h
end
end Fc

/-! FcRules: each construct, told on the abstract machine. -/
namespace Fc
open PySem L2

theorem lim_line : lim ≤ sizeLine := by decide
/-! ### readings weakened -/
section
variable {X : Cx} {e : Expr}
theorem pe_imp {t t' : TE} (h : PE X e t) (k : ∀ σ H Q, t' σ H Q → t σ H Q) : PE X e t' := ⟨fun pins s σ H Q I q => h.run pins s σ H Q I (k _ _ _ q)⟩
theorem pt_imp {t t' : TT} (h : PT X e t) (k : ∀ σ H Q, t' σ H Q → t σ H Q) : PT X e t' := ⟨fun pins s σ H Q I q => h.run pins s σ H Q I (k _ _ _ q)⟩
theorem pw_imp {t t' : TT} (h : PW X e t) (k : ∀ σ H Q, t' σ H Q → t σ H Q) : PW X e t' := ⟨fun wh pins s σ H Q I q => h.run wh pins s σ H Q I (k _ _ _ q)⟩
theorem pa_imp {es : List Expr} {t t' : TA} (h : PA X es t) (k : ∀ σ H Q, t' σ H Q → t σ H Q) : PA X es t' := ⟨fun pos pins s σ H Q I q => h.run pos pins s σ H Q I (k _ _ _ q)⟩
theorem ps_imp {st : Stmt} {t t' : TS} (h : PS X st t) (k : ∀ D σ H, t' D σ H → t D σ H) : PS X st t' := ⟨fun pins s σ H D I q => h.run pins s σ H D I (k _ _ _ q)⟩
theorem pss_imp {st : List Stmt} {t t' : TS} (h : PSs X st t) (k : ∀ D σ H, t' D σ H → t D σ H) : PSs X st t' := ⟨fun pins s σ H D I q => h.run pins s σ H D I (k _ _ _ q)⟩
end
def tS (K : PySem.W.Frag) (C : Nat → Addr) (W : WX) (f : DS) : TS := fun D σ H => ∃ μ ρ S, Rl K C μ ρ S σ H ∧ tSt K C W (f ρ S) μ H D
structure SE (X : Cx) (C : Nat → Addr) (W : WX) (e : Expr) (f : DE) : Prop where
  pe : PE X e (tG X.K C W (PV X.K) f)
structure ST (X : Cx) (C : Nat → Addr) (W : WX) (e : Expr) (f : DT) : Prop where
  pt : PT X e (tG X.K C W PB f)
structure SW (X : Cx) (C : Nat → Addr) (W : WX) (e : Expr) (f : DT) : Prop where
  pw : PW X e (tG X.K C W PB f)
structure SL (X : Cx) (C : Nat → Addr) (W : WX) (es : List Expr) (f : DL) : Prop where
  pa : PA X es (tG X.K C W (PL X.K) f)
structure SS (X : Cx) (C : Nat → Addr) (W : WX) (st : Stmt) (f : DS) : Prop where
  ps : PS X st (tS X.K C W f)
structure SSs (X : Cx) (C : Nat → Addr) (W : WX) (st : List Stmt) (f : DS) : Prop where
  ps : PSs X st (tS X.K C W f)
/-- what holds of a body's context -/
structure Ctx (X : Cx) (W : WX) (k : Nat) : Prop where
  calm : X.calm = true
  room : Room k X.A
  gd : X.A.guards = some []
  tk : Takes X W
  pass : PassesOwn (model X.prog X.w) X.A X.env X.xe
  nd : X.N.Nodup
abbrev W0 : WX := fun _ _ _ _ => False

section
variable {X : Cx} {C : Nat → Addr} {W : WX} {k : Nat} {e a b c : Expr} {es rest : List Expr} {f g h fa fb fc : DE} {t u : DT} {l : DL} {pos p2 p3 : Pos}

/-! ### names, constants -/
def eVar (i : Nat) : DE := fun ρ S => match ρ[i]? with
  | some (some d) => .ok d S
  | _ => .stuck
theorem se_name (i : Nat) {x : Str} (hN : X.N[i]? = some x := by rfl) (hv : Vis X.env.scope x := by first | exact Or.inl rfl | exact Or.inr (Or.inl rfl) | exact Or.inr (Or.inr rfl)) (hd : (x == ("__debug__" : Str)) = false := by decide)
    (hcd : (x == ("__classdict__" : Str)) = false := by decide) : SE X C W (.Name x pos) (eVar i) := by
  refine ⟨pe_imp (pe_var hN hv hd hcd) fun σ H Q q => ?_⟩
  obtain ⟨μ, ρ, S, rl, q⟩ := q
  unfold eVar at q
  split at q
  · rename_i d e
    obtain ⟨v, h1, h2⟩ := rl.sl i d e
    exact ⟨v, h1, q μ H v Aft.refl rl.sr h2⟩
  · exact q.elim
def eC (d : Dv) : DE := fun _ S => .ok d S
theorem se_c {v : V} {d : Dv} (h : PE X e (tC v)) (r : ∀ H μ, VR X.K H μ d v) : SE X C W e (eC d) := by
  refine ⟨pe_imp h fun σ H Q q => ?_⟩
  obtain ⟨μ, ρ, S, rl, q⟩ := q
  exact q μ H v Aft.refl rl.sr (r H μ)
theorem se_int {i : Int} {j} : SE X C W (.Constant (.int i) j pos) (eC (.int i)) := se_c pe_int fun _ _ => VR_int.mpr rfl
theorem se_bl {i : Bool} {j} : SE X C W (.Constant (.bool i) j pos) (eC (.bl i)) := se_c pe_bl fun _ _ => VR_bl.mpr rfl
theorem se_non {j} : SE X C W (.Constant .none j pos) (eC .non) := se_c pe_non fun _ _ => VR_non.mpr rfl
theorem se_str {x : Str} {j} : SE X C W (.Constant (.str x) j pos) (eC (.str x)) := se_c pe_str fun _ _ => VR_str.mpr rfl
/-- a module's constant -/
structure GC (K : PySem.W.Frag) (mg : Str → Option Value) (x : Str) (d : Dv) : Prop where
  is : ∃ u v, mg x = some u ∧ RelV v u ∧ ∀ H μ, VR K H μ d v
theorem se_glob {x : Str} {d : Dv} (hc : GC X.K X.mg x d) (hg : Gl X x := by rfl) (hd : (x == ("__debug__" : Str)) = false := by decide) : SE X C W (.Name x pos) (eC d) := by
  obtain ⟨u, v, h1, h2, h3⟩ := hc.is
  exact se_c (pe_glob hg h1 h2 hd) h3

/-! ### displays -/
def lNil : DL := fun _ S => .ok [] S
def lCons (f : DE) (l : DL) : DL := fun ρ S => (f ρ S).bd fun d S1 => (l ρ S1).bd fun ds S2 => .ok (d :: ds) S2
theorem sl_nil : SL X C W [] lNil := by
  refine ⟨pa_imp pa_nil fun σ H Q q => ?_⟩
  obtain ⟨μ, ρ, S, rl, q⟩ := q
  exact q μ H [] Aft.refl rl.sr (VRs_nil.mpr rfl)
theorem sl_cons (h1 : SE X C W e f) (h2 : SL X C W es l) (hs : starEach (e :: es) X.env = (false, eval e X.env) :: starEach es X.env := by rfl) : SL X C W (e :: es) (lCons f l) := by
  refine ⟨pa_imp (pa_cons h1.pe h2.pa hs) fun σ H Q q => ?_⟩
  obtain ⟨μ, ρ, S, rl, q⟩ := q
  refine ⟨μ, ρ, S, rl, (tR.bd q).imp fun v H1 q1 => ?_⟩
  obtain ⟨μ1, S1, d, a1, s1, vr, q1⟩ := q1
  refine ⟨μ1, ρ, S1, rl.next a1 s1, (tR.bd q1).imp fun vs H2 q2 => ?_⟩
  obtain ⟨μ2, S2, ds, a2, s2, vrs, q2⟩ := q2
  exact q2 μ2 H2 (v :: vs) Aft.refl s2 (VRs_cons.mpr ⟨v, vs, rfl, vr.mono a2, vrs⟩)
def eTup (l : DL) : DE := fun ρ S => (l ρ S).bd fun ds S1 => if ds.length ≤ lim then .ok (.tup ds) S1 else .stuck
theorem se_tup {x1} (h1 : SL X C W es l) : SE X C W (.Tuple es x1 pos) (eTup l) := by
  refine ⟨pe_imp (pe_tup h1.pa) fun σ H Q q => ?_⟩
  obtain ⟨μ, ρ, S, rl, q⟩ := q
  refine ⟨μ, ρ, S, rl, (tR.bd q).imp fun vs H1 q1 => ?_⟩
  obtain ⟨μ1, S1, ds, a1, s1, vr, q1⟩ := q1
  by_cases hl : ds.length ≤ lim
  · rw [if_pos hl] at q1
    refine ⟨by rw [← vr.length]; exact Nat.le_trans hl lim_line, fun p hp => ?_⟩
    have af : Aft X.K μ1 H1 μ1 (L2.upd H1 p (.tup vs)) := Aft.upd (by rw [hp]; trivial)
    exact q1 μ1 _ _ af (s1.lay hp) (VR_tup.mpr ⟨p, vs, rfl, SqT.of upd_same, vr.mono af⟩)
  · rw [if_neg hl] at q1
    exact q1.elim
def eLst (l : DL) : DE := fun ρ S => (l ρ S).bd fun ds S1 => if ds.length ≤ lim then .ok (.ref S1.length) (S1 ++ [.lst ds]) else .stuck
/-- a list is laid as the store's next object -/
theorem new_lst {μ1 : List Addr} {S1 : Sto} {H1 : Hp} {ds : List Dv} {vs : List V} {σ : L2.St} {Q : VK} (s1 : SR X.K C μ1 S1 H1) (vr : VRs X.K H1 μ1 ds vs)
    (q1 : tR X.K C W (PV X.K) (.ok (.ref S1.length) (S1 ++ [.lst ds])) μ1 σ H1 Q) (p : Addr) (hp : H1 p = none) : Q (.ref p) (L2.upd H1 p (.lst vs)) := by
  have af : Aft X.K μ1 H1 (μ1 ++ [p]) (L2.upd H1 p (.lst vs)) := s1.alloc_aft hp
  refine q1 (μ1 ++ [p]) _ _ af (s1.alloc hp ⟨vs, rfl, vr.mono af⟩) (VR_ref.mpr ⟨p, ?_, rfl⟩)
  rw [List.getElem?_append_right (by rw [s1.len]; exact Nat.le_refl _), s1.len]
  simp
theorem se_lst (h1 : SL X C W es l) : SE X C W (.List es pos) (eLst l) := by
  refine ⟨pe_imp (pe_lst h1.pa) fun σ H Q q => ?_⟩
  obtain ⟨μ, ρ, S, rl, q⟩ := q
  refine ⟨μ, ρ, S, rl, (tR.bd q).imp fun vs H1 q1 => ?_⟩
  obtain ⟨μ1, S1, ds, a1, s1, vr, q1⟩ := q1
  by_cases hl : ds.length ≤ lim
  · rw [if_pos hl] at q1
    exact ⟨by rw [← vr.length]; exact Nat.le_trans hl lim_line, new_lst s1 vr q1⟩
  · rw [if_neg hl] at q1
    exact q1.elim

/-! ### operators -/
def ofO : Option (Dv × Sto) → Res Dv
  | some (d, S) => .ok d S
  | none => .stuck
abbrev Op2 := Dv → Dv → Sto → Option (Dv × Sto)
def rOp (K : PySem.W.Frag) (C : Nat → Addr) (g : Op2) : R2 := fun x y H Q => ∃ μ S dx dy, SR K C μ S H ∧ VR K H μ dx x ∧ VR K H μ dy y ∧ tR K C W0 (PV K) (ofO (g dx dy S)) μ [] H Q
abbrev OpS (X : Cx) (C : Nat → Addr) (F : Value → Value → Sem Value) (g : Op2) : Prop := OpR X F (rOp X.K C g)
theorem tR.ofO {K : PySem.W.Frag} {W' : WX} {o : Option (Dv × Sto)} {μ : List Addr} {σ σ' : L2.St} {H : Hp} {Q : VK} (h1 : tR K C W (PV K) (ofO o) μ σ H Q) : tR K C W' (PV K) (Fc.ofO o) μ σ' H Q := by
  cases o with
  | none => exact h1
  | some p => exact h1
def eOp (g : Op2) (fa fb : DE) : DE := fun ρ S => (fa ρ S).bd fun x S1 => (fb ρ S1).bd fun y S2 => ofO (g x y S2)
theorem op_go {gg : Op2} {σ : L2.St} {H : Hp} {Q : VK} (q : tG X.K C W (PV X.K) (eOp gg fa fb) σ H Q) : tOp (rOp X.K C gg) (tG X.K C W (PV X.K) fa) (tG X.K C W (PV X.K) fb) σ H Q := by
  obtain ⟨μ, ρ, S, rl, q⟩ := q
  refine ⟨μ, ρ, S, rl, (tR.bd q).imp fun v H1 q1 => ?_⟩
  obtain ⟨μ1, S1, d, a1, s1, vr, q1⟩ := q1
  refine ⟨μ1, ρ, S1, rl.next a1 s1, (tR.bd q1).imp fun v2 H2 q2 => ?_⟩
  obtain ⟨μ2, S2, d2, a2, s2, vr2, q2⟩ := q2
  exact ⟨μ2, S2, d, d2, s2, vr.mono a2, vr2, tR.ofO q2⟩
theorem se_op {op : Operator} {gg : Op2} (ho : OpS X C (binaryOp op) gg) (ha : SE X C W a fa) (hb : SE X C W b fb) : SE X C W (.BinOp a op b pos) (eOp gg fa fb) :=
  ⟨pe_imp (pe_op ho ha.pe hb.pe) fun _ _ _ q => op_go q⟩
theorem se_cmp {op : CmpOp} {gg : Op2} (ho : OpS X C (compareOp op) gg) (ha : SE X C W a fa) (hb : SE X C W b fb) (hm : behindInMarks op b = false := by first | exact nomark _ | rfl) : SE X C W (.Compare a [op] [b] pos) (eOp gg fa fb) :=
  ⟨pe_imp (pe_cmpR ho ha.pe hb.pe hm) fun _ _ _ q => op_go q⟩
/-- a value that is a bool, as a test -/
def tTs (f : DE) : DT := fun ρ S => (f ρ S).bd fun d S1 => match d with
  | .bl b => .ok b S1
  | _ => .stuck
theorem ts_go {σ : L2.St} {H : Hp} {Q : Bool → Hp → Prop} (q : tG X.K C W PB (tTs f) σ H Q) : tG X.K C W (PV X.K) f σ H fun x H' => ∃ k, x = .bl k ∧ Q k H' := by
  obtain ⟨μ, ρ, S, rl, q⟩ := q
  refine ⟨μ, ρ, S, rl, (tR.bd q).imp fun v H1 q1 => ?_⟩
  obtain ⟨μ1, S1, d, a1, s1, vr, q1⟩ := q1
  cases d with
  | bl b => exact ⟨b, VR_bl.mp vr, q1 μ1 H1 b Aft.refl s1 rfl⟩
  | _ => exact q1.elim
theorem st_cmp {op : CmpOp} {gg : Op2} (ho : OpS X C (compareOp op) gg) (ha : SE X C W a fa) (hb : SE X C W b fb) (hm : behindInMarks op b = false := by first | exact nomark _ | rfl) : ST X C W (.Compare a [op] [b] pos) (tTs (eOp gg fa fb)) :=
  ⟨pt_imp (pt_cmpR ho ha.pe hb.pe hm) fun _ _ _ q => op_go (ts_go q)⟩
theorem st_val (h1 : SE X C W e f) (he : ∀ whole, isTrue e X.env whole = (do let v ← whole; standAt e.pos; holding [v] (truthy v)) := by intro _; rfl) : ST X C W e (tTs f) :=
  ⟨pt_imp (pt_val h1.pe he) fun _ _ _ q => ts_go q⟩
/-- a < b < c -/
def eChain (g1 g2 : Op2) (fa fb fc : DE) : DE := fun ρ S => (fa ρ S).bd fun x S1 => (fb ρ S1).bd fun y S2 => (ofO (g1 x y S2)).bd fun z S3 => match z with
  | .bl true => (fc ρ S3).bd fun w S4 => ofO (g2 y w S4)
  | .bl false => .ok (.bl false) S3
  | _ => .stuck
theorem chain_go {g1 g2 : Op2} {σ : L2.St} {H : Hp} {Q : VK} (q : tG X.K C W (PV X.K) (eChain g1 g2 fa fb fc) σ H Q) :
    tChain (rOp X.K C g1) (rOp X.K C g2) (tG X.K C W (PV X.K) fa) (tG X.K C W (PV X.K) fb) (tG X.K C W (PV X.K) fc) σ H Q := by
  obtain ⟨μ, ρ, S, rl, q⟩ := q
  refine ⟨μ, ρ, S, rl, (tR.bd q).imp fun v H1 q1 => ?_⟩
  obtain ⟨μ1, S1, d, a1, s1, vr, q1⟩ := q1
  refine ⟨μ1, ρ, S1, rl.next a1 s1, (tR.bd q1).imp fun v2 H2 q2 => ?_⟩
  obtain ⟨μ2, S2, d2, a2, s2, vr2, q2⟩ := q2
  refine ⟨μ2, S2, d, d2, s2, vr.mono a2, vr2, tR.ofO ((tR.bd q2).imp fun v3 H3 q3 => ?_)⟩
  obtain ⟨μ3, S3, d3, a3, s3, vr3, q3⟩ := q3
  cases d3 with
  | bl bb =>
    cases bb with
    | true =>
      refine ⟨true, VR_bl.mp vr3, ?_⟩
      rw [if_pos rfl]
      refine ⟨μ3, ρ, S3, ((rl.next a1 s1).next a2 s2).next a3 s3, (tR.bd q3).imp fun v4 H4 q4 => ?_⟩
      obtain ⟨μ4, S4, d4, a4, s4, vr4, q4⟩ := q4
      exact ⟨μ4, S4, d2, d4, s4, vr2.mono (a3.trans a4), vr4, tR.ofO q4⟩
    | false =>
      refine ⟨false, VR_bl.mp vr3, ?_⟩
      rw [if_neg Bool.false_ne_true]
      exact q3 μ3 H3 (.bl false) Aft.refl s3 (VR_bl.mpr rfl)
  | _ => exact q3.elim
theorem se_chain {op op' : CmpOp} {g1 g2 : Op2} (ho : OpS X C (compareOp op) g1) (ho' : OpS X C (compareOp op') g2) (ha : SE X C W a fa) (hb : SE X C W b fb) (hc : SE X C W c fc) (hm : lastMarks [op, op'] [b, c] = false := by rfl) : SE X C W (.Compare a [op, op'] [b, c] pos) (eChain g1 g2 fa fb fc) :=
  ⟨pe_imp (pe_chain ho ho' ha.pe hb.pe hc.pe hm) fun _ _ _ q => chain_go q⟩
theorem st_chain {op op' : CmpOp} {g1 g2 : Op2} (ho : OpS X C (compareOp op) g1) (ho' : OpS X C (compareOp op') g2) (ha : SE X C W a fa) (hb : SE X C W b fb) (hc : SE X C W c fc) (hm : lastMarks [op, op'] [b, c] = false := by rfl) : ST X C W (.Compare a [op, op'] [b, c] pos) (tTs (eChain g1 g2 fa fb fc)) :=
  ⟨pt_imp (pt_chain ho ho' ha.pe hb.pe hc.pe hm) fun _ _ _ q => chain_go (ts_go q)⟩
def eUn (g : Dv → Option Dv) (f : DE) : DE := fun ρ S => (f ρ S).bd fun x S1 => match g x with
  | some d => .ok d S1
  | none => .stuck
theorem se_neg (h1 : SE X C W e f) : SE X C W (.UnaryOp .USub e pos) (eUn (fun d => match d with | .int i => some (.int (-i)) | _ => none) f) := by
  refine ⟨pe_imp (pe_un un_neg h1.pe) fun σ H Q q => ?_⟩
  obtain ⟨μ, ρ, S, rl, q⟩ := q
  refine ⟨μ, ρ, S, rl, (tR.bd q).imp fun v H1 q1 => ?_⟩
  obtain ⟨μ1, S1, d, a1, s1, vr, q1⟩ := q1
  cases d with
  | int i => exact ⟨i, VR_int.mp vr, q1 μ1 H1 _ Aft.refl s1 (VR_int.mpr rfl)⟩
  | _ => exact q1.elim

/-! ### and, or, not, if -/
def tAnd2 (t u : DT) : DT := fun ρ S => (t ρ S).bd fun c S1 => if c = true then u ρ S1 else .ok false S1
def tOr2 (t u : DT) : DT := fun ρ S => (t ρ S).bd fun c S1 => if c = true then .ok true S1 else u ρ S1
def tNot2 (t : DT) : DT := fun ρ S => (t ρ S).bd fun c S1 => .ok (!c) S1
theorem st_of (h1 : SW X C W e t) : ST X C W e t := ⟨h1.pw.pt⟩
theorem sw_and1 (h1 : ST X C W a t) : SW X C W (.BoolOp .And [a] pos) t := ⟨pw_and1 h1.pt⟩
theorem sw_or1 (h1 : ST X C W a t) : SW X C W (.BoolOp .Or [a] pos) t := ⟨pw_or1 h1.pt⟩
theorem sw_and (h1 : ST X C W a t) (h2 : SW X C W (.BoolOp .And (b :: rest) pos) u) : SW X C W (.BoolOp .And (a :: b :: rest) pos) (tAnd2 t u) := by
  refine ⟨pw_imp (pw_and h1.pt h2.pw) fun σ H Q q => ?_⟩
  obtain ⟨μ, ρ, S, rl, q⟩ := q
  refine ⟨μ, ρ, S, rl, (tR.bd q).imp fun cc H1 q1 => ?_⟩
  obtain ⟨μ1, S1, d, a1, s1, vr, q1⟩ := q1
  cases (show d = cc from vr)
  cases cc with
  | true => rw [if_pos rfl] at q1 ⊢; exact ⟨μ1, ρ, S1, rl.next a1 s1, q1⟩
  | false => rw [if_neg Bool.false_ne_true] at q1 ⊢; exact q1 μ1 H1 false Aft.refl s1 rfl
theorem sw_or (h1 : ST X C W a t) (h2 : SW X C W (.BoolOp .Or (b :: rest) pos) u) : SW X C W (.BoolOp .Or (a :: b :: rest) pos) (tOr2 t u) := by
  refine ⟨pw_imp (pw_or h1.pt h2.pw) fun σ H Q q => ?_⟩
  obtain ⟨μ, ρ, S, rl, q⟩ := q
  refine ⟨μ, ρ, S, rl, (tR.bd q).imp fun cc H1 q1 => ?_⟩
  obtain ⟨μ1, S1, d, a1, s1, vr, q1⟩ := q1
  cases (show d = cc from vr)
  cases cc with
  | true => rw [if_pos rfl] at q1 ⊢; exact q1 μ1 H1 true Aft.refl s1 rfl
  | false => rw [if_neg Bool.false_ne_true] at q1 ⊢; exact ⟨μ1, ρ, S1, rl.next a1 s1, q1⟩
theorem st_not (h1 : ST X C W a t) : ST X C W (.UnaryOp .Not a pos) (tNot2 t) := by
  refine ⟨pt_imp (pt_not h1.pt) fun σ H Q q => ?_⟩
  obtain ⟨μ, ρ, S, rl, q⟩ := q
  refine ⟨μ, ρ, S, rl, (tR.bd q).imp fun cc H1 q1 => ?_⟩
  obtain ⟨μ1, S1, d, a1, s1, vr, q1⟩ := q1
  cases (show d = cc from vr)
  exact q1 μ1 H1 _ Aft.refl s1 rfl
/-- as values, of bools -/
def eAnd (f g : DE) : DE := fun ρ S => (f ρ S).bd fun d S1 => match d with
  | .bl true => g ρ S1
  | .bl false => .ok (.bl false) S1
  | _ => .stuck
def eOr (f g : DE) : DE := fun ρ S => (f ρ S).bd fun d S1 => match d with
  | .bl false => g ρ S1
  | .bl true => .ok (.bl true) S1
  | _ => .stuck
def eNot (f : DE) : DE := fun ρ S => (f ρ S).bd fun d S1 => match d with
  | .bl b => .ok (.bl (!b)) S1
  | _ => .stuck
theorem se_one {op : BoolOp} (h1 : SE X C W a f) : SE X C W (.BoolOp op [a] pos) f := ⟨pe_one h1.pe⟩
theorem se_and (h1 : SE X C W a f) (h2 : SE X C W (.BoolOp .And (b :: rest) pos) g) : SE X C W (.BoolOp .And (a :: b :: rest) pos) (eAnd f g) := by
  refine ⟨pe_imp (pe_and h1.pe h2.pe) fun σ H Q q => ?_⟩
  obtain ⟨μ, ρ, S, rl, q⟩ := q
  refine ⟨μ, ρ, S, rl, (tR.bd q).imp fun v H1 q1 => ?_⟩
  obtain ⟨μ1, S1, d, a1, s1, vr, q1⟩ := q1
  cases d with
  | bl bb =>
    refine ⟨bb, VR_bl.mp vr, ?_⟩
    cases bb with
    | true => rw [if_pos rfl]; exact ⟨μ1, ρ, S1, rl.next a1 s1, q1⟩
    | false => rw [if_neg Bool.false_ne_true]; exact q1 μ1 H1 _ Aft.refl s1 (VR_bl.mpr rfl)
  | _ => exact q1.elim
theorem se_or (h1 : SE X C W a f) (h2 : SE X C W (.BoolOp .Or (b :: rest) pos) g) : SE X C W (.BoolOp .Or (a :: b :: rest) pos) (eOr f g) := by
  refine ⟨pe_imp (pe_or h1.pe h2.pe) fun σ H Q q => ?_⟩
  obtain ⟨μ, ρ, S, rl, q⟩ := q
  refine ⟨μ, ρ, S, rl, (tR.bd q).imp fun v H1 q1 => ?_⟩
  obtain ⟨μ1, S1, d, a1, s1, vr, q1⟩ := q1
  cases d with
  | bl bb =>
    refine ⟨bb, VR_bl.mp vr, ?_⟩
    cases bb with
    | true => rw [if_pos rfl]; exact q1 μ1 H1 _ Aft.refl s1 (VR_bl.mpr rfl)
    | false => rw [if_neg Bool.false_ne_true]; exact ⟨μ1, ρ, S1, rl.next a1 s1, q1⟩
  | _ => exact q1.elim
theorem se_not (h1 : SE X C W a f) : SE X C W (.UnaryOp .Not a pos) (eNot f) := by
  refine ⟨pe_imp (pe_not h1.pe) fun σ H Q q => ?_⟩
  obtain ⟨μ, ρ, S, rl, q⟩ := q
  refine ⟨μ, ρ, S, rl, (tR.bd q).imp fun v H1 q1 => ?_⟩
  obtain ⟨μ1, S1, d, a1, s1, vr, q1⟩ := q1
  cases d with
  | bl bb => exact ⟨bb, VR_bl.mp vr, q1 μ1 H1 _ Aft.refl s1 (VR_bl.mpr rfl)⟩
  | _ => exact q1.elim
def eIf (t : DT) (f g : DE) : DE := fun ρ S => (t ρ S).bd fun c S1 => if c = true then f ρ S1 else g ρ S1
theorem se_if (hc : ST X C W c t) (h1 : SE X C W a f) (h2 : SE X C W b g) : SE X C W (.IfExp c a b pos) (eIf t f g) := by
  refine ⟨pe_imp (pe_ifExp hc.pt h1.pe h2.pe) fun σ H Q q => ?_⟩
  obtain ⟨μ, ρ, S, rl, q⟩ := q
  refine ⟨μ, ρ, S, rl, (tR.bd q).imp fun cc H1 q1 => ?_⟩
  obtain ⟨μ1, S1, d, a1, s1, vr, q1⟩ := q1
  cases (show d = cc from vr)
  cases cc with
  | true => rw [if_pos rfl] at q1 ⊢; exact ⟨μ1, ρ, S1, rl.next a1 s1, q1⟩
  | false => rw [if_neg Bool.false_ne_true] at q1 ⊢; exact ⟨μ1, ρ, S1, rl.next a1 s1, q1⟩
end
end Fc

/-! FcStmt: targets, statements, loops, comprehensions. -/
namespace Fc
open PySem L2

/-! ### locals -/
def wipeD (ρ : Ev) : List Nat → Ev
  | [] => ρ
  | v :: vs => (wipeD ρ vs).set v none
section
variable {K : PySem.W.Frag} {C : Nat → Addr} {H H' H1 : Hp} {μ μ' μ1 : List Addr} {S S' : Sto} {ρ : Ev} {σ : L2.St} {W : WX}
theorem Rl.set (r : Rl K C μ ρ S σ H) {d : Dv} {v : V} (q : VR K H μ d v) (i : Nat) : Rl K C μ (ρ.set i (some d)) S (σ.set i (some v)) H := by
  refine ⟨r.sr, by simpa using r.len, fun j e h => ?_⟩
  by_cases hj : i = j
  · subst hj
    have hl : i < ρ.length := by
      have := (List.getElem?_eq_some_iff.mp h).1
      simpa using this
    rw [List.getElem?_set_self hl] at h
    cases h
    exact ⟨v, List.getElem?_set_self (by rw [← r.len]; exact hl), q⟩
  · rw [List.getElem?_set_ne hj] at h ⊢
    exact r.sl j e h
theorem Rl.unset (r : Rl K C μ ρ S σ H) (i : Nat) : Rl K C μ (ρ.set i none) S (σ.set i none) H := by
  refine ⟨r.sr, by simpa using r.len, fun j e h => ?_⟩
  by_cases hj : i = j
  · subst hj
    have hl : i < ρ.length := by
      have := (List.getElem?_eq_some_iff.mp h).1
      simpa using this
    rw [List.getElem?_set_self hl] at h
    cases h
  · rw [List.getElem?_set_ne hj] at h ⊢
    exact r.sl j e h
theorem Rl.wipe (r : Rl K C μ ρ S σ H) : ∀ vs : List Nat, Rl K C μ (wipeD ρ vs) S (L2.wipe σ vs) H
  | [] => r
  | v :: vs => (Rl.wipe r vs).unset v
theorem wipe_get (σ : L2.St) (j : Nat) : ∀ vs : List Nat, (L2.wipe σ vs)[j]? = if j ∈ vs then (σ[j]?).map fun _ => none else σ[j]?
  | [] => by simp [L2.wipe]
  | v :: vs => by
    show ((L2.wipe σ vs).set v none)[j]? = _
    rw [List.getElem?_set, wipe_get σ j vs, wipe_length]
    by_cases h : v = j
    · subst h
      by_cases hl : v < σ.length
      · simp [hl]
      · simp [hl]
    · have h' : ¬ j = v := fun e => h e.symm
      simp [h, h']
theorem wipe_set {σ : L2.St} {i : Nat} {x : Option V} {vs : List Nat} (h : i ∈ vs) : L2.wipe (σ.set i x) vs = L2.wipe σ vs := by
  apply List.ext_getElem?
  intro j
  rw [wipe_get, wipe_get, List.getElem?_set]
  by_cases e : i = j
  · subst e
    rw [if_pos h, if_pos h, if_pos rfl]
    by_cases hl : i < σ.length
    · simp [hl]
    · simp [hl]
  · rw [if_neg e]
end

/-! ### targets -/
inductive Tg where
  | nm (i : Nat) | tp (ts : List Tg)
mutual
def Tg.asg : Tg → Dv → Ev → Option Ev
  | .nm i, d, ρ => some (ρ.set i (some d))
  | .tp ts, .tup ds, ρ => Tg.asgs ts ds ρ
  | .tp _, _, _ => none
def Tg.asgs : List Tg → List Dv → Ev → Option Ev
  | [], [], ρ => some ρ
  | t :: ts, d :: ds, ρ => (Tg.asg t d ρ).bind fun ρ' => Tg.asgs ts ds ρ'
  | _, _, _ => none
end
mutual
def Tg.slots : Tg → List Nat
  | .nm i => [i]
  | .tp ts => Tg.slotss ts
def Tg.slotss : List Tg → List Nat
  | [] => []
  | t :: ts => t.slots ++ Tg.slotss ts
end
def tTg (K : PySem.W.Frag) (C : Nat → Addr) (t : Tg) : TG := fun v σ H Q => ∃ μ ρ S d ρ', Rl K C μ ρ S σ H ∧ VR K H μ d v ∧ t.asg d ρ = some ρ' ∧
  ∀ σ', (∀ vs : List Nat, (∀ i ∈ t.slots, i ∈ vs) → L2.wipe σ' vs = L2.wipe σ vs) → Rl K C μ ρ' S σ' H → Q σ' H
def tTgs (K : PySem.W.Frag) (C : Nat → Addr) (ts : List Tg) : TGs := fun vs σ H Q => ∃ μ ρ S ds ρ', Rl K C μ ρ S σ H ∧ VRs K H μ ds vs ∧ Tg.asgs ts ds ρ = some ρ' ∧
  ∀ σ', (∀ vs : List Nat, (∀ i ∈ Tg.slotss ts, i ∈ vs) → L2.wipe σ' vs = L2.wipe σ vs) → Rl K C μ ρ' S σ' H → Q σ' H
structure SG (X : Cx) (C : Nat → Addr) (tg : Expr) (t : Tg) : Prop where
  pg : PG X tg (tTg X.K C t)
structure SGs (X : Cx) (C : Nat → Addr) (tgs : List Expr) (ts : List Tg) : Prop where
  pg : PGs X tgs (tTgs X.K C ts)
section
variable {X : Cx} {C : Nat → Addr} {W : WX} {k : Nat} {e e2 : Expr} {es : List Expr} {f g : DE} {t : DT} {l : DL} {pos pos' p2 : Pos} {st : Stmt} {rest body orelse : List Stmt} {cs cr cb : DS}
theorem pg_imp {tt tt' : TG} (h : PG X e tt) (k : ∀ v σ H Q, tt' v σ H Q → tt v σ H Q) : PG X e tt' := ⟨fun pins s σ H v u Q I r q => h.run pins s σ H v u Q I r (k _ _ _ _ q)⟩
theorem pgs_imp {tt tt' : TGs} (h : PGs X es tt) (k : ∀ v σ H Q, tt' v σ H Q → tt v σ H Q) : PGs X es tt' := ⟨fun pins s σ H v u Q I r q => h.run pins s σ H v u Q I r (k _ _ _ _ q)⟩
theorem sg_name (i : Nat) {x : Str} (hN : X.N.Nodup) (hi : X.N[i]? = some x := by rfl) (hx : Loc X.env.scope x := by first | exact Or.inl rfl | exact Or.inr rfl)
    (hf : X.fn x = true ∨ X.env.scope.names.lookup x = some .local := by first | exact .inl rfl | exact .inr rfl) : SG X C (.Name x pos) (.nm i) := by
  refine ⟨pg_imp (pg_name hN hi hx hf) fun v σ H Q q => ?_⟩
  obtain ⟨μ, ρ, S, d, ρ', rl, vr, e, q⟩ := q
  simp only [Tg.asg, Option.some.injEq] at e
  subst e
  exact q _ (fun vs h => wipe_set (h i (by simp [Tg.slots]))) (rl.set vr i)
theorem sgs_nil : SGs X C [] [] := by
  refine ⟨pgs_imp pgs_nil fun v σ H Q q => ?_⟩
  obtain ⟨μ, ρ, S, d, ρ', rl, vr, e, q⟩ := q
  cases d with
  | nil =>
    simp only [Tg.asgs, Option.some.injEq] at e
    subst e
    exact ⟨VRs_nil.mp vr, q _ (fun _ _ => rfl) rl⟩
  | cons a b => simp [Tg.asgs] at e
theorem sgs_cons {tg : Tg} {tgs : List Tg} (h1 : SG X C e tg) (h2 : SGs X C es tgs) (hs : (assignEach (e :: es) X.env).map (·.2) = assign e X.env :: (assignEach es X.env).map (·.2) := by rfl) : SGs X C (e :: es) (tg :: tgs) := by
  refine ⟨pgs_imp (pgs_cons h1.pg h2.pg hs) fun v σ H Q q => ?_⟩
  obtain ⟨μ, ρ, S, d, ρ', rl, vr, e, q⟩ := q
  cases d with
  | nil => simp [Tg.asgs] at e
  | cons a b =>
    simp only [Tg.asgs] at e
    obtain ⟨ρ1, e1, e2⟩ := Option.bind_eq_some_iff.mp e
    obtain ⟨v1, r, rfl, w1, w2⟩ := VRs_cons.mp vr
    refine ⟨v1, r, rfl, μ, ρ, S, a, ρ1, rl, w1, e1, fun σ1 hw rl1 => ⟨μ, ρ1, S, b, ρ', rl1, w2, e2, fun σ2 hw2 rl2 => ?_⟩⟩
    refine q σ2 (fun vs hv => ?_) rl2
    rw [hw2 vs fun i hi => hv i (by simp [Tg.slotss, hi]), hw vs fun i hi => hv i (by simp [Tg.slotss, hi])]
theorem sg_tup {tgs : List Tg} {kk : Nat} (hc : X.calm = true) (h : SGs X C es tgs) (hn : (assignEach es X.env).length = tgs.length := by rfl) (hst : (assignEach es X.env).findIdx? (·.1) = none := by rfl) :
    SG X C (.Tuple es kk pos) (.tp tgs) := by
  refine ⟨pg_imp (pg_tup hc h.pg hn hst) fun v σ H Q q => ?_⟩
  obtain ⟨μ, ρ, S, d, ρ', rl, vr, e, q⟩ := q
  cases d with
  | tup ds =>
    simp only [Tg.asg] at e
    obtain ⟨a, vs, rfl, h1, h2⟩ := VR_tup.mp vr
    have hlen : ∀ (ts : List Tg) (ds : List Dv) (ρ ρ' : Ev), Tg.asgs ts ds ρ = some ρ' → ds.length = ts.length := by
      intro ts
      induction ts with
      | nil => intro ds ρ ρ' e; cases ds <;> simp [Tg.asgs] at e ⊢
      | cons t ts ih =>
        intro ds ρ ρ' e
        cases ds with
        | nil => simp [Tg.asgs] at e
        | cons d ds =>
          simp only [Tg.asgs] at e
          obtain ⟨ρ1, _, e2⟩ := Option.bind_eq_some_iff.mp e
          simp [ih ds _ _ e2]
    refine ⟨a, vs, rfl, h1, by rw [← h2.length]; exact hlen _ _ _ _ e, μ, ρ, S, ds, ρ', rl, h2, e, fun σ' hw rl' => q σ' (fun vs hv => hw vs fun i hi => hv i (by simpa [Tg.slots] using hi)) rl'⟩
  | _ => simp [Tg.asg] at e

/-! ### statements -/
def toS {α : Type} (r : Res α) (ρ : Ev) (kk : α → Sto → Res Out) : Res Out :=
  match r with
  | .ok a S => kk a S
  | .exn c S => .ok (.ex c ρ) S
  | .stuck => .stuck
@[simp] theorem toS_ok {α : Type} (a : α) (S : Sto) (ρ : Ev) (kk : α → Sto → Res Out) : toS (.ok a S) ρ kk = kk a S := rfl
@[simp] theorem toS_exn {α : Type} (c : Nat) (S : Sto) (ρ : Ev) (kk : α → Sto → Res Out) : toS (.exn c S : Res α) ρ kk = .ok (.ex c ρ) S := rfl
@[simp] theorem toS_stuck {α : Type} (ρ : Ev) (kk : α → Sto → Res Out) : toS (.stuck : Res α) ρ kk = .stuck := rfl
theorem toS_go {α β : Type} {K : PySem.W.Frag} {P : List Addr → Hp → α → β → Prop} {r : Res α} {kk : α → Sto → Res Out} {μ : List Addr} {ρ : Ev} {S : Sto} {σ : L2.St} {H : Hp} {D : Ends} (q : tSt K C W (toS r ρ kk) μ H D) (rl : Rl K C μ ρ S σ H) :
    tR K C W P r μ σ H fun v H1 => ∃ μ1 S1 d, Aft K μ H μ1 H1 ∧ SR K C μ1 S1 H1 ∧ P μ1 H1 d v ∧ tSt K C W (kk d S1) μ1 H1 D := by
  cases r with
  | ok d S' => exact fun μ' H' v a s p => ⟨μ', S', d, a, s, p, tSt.aft (r := kk d S') q a⟩
  | exn c S' => exact fun μ' H' a s => q μ' σ H' a (rl.next a s)
  | stuck => exact q
def cNil : DS := fun ρ S => .ok (.nx ρ) S
def cSeq (f g : DS) : DS := fun ρ S => match f ρ S with
  | .ok (.nx ρ1) S1 => g ρ1 S1
  | r => r
theorem ss_nil : SSs X C W [] cNil := by
  refine ⟨pss_imp pss_nil fun D σ H q => ?_⟩
  obtain ⟨μ, ρ, S, rl, q⟩ := q
  exact q μ σ H Aft.refl rl
theorem ss_cons (h1 : SS X C W st cs) (h2 : SSs X C W rest cr) : SSs X C W (st :: rest) (cSeq cs cr) := by
  refine ⟨pss_imp (pss_cons h1.ps h2.ps) fun D σ H q => ?_⟩
  obtain ⟨μ, ρ, S, rl, q⟩ := q
  refine ⟨μ, ρ, S, rl, ?_⟩
  unfold cSeq at q
  cases hr : cs ρ S with
  | ok o S' =>
    rw [hr] at q
    cases o with
    | nx ρ1 => exact fun μ' σ' H' a rl' => ⟨μ', ρ1, S', rl', tSt.aft (r := cr ρ1 S') q a⟩
    | rt d => exact q
    | bk d => exact q
    | ct d => exact q
    | ex c d => exact q
  | exn c S' => rw [hr] at q; exact q
  | stuck => rw [hr] at q; exact q
def cPass : DS := fun ρ S => .ok (.nx ρ) S
def cBreak : DS := fun ρ S => .ok (.bk ρ) S
def cCont : DS := fun ρ S => .ok (.ct ρ) S
theorem ss_pass : SS X C W (.Pass pos) cPass := ⟨ps_imp ps_pass fun _ σ H ⟨μ, ρ, S, rl, q⟩ => q μ σ H Aft.refl rl⟩
theorem ss_break : SS X C W (.Break pos) cBreak := ⟨ps_imp ps_break fun _ σ H ⟨μ, ρ, S, rl, q⟩ => q μ σ H Aft.refl rl⟩
theorem ss_cont : SS X C W (.Continue pos) cCont := ⟨ps_imp ps_continue fun _ σ H ⟨μ, ρ, S, rl, q⟩ => q μ σ H Aft.refl rl⟩
/-- what the abstract machine never comes to -/
def cNever : DS := fun _ _ => .stuck
theorem ss_never : SSs X C W rest cNever := ⟨pss_imp pss_never fun _ _ _ ⟨_, _, _, _, q⟩ => q⟩
theorem s_never : SS X C W st cNever := ⟨ps_imp ps_never fun _ _ _ ⟨_, _, _, _, q⟩ => q⟩
def cExpr (f : DE) : DS := fun ρ S => toS (f ρ S) ρ fun _ S1 => .ok (.nx ρ) S1
theorem ss_expr (h1 : SE X C W e f) (hs : swapsWith e none pos.line X.env = pure false := by rfl) : SS X C W (.Expr e pos) (cExpr f) := by
  refine ⟨ps_imp (ps_expr h1.pe hs) fun D σ H q => ?_⟩
  obtain ⟨μ, ρ, S, rl, q⟩ := q
  refine ⟨μ, ρ, S, rl, (toS_go q rl).imp fun v H1 q1 => ?_⟩
  obtain ⟨μ1, S1, d, a1, s1, vr, q1⟩ := q1
  exact q1 μ1 σ H1 Aft.refl (rl.next a1 s1)
def cRet (f : DE) : DS := fun ρ S => toS (f ρ S) ρ fun d S1 => .ok (.rt d) S1
theorem ss_ret (h1 : SE X C W e f) : SS X C W (.Return (some e) pos) (cRet f) := by
  refine ⟨ps_imp (ps_ret h1.pe) fun D σ H q => ?_⟩
  obtain ⟨μ, ρ, S, rl, q⟩ := q
  refine ⟨μ, ρ, S, rl, (toS_go q rl).imp fun v H1 q1 => ?_⟩
  obtain ⟨μ1, S1, d, a1, s1, vr, q1⟩ := q1
  exact q1 μ1 H1 v Aft.refl s1 vr
def cRetN : DS := fun _ S => .ok (.rt .non) S
theorem ss_retN : SS X C W (.Return none pos) cRetN := ⟨ps_imp ps_retN fun _ σ H ⟨μ, ρ, S, rl, q⟩ => q μ H .non Aft.refl rl.sr (VR_non.mpr rfl)⟩
def cIf (t : DT) (f g : DS) : DS := fun ρ S => toS (t ρ S) ρ fun c S1 => if c = true then f ρ S1 else g ρ S1
theorem ss_if (hc : ST X C W e t) (h1 : SSs X C W body cb) (h2 : SSs X C W orelse cr) : SS X C W (.If e body orelse pos) (cIf t cb cr) := by
  refine ⟨ps_imp (ps_if hc.pt h1.ps h2.ps) fun D σ H q => ?_⟩
  obtain ⟨μ, ρ, S, rl, q⟩ := q
  refine ⟨μ, ρ, S, rl, (toS_go q rl).imp fun c H1 q1 => ?_⟩
  obtain ⟨μ1, S1, d, a1, s1, vr, q1⟩ := q1
  cases (show d = c from vr)
  cases c with
  | true => rw [if_pos rfl] at q1 ⊢; exact ⟨μ1, ρ, S1, rl.next a1 s1, q1⟩
  | false => rw [if_neg Bool.false_ne_true] at q1 ⊢; exact ⟨μ1, ρ, S1, rl.next a1 s1, q1⟩
def cSet (i : Nat) (f : DE) : DS := fun ρ S => toS (f ρ S) ρ fun d S1 => .ok (.nx (ρ.set i (some d))) S1
theorem ss_set (i : Nat) {x : Str} (hN : X.N.Nodup) (h1 : SE X C W e f) (hi : X.N[i]? = some x := by rfl) (hx : Loc X.env.scope x := by first | exact Or.inl rfl | exact Or.inr rfl) (hs : swapsWith e (some (.Name x pos')) pos.line X.env = pure false := by rfl)
    (hf : X.fn x = true ∨ X.env.scope.names.lookup x = some .local := by first | exact .inl rfl | exact .inr rfl) : SS X C W (.Assign [.Name x pos'] e pos) (cSet i f) := by
  refine ⟨ps_imp (ps_set hN hi hx h1.pe hs hf) fun D σ H q => ?_⟩
  obtain ⟨μ, ρ, S, rl, q⟩ := q
  refine ⟨μ, ρ, S, rl, (toS_go q rl).imp fun v H1 q1 => ?_⟩
  obtain ⟨μ1, S1, d, a1, s1, vr, q1⟩ := q1
  exact q1 μ1 _ H1 Aft.refl ((rl.next a1 s1).set vr i)
def cAsg (tg : Tg) (f : DE) : DS := fun ρ S => toS (f ρ S) ρ fun d S1 => match tg.asg d ρ with
  | some ρ' => .ok (.nx ρ') S1
  | none => .stuck
theorem ss_asg {tge : Expr} {tg : Tg} (h1 : SE X C W e f) (hg : SG X C tge tg) (hs : swapsWithSole [tge] e pos.line X.env = pure false := by rfl) (hw : swappedStores [tge] e X.env = pure none := by rfl)
    (hh : (assignEach [tge] X.env).map (·.2) = [assign tge X.env] := by rfl) : SS X C W (.Assign [tge] e pos) (cAsg tg f) := by
  refine ⟨ps_imp (ps_asg h1.pe hg.pg hs hw hh) fun D σ H q => ?_⟩
  obtain ⟨μ, ρ, S, rl, q⟩ := q
  refine ⟨μ, ρ, S, rl, (toS_go q rl).imp fun v H1 q1 => ?_⟩
  obtain ⟨μ1, S1, d, a1, s1, vr, q1⟩ := q1
  cases e1 : tg.asg d ρ with
  | none => rw [e1] at q1; exact q1.elim
  | some ρ' =>
    rw [e1] at q1
    exact ⟨μ1, ρ, S1, d, ρ', rl.next a1 s1, vr, e1, fun σ' _ rl' => q1 μ1 σ' H1 Aft.refl rl'⟩
/-- a, b = x, y -/
def cPar (i j : Nat) (l : DL) : DS := fun ρ S => toS (l ρ S) ρ fun ds S1 => match ds with
  | [d, e] => .ok (.nx ((ρ.set i (some d)).set j (some e))) S1
  | _ => .stuck
theorem ss_par (i j : Nat) {x y : Str} {a b : Expr} {px py pt : Pos} {kt k2 pt2} (hc : X.calm = true) (hN : X.N.Nodup) (ha : SL X C W [a, b] l) (hi : X.N[i]? = some x := by rfl) (hj : X.N[j]? = some y := by rfl) (hij : i ≠ j := by decide)
    (hx : X.env.scope.names.lookup x = some .local := by rfl) (hy : X.env.scope.names.lookup y = some .local := by rfl)
    (hw : swappedStores [.Tuple [.Name x px, .Name y py] kt pt] (.Tuple [a, b] k2 pt2) X.env = pure (some [x, y]) := by rfl)
    (hs : swapsWithSole [.Tuple [.Name x px, .Name y py] kt pt] (.Tuple [a, b] k2 pt2) pos.line X.env = pure false := by rfl) :
    SS X C W (.Assign [.Tuple [.Name x px, .Name y py] kt pt] (.Tuple [a, b] k2 pt2) pos) (cPar i j l) := by
  refine ⟨ps_imp (ps_par hc hN hi hj hij hx hy ha.pa hw hs) fun D σ H q => ?_⟩
  obtain ⟨μ, ρ, S, rl, q⟩ := q
  refine ⟨μ, ρ, S, rl, (toS_go q rl).imp fun vs H1 q1 => ?_⟩
  obtain ⟨μ1, S1, ds, a1, s1, vr, q1⟩ := q1
  match ds, q1, vr with
  | [], q1, _ => exact q1.elim
  | [_], q1, _ => exact q1.elim
  | _ :: _ :: _ :: _, q1, _ => exact q1.elim
  | [d, e], q1, vr =>
    obtain ⟨v, r, rfl, h1, h2⟩ := VRs_cons.mp vr
    obtain ⟨v2, r2, rfl, h3, h4⟩ := VRs_cons.mp h2
    cases VRs_nil.mp h4
    exact ⟨v, v2, rfl, q1 μ1 _ H1 Aft.refl (((rl.next a1 s1).set h1 i).set h3 j)⟩
/-- an op= on a name -/
def IpS (X : Cx) (C : Nat → Addr) (op : Operator) (g : Op2) : Prop := PIp X op (rOp X.K C g)
def cAug (i : Nat) (gg : Op2) (f : DE) : DS := fun ρ S => match ρ[i]? with
  | some (some x) => toS (f ρ S) ρ fun y S1 => match gg x y S1 with
    | some (d, S2) => .ok (.nx (ρ.set i (some d))) S2
    | none => .stuck
  | _ => .stuck
theorem ss_aug (i : Nat) {x : Str} {op : Operator} {gg : Op2} (hN : X.N.Nodup) (ho : IpS X C op gg) (h1 : SE X C W e f) (hi : X.N[i]? = some x := by rfl) (hx : Loc X.env.scope x := by first | exact Or.inl rfl | exact Or.inr rfl)
    (hf : X.fn x = true ∨ X.env.scope.names.lookup x = some .local := by first | exact .inl rfl | exact .inr rfl) : SS X C W (.AugAssign (.Name x pos') op e pos) (cAug i gg f) := by
  refine ⟨ps_imp (ps_aug hN hi hx h1.pe ho hf) fun D σ H q => ?_⟩
  obtain ⟨μ, ρ, S, rl, q⟩ := q
  unfold cAug at q
  split at q
  · rename_i dx ex
    obtain ⟨xv, hx1, hx2⟩ := rl.sl i dx ex
    refine ⟨xv, hx1, μ, ρ, S, rl, (toS_go q rl).imp fun v H1 q1 => ?_⟩
    obtain ⟨μ1, S1, d, a1, s1, vr, q1⟩ := q1
    refine ⟨μ1, S1, dx, d, s1, hx2.mono a1, vr, ?_⟩
    cases e1 : gg dx d S1 with
    | none => rw [e1] at q1; exact q1.elim
    | some p =>
      obtain ⟨d2, S2⟩ := p
      rw [e1] at q1
      exact fun μ2 H2 v2 a2 s2 vr2 => q1 μ2 _ H2 a2 (((rl.next a1 s1).next a2 s2).set vr2 i)
  · exact q.elim
/-- raise -/
def cRaise (n : Nat) : DS := fun ρ S => .ok (.ex n ρ) S
theorem ss_raise {n : Nat} {pos3 : Pos} {x m : Str} {jj : Nat} {bmB : List Value} {B newId initId : String} (c : Ctx X W k) (F : ExcBaseFacts B newId initId bmB) (q : PySem.W.excIn X.K (C n) bmB newId = true) (gC : X.mg x = some (.ref (C n)))
    (kC : PySem.W.keepIn X.K (.ref (C n)) = true) (r : Raises X (.ref (C n))) (hg : Gl X x := by rfl) (hdb : (x == ("__debug__" : Str)) = false := by decide) :
    SS X C W (.Raise (some (.Call (.Name x pos') [.Constant (.str m) jj p2] [] pos)) none pos3) (cRaise n) := by
  refine ⟨ps_imp (ps_raise c.calm c.tk (pmk_own F q gC kC r hg hdb)) fun D σ H q => ?_⟩
  obtain ⟨μ, ρ, S, rl, q⟩ := q
  exact q μ σ H Aft.refl rl

/-! ### while -/
def whileL (t : DT) (b : DS) : Nat → Ev → Sto → Res Out
  | 0, _, _ => .stuck
  | n + 1, ρ, S => toS (t ρ S) ρ fun c S1 => if c = true then (match b ρ S1 with
    | .ok (.nx ρ2) S2 => whileL t b n ρ2 S2
    | .ok (.ct ρ2) S2 => whileL t b n ρ2 S2
    | .ok (.bk ρ2) S2 => .ok (.nx ρ2) S2
    | r => r) else .ok (.nx ρ) S1
noncomputable def cWhile (t : DT) (b : DS) : DS := fun ρ S => whileL t b big ρ S
theorem ss_while (c : Ctx X W k) (hc : ST X C W e t) (hb : SSs X C W body cb) : SS X C W (.While e body [] pos) (cWhile t cb) := by
  refine ⟨ps_imp (ps_while c.pass hc.pt hb.ps) fun D σ H q => ?_⟩
  refine ⟨fun m σ H => ∃ μ ρ S, Rl X.K C μ ρ S σ H ∧ tSt X.K C W (whileL t cb m ρ S) μ H D, ⟨big, q⟩, ?_⟩
  rintro m σ H ⟨μ, ρ, S, rl, q⟩
  cases m with
  | zero => exact q.elim
  | succ m =>
    refine ⟨μ, ρ, S, rl, (toS_go q rl).imp fun cc H1 q1 => ?_⟩
    obtain ⟨μ1, S1, d, a1, s1, vr, q1⟩ := q1
    cases (show d = cc from vr)
    cases cc with
    | false =>
      rw [if_neg Bool.false_ne_true] at q1 ⊢
      exact q1 μ1 σ H1 Aft.refl (rl.next a1 s1)
    | true =>
      rw [if_pos rfl] at q1 ⊢
      refine ⟨fun σ' H' => ∃ μ ρ S, Rl X.K C μ ρ S σ' H' ∧ tSt X.K C W (whileL t cb m ρ S) μ H' D, fun σ' H' z => ⟨m, Nat.lt_succ_self _, z⟩, μ1, ρ, S1, rl.next a1 s1, ?_⟩
      cases hr : cb ρ S1 with
      | ok o S' =>
        rw [hr] at q1
        cases o with
        | nx ρ1 => exact fun μ' σ' H' a rl' => ⟨μ', ρ1, S', rl', tSt.aft (r := whileL t cb m ρ1 S') q1 a⟩
        | ct ρ1 => exact fun μ' σ' H' a rl' => ⟨μ', ρ1, S', rl', tSt.aft (r := whileL t cb m ρ1 S') q1 a⟩
        | rt d => exact q1
        | bk d => exact q1
        | ex c d => exact q1
      | exn c S' => rw [hr] at q1; exact q1
      | stuck => rw [hr] at q1; exact q1

/-! ### what is walked -/
/-- at turn i: none: not told; some none: the end; some (some d): the item -/
abbrev Itf := Sto → Nat → Option (Option Dv)
abbrev DI := Ev → Sto → Res Itf
def Jm (K : PySem.W.Frag) (C : Nat → Addr) (μ0 : List Addr) (H0 : Hp) (it : Itf) (J : It) : Prop := ∀ μ S H, Aft K μ0 H0 μ H → SR K C μ S H → ∀ i, match it S i with
  | some none => J.stop i H
  | some (some d) => J.go i H ∧ ∀ x H', J.yld i H x H' → Aft K μ H μ H' ∧ SR K C μ S H' ∧ VR K H' μ d x
  | none => True
structure SI (X : Cx) (C : Nat → Addr) (W : WX) (tg iter : Expr) (f : DI) : Prop where
  pi : PI X tg iter (tG X.K C W (Jm X.K C) f)
theorem pi_imp {tg iter : Expr} {w w' : TI} (h : PI X tg iter w) (k : ∀ σ H R, w' σ H R → w σ H R) : PI X tg iter w' := ⟨fun pins s σ H R I q => h.run pins s σ H R I (k _ _ _ q)⟩
def forL (it : Itf) (tg : Tg) (b : DS) : Nat → Nat → Ev → Sto → Res Out
  | 0, _, _, _ => .stuck
  | n + 1, i, ρ, S => match it S i with
    | none => .stuck
    | some none => .ok (.nx ρ) S
    | some (some d) => match tg.asg d ρ with
      | none => .stuck
      | some ρ1 => match b ρ1 S with
        | .ok (.nx ρ2) S2 => forL it tg b n (i + 1) ρ2 S2
        | .ok (.ct ρ2) S2 => forL it tg b n (i + 1) ρ2 S2
        | .ok (.bk ρ2) S2 => .ok (.nx ρ2) S2
        | r => r
noncomputable def cFor (fi : DI) (tg : Tg) (b : DS) : DS := fun ρ S => toS (fi ρ S) ρ fun it S1 => forL it tg b big 0 ρ S1
theorem ss_for {tge iter : Expr} {fi : DI} {tg : Tg} (c : Ctx X W k) (hi : SI X C W tge iter fi) (hg : SG X C tge tg) (hb : SSs X C W body cb) (hs : ∀ x, foldedSetIterable iter X.env x = pure x := by intro _; rfl) :
    SS X C W (.For tge iter body [] pos) (cFor fi tg cb) := by
  refine ⟨ps_imp (ps_for c.pass c.calm hi.pi hg.pg hb.ps hs) fun D σ H q => ?_⟩
  obtain ⟨μ, ρ, S, rl, q⟩ := q
  refine ⟨μ, ρ, S, rl, (toS_go q rl).imp fun J H1 q1 => ?_⟩
  obtain ⟨μ1, S1, it, a1, s1, jm, q1⟩ := q1
  refine ⟨fun i m σ H => ∃ μ ρ S, Aft X.K μ1 H1 μ H ∧ Rl X.K C μ ρ S σ H ∧ tSt X.K C W (forL it tg cb m i ρ S) μ H D, ⟨big, μ1, ρ, S1, Aft.refl, rl.next a1 s1, q1⟩, ?_⟩
  rintro i m σ2 H2 ⟨μ2, ρ2, S2, a2, rl2, q2⟩
  cases m with
  | zero => exact q2.elim
  | succ m =>
    have jj := jm μ2 S2 H2 a2 rl2.sr i
    unfold forL at q2
    cases e1 : it S2 i with
    | none => rw [e1] at q2; exact q2.elim
    | some o =>
      rw [e1] at q2 jj
      cases o with
      | none => exact .inl ⟨jj, q2 μ2 σ2 H2 Aft.refl rl2⟩
      | some d =>
        obtain ⟨j1, j2⟩ := jj
        cases e2 : tg.asg d ρ2 with
        | none => simp only [e2] at q2; exact q2.elim
        | some ρ3 =>
          simp only [e2] at q2
          refine .inr ⟨j1, fun σ' H' => ∃ μ ρ S, Aft X.K μ1 H1 μ H' ∧ Rl X.K C μ ρ S σ' H' ∧ tSt X.K C W (forL it tg cb m (i + 1) ρ S) μ H' D, fun σ' H' z => ⟨m, Nat.lt_succ_self _, z⟩, fun x H3 y => ?_⟩
          obtain ⟨a3, s3, vr3⟩ := j2 x H3 y
          refine ⟨μ2, ρ2, S2, d, ρ3, rl2.next a3 s3, vr3, e2, fun σ4 _ rl4 => ⟨μ2, ρ3, S2, rl4, ?_⟩⟩
          cases hr : cb ρ3 S2 with
          | ok o S' =>
            rw [hr] at q2
            cases o with
            | nx ρ1 => exact fun μ' σ' H' a rl' => ⟨μ', ρ1, S', (a2.trans a3).trans a, rl', tSt.aft (r := forL it tg cb m (i + 1) ρ1 S') q2 (a3.trans a)⟩
            | ct ρ1 => exact fun μ' σ' H' a rl' => ⟨μ', ρ1, S', (a2.trans a3).trans a, rl', tSt.aft (r := forL it tg cb m (i + 1) ρ1 S') q2 (a3.trans a)⟩
            | rt d => exact fun μ' H' v a => q2 μ' H' v (a3.trans a)
            | bk d => exact fun μ' σ' H' a => q2 μ' σ' H' (a3.trans a)
            | ex c d => exact fun μ' σ' H' a => q2 μ' σ' H' (a3.trans a)
          | exn c S' => rw [hr] at q2; exact q2
          | stuck => rw [hr] at q2; exact q2

/-! ### list comprehensions -/
def Res.bdN {α β : Type} (r : Res α) (f : α → Sto → Res β) : Res β :=
  match r with
  | .ok a S => f a S
  | .exn _ _ => .stuck
  | .stuck => .stuck
@[simp] theorem Res.bdN_ok {α β : Type} (a : α) (S : Sto) (f : α → Sto → Res β) : (Res.ok a S).bdN f = f a S := rfl
@[simp] theorem Res.bdN_exn {α β : Type} (c : Nat) (S : Sto) (f : α → Sto → Res β) : (Res.exn c S : Res α).bdN f = .stuck := rfl
@[simp] theorem Res.bdN_stuck {α β : Type} (f : α → Sto → Res β) : (Res.stuck : Res α).bdN f = .stuck := rfl
theorem tR.bdN {α β γ δ : Type} {K : PySem.W.Frag} {P : List Addr → Hp → α → β → Prop} {P2 : List Addr → Hp → γ → δ → Prop} {r : Res α} {kk : α → Sto → Res γ} {Q : δ → Hp → Prop} {μ : List Addr} {σ σ' : L2.St} {H : Hp} (h : tR K C W P2 (r.bdN kk) μ σ H Q) :
    tR K C W0 P r μ σ' H fun v H1 => ∃ μ1 S1 d, Aft K μ H μ1 H1 ∧ SR K C μ1 S1 H1 ∧ P μ1 H1 d v ∧ tR K C W P2 (kk d S1) μ1 σ H1 Q := by
  cases r with
  | ok d S' => exact fun μ' H' v a s q => ⟨μ', S', d, a, s, q, tR.aft (r := kk d S') h a⟩
  | exn c S' => exact h.elim
  | stuck => exact h.elim
structure STs (X : Cx) (C : Nat → Addr) (W : WX) (ifs : List Expr) (f : DT) : Prop where
  pts : PTs X ifs (tG X.K C W PB f)
theorem pts_imp {ifs : List Expr} {w w' : TT} (h : PTs X ifs w) (k : ∀ σ H R, w' σ H R → w σ H R) : PTs X ifs w' := ⟨fun pins s σ H R I q => h.run pins s σ H R I (k _ _ _ q)⟩
def tTrue : DT := fun _ S => .ok true S
theorem sts_nil : STs X C W [] tTrue := ⟨pts_imp pts_nil fun σ H Q ⟨μ, ρ, S, rl, q⟩ => q μ H true Aft.refl rl.sr rfl⟩
theorem sts_one (h1 : ST X C W e t) : STs X C W [e] t := ⟨pts_one h1.pt⟩
def lcL (it : Itf) (tg : Tg) (cond : DT) (elt : DE) (ρ : Ev) (n : Nat) : Nat → Nat → Sto → Res Dv
  | 0, _, _ => .stuck
  | m + 1, i, S => match it S i with
    | none => .stuck
    | some none => .ok (.ref n) S
    | some (some d) => match tg.asg d ρ with
      | none => .stuck
      | some ρ2 => (cond ρ2 S).bdN fun c S1 => if c = true then (elt ρ2 S1).bdN fun y S2 => (match S2[n]? with
          | some (.lst acc) => if acc.length < lim then lcL it tg cond elt ρ n m (i + 1) (S2.set n (.lst (acc ++ [y]))) else .stuck
          | _ => .stuck) else lcL it tg cond elt ρ n m (i + 1) S1
noncomputable def eLc (fi : DI) (tg : Tg) (cond : DT) (elt : DE) (vs : List Nat) : DE := fun ρ S => (fi ρ S).bd fun it S1 => lcL it tg cond elt (wipeD ρ vs) S1.length big 0 (S1 ++ [.lst []])
section
variable {elt tge iter : Expr} {ifs : List Expr} {scope : Scope} {own : List (Str × Nat)} {fi : DI} {tg : Tg} {cond : DT}
theorem lc_go {σ : L2.St} {H : Hp} {Q : VK} {vs : List Nat} (hsl : ∀ i ∈ tg.slots, i ∈ vs) (q : tG X.K C W (PV X.K) (eLc fi tg cond f vs) σ H Q) :
    tLc (tG X.K C W (Jm X.K C) fi) (tTg X.K C tg) (tG X.K C W0 PB cond) (tG X.K C W0 (PV X.K) f) vs σ H Q := by
  obtain ⟨μ, ρ, S, rl, q⟩ := q
  refine ⟨μ, ρ, S, rl, (tR.bd q).imp fun J H1 q1 => ?_⟩
  obtain ⟨μ1, S1, it, a1, s1, jm, q1⟩ := q1
  intro D hD
  have af : Aft X.K μ1 H1 (μ1 ++ [D]) (L2.upd H1 D (.lst [])) := s1.alloc_aft hD
  have sr2 : SR X.K C (μ1 ++ [D]) (S1 ++ [.lst []]) (L2.upd H1 D (.lst [])) := s1.alloc hD ⟨[], rfl, VRs_nil.mpr rfl⟩
  have atD : (μ1 ++ [D])[S1.length]? = some D := by
    rw [List.getElem?_append_right (by rw [s1.len]; exact Nat.le_refl _), s1.len]
    simp
  refine ⟨fun i m H => ∃ μ S, Aft X.K (μ1 ++ [D]) (L2.upd H1 D (.lst [])) μ H ∧ SR X.K C μ S H ∧ tR X.K C W (PV X.K) (lcL it tg cond f (wipeD ρ vs) S1.length m i S) μ σ H Q, ⟨big, _, _, Aft.refl, sr2, tR.aft q1 af⟩, ?_⟩
  rintro i m H2 ⟨μ2, S2, a2, s2, q2⟩
  cases m with
  | zero => exact q2.elim
  | succ m =>
    have jj := jm μ2 S2 H2 (af.trans a2) s2 i
    have dd : μ2[S1.length]? = some D := a2.at atD
    unfold lcL at q2
    cases e1 : it S2 i with
    | none => simp only [e1] at q2; exact q2.elim
    | some o =>
      simp only [e1] at q2 jj
      cases o with
      | none => exact .inl ⟨jj, q2 μ2 H2 _ Aft.refl s2 (VR_ref.mpr ⟨D, dd, rfl⟩)⟩
      | some d =>
        obtain ⟨j1, j2⟩ := jj
        cases e2 : tg.asg d (wipeD ρ vs) with
        | none => simp only [e2] at q2; exact q2.elim
        | some ρ3 =>
          simp only [e2] at q2
          refine .inr ⟨j1, fun H => ∃ μ S, Aft X.K (μ1 ++ [D]) (L2.upd H1 D (.lst [])) μ H ∧ SR X.K C μ S H ∧ tR X.K C W (PV X.K) (lcL it tg cond f (wipeD ρ vs) S1.length m (i + 1) S) μ σ H Q, fun H' z => ⟨m, Nat.lt_succ_self _, z⟩, fun x H3 y => ?_⟩
          obtain ⟨a3, s3, vr3⟩ := j2 x H3 y
          have rlw : Rl X.K C μ2 (wipeD ρ vs) S2 (L2.wipe σ vs) H3 := (rl.next ((a1.trans af).trans (a2.trans a3)) s3).wipe vs
          refine ⟨μ2, wipeD ρ vs, S2, d, ρ3, rlw, vr3, e2, fun σ4 hw rl4 => ⟨?_, μ2, ρ3, S2, rl4, (tR.bdN (tR.aft q2 a3)).imp fun cc H5 q5 => ?_⟩⟩
          · have h1 := hw vs hsl
            have h2 : L2.wipe (L2.wipe σ vs) vs = L2.wipe σ vs := by
              apply List.ext_getElem?
              intro j
              rw [wipe_get, wipe_get]
              by_cases hj : j ∈ vs
              · rw [if_pos hj, if_pos hj]
                cases σ[j]? <;> rfl
              · rw [if_neg hj, if_neg hj]
            rw [h1, h2]
          · obtain ⟨μ5, S5, c5, a5, s5, ec, q5⟩ := q5
            cases (show c5 = cc from ec)
            cases cc with
            | false =>
              rw [if_neg Bool.false_ne_true] at q5 ⊢
              exact ⟨μ5, S5, (a2.trans a3).trans a5, s5, q5⟩
            | true =>
              rw [if_pos rfl] at q5 ⊢
              refine ⟨μ5, ρ3, S5, rl4.next a5 s5, (tR.bdN q5).imp fun yv H6 q6 => ?_⟩
              obtain ⟨μ6, S6, y6, a6, s6, vr6, q6⟩ := q6
              split at q6
              · rename_i acc eacc
                by_cases hl : acc.length < lim
                · rw [if_pos hl] at q6
                  have d6 : μ6[S1.length]? = some D := a6.at (a5.at dd)
                  obtain ⟨ho, h61, h62⟩ := s6.ob _ _ D eacc d6
                  obtain ⟨av, rfl, h63⟩ := h62
                  have af6 : Aft X.K μ6 H6 μ6 (L2.upd H6 D (.lst (av ++ [yv]))) := s6.put_aft d6
                  refine ⟨av, h61, by rw [← h63.length]; exact Nat.lt_of_lt_of_le hl lim_line, μ6, _, (((a2.trans a3).trans a5).trans a6).trans af6, s6.put (o := .lst (acc ++ [y6])) d6 ⟨av ++ [yv], rfl, ?_⟩, tR.aft q6 af6⟩
                  exact (h63.mono af6).append (VRs_cons.mpr ⟨yv, [], rfl, VR.mono af6 vr6, VRs_nil.mpr rfl⟩)
                · rw [if_neg hl] at q6
                  exact q6.elim
              · exact q6.elim
theorem se_lc (c : Ctx X W k) (hi : SI X C W tge iter fi) (ok : BlkOk X.N X.env.scope scope own) (hsl : ∀ i ∈ tg.slots, i ∈ own.map (·.2)) (hg : ∀ (s : Shared) (H : Hp) (C' : Addr) (cl : List (Str × Addr)) (fp : List Addr), SG (X.blk s H scope (compEnvC scope cl C' X.env) fp) C tge tg)
    (ht : ∀ (s : Shared) (H : Hp) (C' : Addr) (cl : List (Str × Addr)) (fp : List Addr), STs (X.blk s H scope (compEnvC scope cl C' X.env) fp) C W0 ifs cond)
    (he : ∀ (s : Shared) (H : Hp) (C' : Addr) (cl : List (Str × Addr)) (fp : List Addr), SE (X.blk s H scope (compEnvC scope cl C' X.env) fp) C W0 elt f)
    (hs : ∀ x, foldedSetIterable iter X.env x = pure x := by intro _; rfl) : SE X C W (.ListComp elt [⟨tge, iter, ifs, 0⟩] scope pos) (eLc fi tg cond f (own.map (·.2))) :=
  ⟨pe_imp (pe_lc (g := tTg X.K C tg) (tt := tG X.K C W0 PB cond) (te := tG X.K C W0 (PV X.K) f) c.calm c.nd hi.pi ok (fun s H C' cl fp => (hg s H C' cl fp).pg) (fun s H C' cl fp => (ht s H C' cl fp).pts) (fun s H C' cl fp => (he s H C' cl fp).pe) hs) fun _ _ _ q => lc_go hsl q⟩
/-- name = [..] -/
theorem ss_setLc (i : Nat) {y : Str} {py spos : Pos} (c : Ctx X W k) (hi : SI X C W tge iter fi) (ok : BlkOk X.N X.env.scope scope own) (hsl : ∀ i ∈ tg.slots, i ∈ own.map (·.2)) (hg : ∀ (s : Shared) (H : Hp) (C' : Addr) (cl : List (Str × Addr)) (fp : List Addr), SG (X.blk s H scope (compEnvC scope cl C' X.env) fp) C tge tg)
    (ht : ∀ (s : Shared) (H : Hp) (C' : Addr) (cl : List (Str × Addr)) (fp : List Addr), STs (X.blk s H scope (compEnvC scope cl C' X.env) fp) C W0 ifs cond)
    (he : ∀ (s : Shared) (H : Hp) (C' : Addr) (cl : List (Str × Addr)) (fp : List Addr), SE (X.blk s H scope (compEnvC scope cl C' X.env) fp) C W0 elt f)
    (hsw : swapsWith (.ListComp elt [⟨tge, iter, ifs, 0⟩] scope pos) (some (.Name y py)) spos.line X.env = pure true) (hy : X.N[i]? = some y := by rfl) (hyl : X.env.scope.names.lookup y = some .local := by rfl)
    (hs : ∀ x, foldedSetIterable iter X.env x = pure x := by intro _; rfl) : SS X C W (.Assign [.Name y py] (.ListComp elt [⟨tge, iter, ifs, 0⟩] scope pos) spos) (cSet i (eLc fi tg cond f (own.map (·.2)))) := by
  refine ⟨ps_imp (ps_setLc (g := tTg X.K C tg) (tt := tG X.K C W0 PB cond) (te := tG X.K C W0 (PV X.K) f) c.calm c.nd hy hyl hsw hi.pi ok (fun s H C' cl fp => (hg s H C' cl fp).pg) (fun s H C' cl fp => (ht s H C' cl fp).pts) (fun s H C' cl fp => (he s H C' cl fp).pe) hs) fun D σ H q => ?_⟩
  obtain ⟨μ, ρ, S, rl, q⟩ := q
  refine lc_go (W := W) hsl ⟨μ, ρ, S, rl, (toS_go q rl).imp fun v H1 q1 => ?_⟩
  obtain ⟨μ1, S1, d, a1, s1, vr, q1⟩ := q1
  exact q1 μ1 _ H1 Aft.refl ((rl.next a1 s1).set vr i)
end
end
end Fc

/-! FcCall: defs, calls of defs, the law's own call. -/
namespace Fc
open PySem L2
abbrev Den := List Dv → Sto → Res Dv
abbrev WEx (E : XK) : WX := fun cls d _ H => E cls d H
/-- what a def keeps: its denotation -/
def spG (K : PySem.W.Frag) (C : Nat → Addr) (n : Nat) (den : Den) : Sp := fun vs H Q E => vs.length = n ∧ ∃ μ S ds, SR K C μ S H ∧ VRs K H μ ds vs ∧ tR K C (WEx E) (PV K) (den ds S) μ [] H Q
structure FnG (P : Program) (w : World) (K : PySem.W.Frag) (mg : Str → Option Value) (base : Heap) (C : Nat → Addr) (k : Nat) (f : Addr) (fd : FuncData) (ps : List Str) (den : Den) : Prop where
  run : ∀ (A : Around) (outer : List Env) (s : Shared) (H : Hp) (args : Args) (us : List Value) (vs : List V) (Q : VK) (E : XK), Room k A → A.guards = some [] → Env0 P w K mg base A outer s H → BindsTo s fd args (ps.zip us) → Vals vs us →
    spG K C ps.length den vs H Q E → codeAny (model P w) A (.call (.ref f) args) (CR (L2.CX P w) outer P w H s Q E) s
/-- a def of the module under a name -/
structure Df (P : Program) (w : World) (K : PySem.W.Frag) (mg : Str → Option Value) (base : Heap) (C : Nat → Addr) (x : Str) (n k : Nat) (den : Den) : Prop where
  ex : ∃ f fd ps, mg x = some (.ref f) ∧ PySem.W.keepIn K (.ref f) = true ∧ Binds K fd ps [] ∧ ps.length = n ∧ FnG P w K mg base C k f fd ps den
section
variable {P : Program} {w : World} {K : PySem.W.Frag} {mg : Str → Option Value} {base : Heap} {C : Nat → Addr} {x : Str} {n j k : Nat} {den den' : Den}
theorem FnG.mono {f : Addr} {fd : FuncData} {ps : List Str} (F : FnG P w K mg base C j f fd ps den) (h : j ≤ k) : FnG P w K mg base C k f fd ps den :=
  ⟨fun A outer s H args us vs Q E hr => F.run A outer s H args us vs Q E (hr.mono h)⟩
theorem Df.mono (F : Df P w K mg base C x n j den) (h : j ≤ k) : Df P w K mg base C x n k den := by
  obtain ⟨f, fd, ps, h1, h2, h3, h4, h5⟩ := F.ex
  exact ⟨f, fd, ps, h1, h2, h3, h4, h5.mono h⟩
end

section
variable {X : Cx} {C : Nat → Addr} {W : WX} {j k n : Nat} {e : Expr} {es : List Expr} {l : DL} {den : Den} {x : Str} {p pos : Pos}
def eCall (n : Nat) (den : Den) (l : DL) : DE := fun ρ S => (l ρ S).bd fun ds S1 => if ds.length = n then den ds S1 else .stuck
theorem run_fnG {pins : List (Addr × Obj)} {σ : L2.St} {H : Hp} {s : Shared} {Q : VK} {us : List Value} {vs : List V} {f : Addr} {fd : FuncData} {ps : List Str} (c : Ctx X W j) (F : FnG X.prog X.w X.K X.mg X.base C k f fd ps den) (hk : k ≤ j) (hb : Binds X.K fd ps [])
    (I : Inv X pins σ H s) (r : Vals vs us) {μ : List Addr} {S : Sto} {ds : List Dv} (sr : SR X.K C μ S H) (vr : VRs X.K H μ ds vs) (hl : ds.length = ps.length) (q : tR X.K C W (PV X.K) (den ds S) μ σ H Q) :
    wpAny (model X.prog X.w) X.A (call (.ref f) us) (EP X pins σ Q) X.xe s := by
  have hlu : us.length = ps.length := by rw [← r.length, ← vr.length]; exact hl
  have hbind := hb s us I.kIn (by rw [List.append_nil]; exact hlu)
  rw [List.append_nil] at hbind
  have q' : tR X.K C (WEx (WE W σ)) (PV X.K) (den ds S) μ [] H Q := by
    cases hd : den ds S with
    | ok d S' => rw [hd] at q; exact q
    | exn cc S' => rw [hd] at q; exact q
    | stuck => rw [hd] at q; exact q
  refine wpAny_call (codeAny_mono (F.run X.A X.stack s H ⟨us, []⟩ us vs Q (WE W σ) (c.room.mono hk) c.gd I.env0 hbind r ⟨by rw [← vr.length]; exact hl, μ, S, ds, sr, vr, q'⟩) fun res s' hq => ?_)
  match res, hq with
  | .error ex, hq => exact passAt c.tk σ pins H s ex s' I hq
  | .ok (.ret u), hq => exact I.after hq
  | .ok .next, hq => exact False.elim hq
  | .ok .brk, hq => exact False.elim hq
  | .ok .cont, hq => exact False.elim hq
theorem se_call (c : Ctx X W j) (G : Df X.prog X.w X.K X.mg X.base C x n k den) (ha : SL X C W (e :: es) l) (hk : k ≤ j := by decide) (hg : Gl X x := by rfl) (hdb : (x == ("__debug__" : Str)) = false := by decide)
    (he : starEach (e :: es) X.env = (false, eval e X.env) :: starEach es X.env := by rfl) (hpl : (backTo pos (starEach es X.env)).any (·.1) = false := by rfl) : SE X C W (.Call (.Name x p) (e :: es) [] pos) (eCall n den l) := by
  obtain ⟨f, fd, ps, hm, hkp, hb, hn, F⟩ := G.ex
  refine ⟨⟨fun pins s σ H Q I h => ?_⟩⟩
  obtain ⟨μ, ρ, S, rl, q⟩ := h
  refine wpAny_Call_Name_kw (ld_glob I hg hm ?_ hdb)
  refine PySem.W.callWith_K (h₀ := X.base) I.ok.mod.kin hkp (thn (ha.pa.run pos pins s σ H _ I ⟨μ, ρ, S, rl, tR.bd q⟩) fun us s1 hq => ?_) he hpl
  obtain ⟨vs, H1, I1, r, μ1, S1, ds, a1, s1', vr, q1⟩ := hq
  refine ⟨I1.kIn, ?_⟩
  by_cases hl : ds.length = n
  · rw [if_pos hl] at q1
    exact run_fnG c F hk hb I1 r s1' vr (hl.trans hn.symm) q1
  · rw [if_neg hl] at q1
    exact q1.elim
theorem se_call0 (c : Ctx X W j) (G : Df X.prog X.w X.K X.mg X.base C x 0 k den) (hk : k ≤ j := by decide) (hg : Gl X x := by rfl) (hdb : (x == ("__debug__" : Str)) = false := by decide) : SE X C W (.Call (.Name x p) [] [] pos) (fun _ S => den [] S) := by
  obtain ⟨f, fd, ps, hm, hkp, hb, hn, F⟩ := G.ex
  refine ⟨⟨fun pins s σ H Q I h => ?_⟩⟩
  obtain ⟨μ, ρ, S, rl, q⟩ := h
  refine wpAny_Call_Name_kw (ld_glob I hg hm ?_ hdb)
  exact PySem.W.callWith_K0 I.kIn hkp (run_fnG (us := []) c F hk hb I .nil rl.sr (VRs_nil.mpr rfl) hn.symm q)
end

/-! ### a def, by its body -/
def runB (n : Nat) (body : DS) : Den := fun args S => match body (args.map some ++ List.replicate (n - args.length) none) S with
  | .ok (.rt d) S' => .ok d S'
  | .ok (.nx _) S' => .ok .non S'
  | .ok (.ex c _) S' => .exn c S'
  | _ => .stuck
/-- the context of a body -/
abbrev BX (P : Program) (w : World) (K : PySem.W.Frag) (mg : Str → Option Value) (base : Heap) (N : List Str) (qual : Str) (st : Stmt) (f : Addr) (cdv : Value) (A : Around) (outer : List Env) (s : Shared) (H : Hp) (E : XK) : Cx :=
  cxOf (L2.CX P w) P w K mg base N qual (defScope st) f cdv A outer s H E
theorem guards_deeper (A : Around) (env : Env) : (A.deeper env).guards = A.guards := rfl
section
variable {P : Program} {w : World} {K : PySem.W.Frag} {mg : Str → Option Value} {base : Heap} {C : Nat → Addr} {k : Nat}
theorem start_rl {μ : List Addr} {S : Sto} {H : Hp} {ds : List Dv} {vs : List V} {N : List Str} (sr : SR K C μ S H) (vr : VRs K H μ ds vs) : Rl K C μ (ds.map some ++ List.replicate (N.length - ds.length) none) S (L2.start N vs) H := by
  refine ⟨sr, ?_, fun i d e => ?_⟩
  · unfold L2.start
    simp [vr.length]
  · by_cases hi : i < ds.length
    · rw [List.getElem?_append_left (by simpa using hi), List.getElem?_map] at e
      obtain ⟨d', e1, e2⟩ := Option.map_eq_some_iff.mp e
      cases e2
      obtain ⟨v, h1, h2⟩ := vr.get e1
      refine ⟨v, ?_, h2⟩
      unfold L2.start
      rw [List.getElem?_append_left (by rw [List.length_map, ← vr.length]; exact hi), List.getElem?_map, h1]
      rfl
    · rw [List.getElem?_append_right (by simpa using hi), List.getElem?_replicate] at e
      split at e <;> cases e
theorem fng_of {x qual : Str} {st : Stmt} {f : Addr} {fd : FuncData} {N ps : List Str} {body : DS} (F : Fun K x qual st f fd) (sc : FnScope N ps (defScope st))
    (hbody : ∀ (cdv : Value) (A : Around) (outer : List Env) (s : Shared) (H : Hp) (E : XK), Ctx (BX P w K mg base N qual st f cdv A outer s H E) (WEx E) k → SSs (BX P w K mg base N qual st f cdv A outer s H E) C (WEx E) (defBody st) body) :
    FnG P w K mg base C (k + 1) f fd ps (runB N.length body) := by
  obtain ⟨oc, od, kV, doc, pm, an, cdv, ct, osl, rfl, lk, hcd⟩ := F.ex
  refine ⟨fun A outer s H args us vs Q E hr hgd e0 hb r hsp => ?_⟩
  obtain ⟨hl, μ, S, ds, sr, vr, q⟩ := hsp
  have inK : K.In s.heap := e0.mod.kin.keeps fun b o z => (e0.bs b o z).1
  have nolim : s.heap.NoLimit := e0.mod.nolimit.keeps fun b o z => (e0.bs b o z).1
  have kinds : ∀ y ∈ ps.zip us, (defScope st).names.lookup y.1 = some .local ∨ ((defScope st).names.lookup y.1 = some .cell ∧ ((cellsFrom (s.heap.objs.size + 1) (defScope st).names []).lookup y.1).isSome = true) := by
    rintro ⟨a, v⟩ hy
    rcases sc.par a (List.of_mem_zip hy).1 with z | z
    · exact .inl z
    · exact .inr ⟨z, PySem.W.cellsFrom_some _ _ _ (.inl z)⟩
  refine codeAny_call_function hr.depth (inK _ _ lk) rfl sc.co sc.gen rfl (PySem.W.codeRec_of inK hcd) (hb _ _ _ _ ?_)
  refine wpAny_newFunctionEnv_cells sc.kind kinds fun env henv s1 hin => ?_
  subst henv
  refine ⟨nolim.keeps hin.toInCall.keep, codeAny_func ?_⟩
  have I : Inv (BX P w K mg base N qual st f cdv A outer s H E) [] (L2.start N vs) H s1 := inv_start sc hr.hd e0 hl r hin
  have ctx : Ctx (BX P w K mg base N qual st f cdv A outer s H E) (WEx E) k := ⟨rfl, hr.deeper _, hgd, takes_of rfl rfl rfl rfl, passes_of rfl, sc.nd⟩
  refine wpAny_mono ((hbody cdv A outer s H E ctx).ps.run [] s1 (L2.start N vs) H { nx := fun _ H' => Q .non H', rt := Q } I ⟨μ, _, S, start_rl (N := N) sr vr, ?_⟩) (fun fl s' hs => ?_) fun ex s' hs => hs
  · unfold runB at q
    cases hb2 : body (ds.map some ++ List.replicate (N.length - ds.length) none) S with
    | ok o S' =>
      rw [hb2] at q
      cases o with
      | nx ρ' => exact fun μ' σ' H' a rl => q μ' H' .non a rl.sr (VR_non.mpr rfl)
      | rt d => exact q
      | bk d => exact q.elim
      | ct d => exact q.elim
      | ex c d => exact fun μ' σ' H' a rl => q μ' H' a rl.sr
    | exn c S' => rw [hb2] at q; exact q.elim
    | stuck => rw [hb2] at q; exact q.elim
  · have fin : ∀ {σ' : L2.St} {H' : Hp} {v : V} {u : Value}, Inv (BX P w K mg base N qual st f cdv A outer s H E) [] σ' H' s' → RelV v u → Q v H' → CE outer P w H s Q u s' :=
      fun {σ' H' v u} J rv z => ⟨v, H', J.os, J.bare, J.base, J.hok, rv, z⟩
    match fl, hs with
    | .ret u, ⟨v, σ', H', J, rv, z⟩ => exact fin J rv z
    | .next, ⟨σ', H', J, z⟩ => exact fin (v := V.non) (u := Value.none) J rfl z
    | .brk, ⟨_, _, _, z⟩ => exact False.elim z
    | .cont, ⟨_, _, _, z⟩ => exact False.elim z
/-- a fact of the head: the def st stands under x -/
structure Fact (K : PySem.W.Frag) (mg : Str → Option Value) (x : Str) (st : Stmt) : Prop where
  ex : ∃ f fd, mg x = some (.ref f) ∧ Fun K x x st f fd
theorem df_of {x : Str} {st : Stmt} {N ps : List Str} {body : DS} (T : Fact K mg x st) (sc : FnScope N ps (defScope st))
    (hbind : ∀ (kV doc pm : Value) (an : Option Addr) (cdv ct : Value) (us : List Value), us.length = ps.length → bindArgs (PySem.W.fnOf x x (defArgs st) (defBody st) (defScope st) .none kV doc pm an cdv ct) ⟨us, []⟩ = pure (ps.zip us))
    (hbody : ∀ (f : Addr) (cdv : Value) (A : Around) (outer : List Env) (s : Shared) (H : Hp) (E : XK), Ctx (BX P w K mg base N x st f cdv A outer s H E) (WEx E) k → SSs (BX P w K mg base N x st f cdv A outer s H E) C (WEx E) (defBody st) body) :
    Df P w K mg base C x ps.length (k + 1) (runB N.length body) := by
  obtain ⟨f, fd, h1, F⟩ := T.ex
  exact ⟨f, fd, ps, h1, F.kp, F.binds hbind, rfl, fng_of F sc (hbody f)⟩
end
/-! ### tidying -/
mutual
/-- all that it points to stands below n -/
def Dv.low (n : Nat) : Dv → Bool
  | .tup ds => Dv.lows n ds
  | .fz ds => Dv.lows n ds
  | .ref m => decide (m < n)
  | _ => true
def Dv.lows (n : Nat) : List Dv → Bool
  | [] => true
  | d :: ds => d.low n && Dv.lows n ds
end
def Ob.low (n : Nat) : Ob → Bool
  | .lst ds => Dv.lows n ds
  | .dic kvs => kvs.all fun p => p.2.low n
  | .ldic kvs => kvs.all fun p => p.2.low n
  | .ins _ fs => fs.all fun p => p.2.low n
theorem lows_all (n : Nat) : ∀ ds : List Dv, Dv.lows n ds = ds.all (Dv.low n)
  | [] => by simp [Dv.lows]
  | d :: ds => by simp [Dv.lows, lows_all n ds]
section
variable {K : PySem.W.Frag} {C : Nat → Addr} {H H' : Hp} {μ ν : List Addr} {n : Nat}
mutual
theorem VR.cut : ∀ {d : Dv} {v : V}, d.low n = true → VR K H μ d v → VR K H (μ.take n) d v
  | .non, _, _, h => by simpa [VR] using h
  | .bl _, _, _, h => by simpa [VR] using h
  | .int _, _, _, h => by simpa [VR] using h
  | .str _, _, _, h => by simpa [VR] using h
  | .tup ds, _, b, h => by
    obtain ⟨x, vs, e, h1, h2⟩ := VR_tup.mp h
    exact VR_tup.mpr ⟨x, vs, e, h1, VRs.cut (by simpa [Dv.low] using b) h2⟩
  | .fz ds, _, b, h => by
    obtain ⟨x, vs, e, h1, h2⟩ := VR_fz.mp h
    exact VR_fz.mpr ⟨x, vs, e, h1, VRs.cut (by simpa [Dv.low] using b) h2⟩
  | .ref m, _, b, h => by
    obtain ⟨x, h1, e⟩ := VR_ref.mp h
    exact VR_ref.mpr ⟨x, by rw [List.getElem?_take_of_lt (by simpa [Dv.low] using b)]; exact h1, e⟩
theorem VRs.cut : ∀ {ds : List Dv} {vs : List V}, Dv.lows n ds = true → VRs K H μ ds vs → VRs K H (μ.take n) ds vs
  | [], _, _, h => by simpa [VRs] using h
  | d :: ds, _, b, h => by
    obtain ⟨v, r, e, h1, h2⟩ := VRs_cons.mp h
    simp only [Dv.lows, Bool.and_eq_true] at b
    exact VRs_cons.mpr ⟨v, r, e, VR.cut b.1 h1, VRs.cut b.2 h2⟩
end
theorem KRs.cut {κ : Type} : ∀ {l : List (κ × Dv)} {m : List (κ × V)}, (l.all fun p => p.2.low n) = true → KRs K H μ l m → KRs K H (μ.take n) l m
  | [], _, _, h => h
  | (k, d) :: r, _, b, h => by
    obtain ⟨v, t, e, h1, h2⟩ := h
    simp only [List.all_cons, Bool.and_eq_true] at b
    exact ⟨v, t, e, h1.cut b.1, KRs.cut b.2 h2⟩
theorem OR.cut {o : Ob} {ho : HO} (b : o.low n = true) (h : OR K C H μ o ho) : OR K C H (μ.take n) o ho := by
  cases o with
  | lst ds => obtain ⟨vs, e, r⟩ := h; exact ⟨vs, e, r.cut b⟩
  | dic ds => obtain ⟨vs, e, r⟩ := h; exact ⟨vs, e, r.cut b⟩
  | ldic ds => obtain ⟨x, vs, e, r⟩ := h; exact ⟨x, vs, e, r.cut b⟩
  | ins c ds => obtain ⟨x, vs, e, r⟩ := h; exact ⟨x, vs, e, r.cut b⟩
mutual
/-- what is told over a shorter store points below its length -/
theorem VR.isLow : ∀ {d : Dv} {v : V}, VR K H μ d v → d.low μ.length = true
  | .non, _, _ => rfl
  | .bl _, _, _ => rfl
  | .int _, _, _ => rfl
  | .str _, _, _ => rfl
  | .tup ds, _, h => by
    obtain ⟨x, vs, e, h1, h2⟩ := VR_tup.mp h
    simpa [Dv.low] using VRs.isLow h2
  | .fz ds, _, h => by
    obtain ⟨x, vs, e, h1, h2⟩ := VR_fz.mp h
    simpa [Dv.low] using VRs.isLow h2
  | .ref m, _, h => by
    obtain ⟨x, h1, e⟩ := VR_ref.mp h
    simpa [Dv.low] using (List.getElem?_eq_some_iff.mp h1).1
theorem VRs.isLow : ∀ {ds : List Dv} {vs : List V}, VRs K H μ ds vs → Dv.lows μ.length ds = true
  | [], _, _ => rfl
  | d :: ds, _, h => by
    obtain ⟨v, r, e, h1, h2⟩ := VRs_cons.mp h
    simp [Dv.lows, VR.isLow h1, VRs.isLow h2]
end
theorem KRs.isLow {κ : Type} : ∀ {l : List (κ × Dv)} {m : List (κ × V)}, KRs K H μ l m → (l.all fun p => p.2.low μ.length) = true
  | [], _, _ => rfl
  | (k, d) :: r, _, h => by
    obtain ⟨v, t, e, h1, h2⟩ := h
    simp [h1.isLow]
    simpa using KRs.isLow h2
theorem OR.isLow {o : Ob} {ho : HO} (h : OR K C H μ o ho) : o.low μ.length = true := by
  cases o with
  | lst ds => obtain ⟨vs, e, r⟩ := h; exact r.isLow
  | dic ds => obtain ⟨vs, e, r⟩ := h; exact r.isLow
  | ldic ds => obtain ⟨x, vs, e, r⟩ := h; exact r.isLow
  | ins c ds => obtain ⟨x, vs, e, r⟩ := h; exact r.isLow
end
/-- the objects of the caller, as they are or pointing to the caller's own alone -/
def Kept (S S2 : Sto) : Prop := S2.length = S.length ∧ ∀ (i : Nat) (o : Ob), S2[i]? = some o → S[i]? = some o ∨ o.low S.length = true
theorem Kept.refl (S : Sto) : Kept S S := ⟨rfl, fun _ _ h => .inl h⟩
theorem Kept.set (S : Sto) (n : Nat) {o : Ob} (h : o.low S.length = true) : Kept S (S.set n o) := by
  refine ⟨by simp, fun i q e => ?_⟩
  by_cases hi : n = i
  · subst hi
    have hl : n < S.length := by
      have := (List.getElem?_eq_some_iff.mp e).1
      simpa using this
    rw [List.getElem?_set_self hl] at e
    cases e
    exact .inr h
  · rw [List.getElem?_set_ne hi] at e
    exact .inl e
/-- a tidier ending: what is dropped is not asked for -/
inductive Le (S : Sto) : Res Dv → Res Dv → Prop
  | stuck (r : Res Dv) : Le S .stuck r
  | same (r : Res Dv) : Le S r r
  | drop (d : Dv) (S2 G : Sto) (h1 : d.low S.length = true) (h2 : Kept S S2) : Le S (.ok d S2) (.ok d (S2 ++ G))
  | exn (c : Nat) (S2 G : Sto) (h2 : Kept S S2) : Le S (.exn c S2) (.exn c (S2 ++ G))
  | fresh (ds : List Dv) (S2 G1 G2 : Sto) (h1 : Dv.lows S.length ds = true) (h2 : Kept S S2) : Le S (.ok (.ref S.length) (S2 ++ [.lst ds])) (.ok (.ref (S.length + G1.length)) (S2 ++ (G1 ++ .lst ds :: G2)))
section
variable {P : Program} {w : World} {K : PySem.W.Frag} {mg : Str → Option Value} {base : Heap} {C : Nat → Addr} {x : Str} {n k : Nat} {den den' : Den}
theorem SR.cut {μ ν : List Addr} {S S2 G : Sto} {H H' : Hp} (s0 : SR K C μ S H) (s : SR K C (μ ++ ν) (S2 ++ G) H') (kp : Kept S S2) : SR K C μ S2 H' := by
  have hl : μ.length = S2.length := s0.len.trans kp.1.symm
  refine ⟨hl, s0.nd, fun i o a h1 h2 => ?_⟩
  have hi := (List.getElem?_eq_some_iff.mp h1).1
  obtain ⟨ho, e, r⟩ := s.ob i o a (by rw [List.getElem?_append_left hi]; exact h1) (by rw [List.getElem?_append_left (by rw [hl]; exact hi)]; exact h2)
  refine ⟨ho, e, ?_⟩
  have hb : o.low μ.length = true := by
    rcases kp.2 i o h1 with z | z
    · obtain ⟨ho0, _, r0⟩ := s0.ob i o a z h2
      exact r0.isLow
    · rw [s0.len]; exact z
  have := r.cut hb
  simpa using this
theorem Le.go {S : Sto} {r r' : Res Dv} (h : Le S r' r) {μ : List Addr} {H : Hp} {W : WX} {σ : L2.St} {Q : VK} (s0 : SR K C μ S H) (q : tR K C W (PV K) r' μ σ H Q) : tR K C W (PV K) r μ σ H Q := by
  cases h with
  | stuck => exact q.elim
  | same => exact q
  | drop d S2 G h1 h2 =>
    intro μ' H' v a s vr
    obtain ⟨⟨ν, rfl⟩, a2, a3⟩ := a
    have vr' := vr.cut (n := μ.length) (by rw [s0.len]; exact h1)
    exact q μ H' v ⟨⟨[], by simp⟩, a2, a3⟩ (s0.cut s h2) (by simpa using vr')
  | exn c S2 G h2 =>
    intro μ' H' a s
    obtain ⟨⟨ν, rfl⟩, a2, a3⟩ := a
    exact q μ H' ⟨⟨[], by simp⟩, a2, a3⟩ (s0.cut s h2)
  | fresh ds S2 G1 G2 h1 h2 =>
    intro μ' H' v a s vr
    obtain ⟨⟨ν, rfl⟩, a2, a3⟩ := a
    obtain ⟨ad, e1, e2⟩ := VR_ref.mp vr
    have s2 := s0.cut s h2
    have hS : S2.length = S.length := h2.1
    obtain ⟨ho, e3, vs, e4, r⟩ := s.ob _ (.lst ds) ad (by
      rw [← hS, List.getElem?_append_right (Nat.le_add_right _ _), Nat.add_sub_cancel_left, List.getElem?_append_right (Nat.le_refl _)]
      simp) e1
    have hlt : S.length + G1.length < (μ ++ ν).length := (List.getElem?_eq_some_iff.mp e1).1
    have nin : ad ∉ μ := fun hm => by
      obtain ⟨i, ei⟩ := List.getElem?_of_mem hm
      have hi : i < μ.length := (List.getElem?_eq_some_iff.mp ei).1
      have e5 : (μ ++ ν)[i]? = some ad := by rw [List.getElem?_append_left hi]; exact ei
      have := SR.put.nodup_ix' s.nd e5 e1
      have := s0.len
      omega
    have rb := r.cut (n := μ.length) (by rw [s0.len]; exact h1)
    rw [List.take_left' rfl] at rb
    refine q (μ ++ [ad]) H' v ⟨⟨[ad], rfl⟩, a2, a3⟩ ⟨by simp [s0.len, hS], ?_, fun i o b f1 f2 => ?_⟩ (VR_ref.mpr ⟨ad, ?_, e2⟩)
    · rw [List.nodup_append]
      exact ⟨s0.nd, by simp, fun y hy z hz e => nin (by simp at hz; rw [← hz, ← e]; exact hy)⟩
    · by_cases hi : i < S2.length
      · rw [List.getElem?_append_left hi] at f1
        rw [List.getElem?_append_left (by rw [s0.len, ← hS]; exact hi)] at f2
        obtain ⟨hq, g1, g2⟩ := s2.ob i o b f1 f2
        exact ⟨hq, g1, g2.mono (Aft.grow _)⟩
      · have ei : i = S2.length := by
          have := (List.getElem?_eq_some_iff.mp f1).1
          simp at this
          omega
        subst ei
        rw [List.getElem?_append_right (Nat.le_refl _)] at f1
        rw [List.getElem?_append_right (by rw [s0.len, hS]; exact Nat.le_refl _), s0.len, hS] at f2
        simp at f1 f2
        subst f1 f2
        exact ⟨ho, e3, vs, e4, rb.mono (Aft.grow _)⟩
    · rw [List.getElem?_append_right (by rw [s0.len]; exact Nat.le_refl _), s0.len]
      simp
theorem Df.imp (F : Df P w K mg base C x n k den) (h : ∀ ds S, ds.length = n → Le S (den' ds S) (den ds S)) : Df P w K mg base C x n k den' := by
  obtain ⟨f, fd, ps, h1, h2, h3, h4, h5⟩ := F.ex
  refine ⟨f, fd, ps, h1, h2, h3, h4, ⟨fun A outer s H args us vs Q E hr hg he hb hv hs => h5.run A outer s H args us vs Q E hr hg he hb hv ?_⟩⟩
  obtain ⟨hl, μ, S, ds, sr, vr, q⟩ := hs
  exact ⟨hl, μ, S, ds, sr, vr, (h ds S (by rw [vr.length, hl, h4])).go sr q⟩
end
end Fc

/-! FcOps: operators, subscripts, slices, builtins. -/
namespace Fc
open PySem L2

/-! ### data as the library has it -/
mutual
def Dv.pyW (r : Nat → Option PyData) : Dv → Option PyData
  | .non => some .none
  | .bl b => some (.bool b)
  | .int i => some (.int i)
  | .str x => some (.str x)
  | .tup ds => (Dv.pysW r ds).map .tuple
  | .fz ds => (Dv.pysW r ds).map .list
  | .ref n => r n
def Dv.pysW (r : Nat → Option PyData) : List Dv → Option (List PyData)
  | [] => some []
  | d :: ds => match d.pyW r, Dv.pysW r ds with
    | some p, some ps => some (p :: ps)
    | _, _ => none
end
def pyRef (S : Sto) : Nat → Nat → Option PyData
  | 0, _ => none
  | f + 1, n => match S[n]? with
    | some (.lst ds) => (Dv.pysW (pyRef S f) ds).map .list
    | _ => none
def Dv.py (S : Sto) (d : Dv) : Option PyData := d.pyW (pyRef S 8)
section
variable {K : PySem.W.Frag} {C : Nat → Addr} {H : Hp} {μ : List Addr} {S : Sto}
mutual
theorem dp_of {r : Nat → Option PyData} (hr : ∀ n v p, r n = some p → VR K H μ (.ref n) v → Dp K H v p) : ∀ {d : Dv} {v : V} {p : PyData}, d.pyW r = some p → VR K H μ d v → Dp K H v p
  | .non, _, _, e, h => by
    cases e
    rw [VR_non.mp h]
    exact .non
  | .bl b, _, _, e, h => by
    cases e
    rw [VR_bl.mp h]
    exact .bl b
  | .int i, _, _, e, h => by
    cases e
    rw [VR_int.mp h]
    exact .int i
  | .str x, _, _, e, h => by
    cases e
    rw [VR_str.mp h]
    exact .str x
  | .tup ds, _, _, e, h => by
    simp only [Dv.pyW, Option.map_eq_some_iff] at e
    obtain ⟨ps, e1, rfl⟩ := e
    obtain ⟨a, vs, rfl, h1, h2⟩ := VR_tup.mp h
    exact .tup h1 (dps_of hr e1 h2)
  | .fz ds, _, _, e, h => by
    simp only [Dv.pyW, Option.map_eq_some_iff] at e
    obtain ⟨ps, e1, rfl⟩ := e
    obtain ⟨a, vs, rfl, h1, h2⟩ := VR_fz.mp h
    exact .lst h1.seq (dps_of hr e1 h2)
  | .ref n, _, _, e, h => hr _ _ _ e h
theorem dps_of {r : Nat → Option PyData} (hr : ∀ n v p, r n = some p → VR K H μ (.ref n) v → Dp K H v p) : ∀ {ds : List Dv} {vs : List V} {ps : List PyData}, Dv.pysW r ds = some ps → VRs K H μ ds vs → DpAll K H vs ps
  | [], _, _, e, h => by
    cases e
    rw [VRs_nil.mp h]
    exact .nil
  | d :: ds, _, _, e, h => by
    obtain ⟨v, t, rfl, h1, h2⟩ := VRs_cons.mp h
    simp only [Dv.pysW] at e
    split at e
    · rename_i p ps e1 e2
      cases e
      exact .cons (dp_of hr e1 h1) (dps_of hr e2 h2)
    · cases e
end
theorem pyRef_dp (sr : SR K C μ S H) : ∀ (f n : Nat) (v : V) (p : PyData), pyRef S f n = some p → VR K H μ (.ref n) v → Dp K H v p
  | 0, _, _, _, e, _ => by simp [pyRef] at e
  | f + 1, n, v, p, e, h => by
    simp only [pyRef] at e
    split at e
    · rename_i ds e1
      obtain ⟨ps, e2, rfl⟩ := Option.map_eq_some_iff.mp e
      obtain ⟨a, ha, rfl⟩ := VR_ref.mp h
      obtain ⟨ho, e3, vs, rfl, r⟩ := sr.ob n _ a e1 ha
      exact .lst (SqL.of e3) (dps_of (pyRef_dp sr f) e2 r)
    · cases e
theorem py_dp (sr : SR K C μ S H) {d : Dv} {v : V} {p : PyData} (e : d.py S = some p) (h : VR K H μ d v) : Dp K H v p := dp_of (pyRef_dp sr 8) e h
/-- a list, however it is held -/
def listOf (S : Sto) : Dv → Option (List Dv)
  | .fz ds => some ds
  | .ref n => match S[n]? with
    | some (.lst ds) => some ds
    | _ => none
  | _ => none
theorem listOf_sq (sr : SR K C μ S H) {d : Dv} {v : V} {ds : List Dv} (e : listOf S d = some ds) (h : VR K H μ d v) : ∃ a vs, v = .ref a ∧ SqL K H a vs ∧ VRs K H μ ds vs := by
  cases d with
  | fz es =>
    cases e
    obtain ⟨a, vs, rfl, h1, h2⟩ := VR_fz.mp h
    exact ⟨a, vs, rfl, h1.seq, h2⟩
  | ref n =>
    simp only [listOf] at e
    split at e
    · rename_i es e1
      cases e
      obtain ⟨a, ha, rfl⟩ := VR_ref.mp h
      obtain ⟨ho, e3, vs, rfl, r⟩ := sr.ob n _ a e1 ha
      exact ⟨a, vs, rfl, SqL.of e3, r⟩
    · cases e
  | _ => cases e
/-- a list of the store -/
theorem lst_at (sr : SR K C μ S H) {n : Nat} {ds : List Dv} {v : V} (e : S[n]? = some (.lst ds)) (h : VR K H μ (.ref n) v) : ∃ a vs, v = .ref a ∧ μ[n]? = some a ∧ H a = some (.lst vs) ∧ VRs K H μ ds vs := by
  obtain ⟨a, ha, rfl⟩ := VR_ref.mp h
  obtain ⟨ho, e3, vs, rfl, r⟩ := sr.ob n _ a e ha
  exact ⟨a, vs, rfl, ha, e3, r⟩
/-- a tuple is laid -/
theorem new_tup {ds : List Dv} {vs : List V} {σ : L2.St} {Q : VK} {W : WX} (s1 : SR K C μ S H) (vr : VRs K H μ ds vs) (q1 : tR K C W (PV K) (.ok (.tup ds) S) μ σ H Q) (p : Addr) (hp : H p = none) : Q (.ref p) (L2.upd H p (.tup vs)) := by
  have af : Aft K μ H μ (L2.upd H p (.tup vs)) := Aft.upd (by rw [hp]; trivial)
  exact q1 μ _ _ af (s1.lay hp) (VR_tup.mpr ⟨p, vs, rfl, SqT.of upd_same, vr.mono af⟩)
/-- .. or is one that stands -/
theorem old_val {d : Dv} {v : V} {σ : L2.St} {Q : VK} {W : WX} (s1 : SR K C μ S H) (vr : VR K H μ d v) (q1 : tR K C W (PV K) (.ok d S) μ σ H Q) : Q v H := q1 μ H v Aft.refl s1 vr
end
theorem lim_eq : lim = 100000 := rfl
/-! ### arithmetic -/
def mulOk (i j : Int) : Bool := decide (i.natAbs.log2 + j.natAbs.log2 < 1000000)
def divOk (j : Int) : Bool := decide (0 < j) && decide (j.natAbs.log2 < 9000)
def opAdd : Op2 := fun x y S => match x, y with
  | .int i, .int j => some (.int (i + j), S)
  | .tup ds, .tup es => if ds.length + es.length ≤ lim then some (.tup (ds ++ es), S) else none
  | .ref n, .ref m => match S[n]?, S[m]? with
    | some (.lst ds), some (.lst es) => if ds.length + es.length ≤ lim then some (.ref S.length, S ++ [.lst (ds ++ es)]) else none
    | _, _ => none
  | .str a, .str b => if a.length + b.length ≤ lim then some (.str (a ++ b), S) else none
  | _, _ => none
def opSub : Op2 := fun x y S => match x, y with
  | .int i, .int j => some (.int (i - j), S)
  | _, _ => none
def opMul : Op2 := fun x y S => match x, y with
  | .int i, .int j => if mulOk i j then some (.int (i * j), S) else none
  | .ref n, .int k => match S[n]? with
    | some (.lst ds) => if decide (-1000 ≤ k) && decide (k ≤ 1000000) && decide (ds.length * k.toNat ≤ lim) then some (.ref S.length, S ++ [.lst (List.replicate k.toNat ds).flatten]) else none
    | _ => none
  | .tup ds, .int k => if decide (ds ≠ []) && decide (2 ≤ k) && decide (k ≤ 1000) && decide (ds.length ≤ 1000) then some (.tup (List.replicate k.toNat ds).flatten, S) else none
  | _, _ => none
def opDiv : Op2 := fun x y S => match x, y with
  | .int i, .int j => if divOk j then some (.int (i / j), S) else none
  | _, _ => none
def opMod : Op2 := fun x y S => match x, y with
  | .int i, .int j => if 0 < j then some (.int (i % j), S) else none
  | _, _ => none
def opPow : Op2 := fun x y S => match x, y with
  | .int i, .int j => if decide (0 ≤ j) && decide (j ≤ 1000000) && decide (i.natAbs < 2 ^ 64) then some (.int (i ^ j.toNat), S) else none
  | _, _ => none
section
variable {X : Cx} {C : Nat → Addr}
theorem ops_add : OpS X C (binaryOp .Add) opAdd := by
  intro pins s σ H x y v u Q I rx ry h
  obtain ⟨μ, S, dx, dy, sr, vx, vy, q⟩ := h
  cases dx with
  | int i =>
    cases dy with
    | int j =>
      cases VR_int.mp vx
      cases VR_int.mp vy
      exact op_add pins s σ H _ _ v u Q I rx ry ⟨i, j, rfl, rfl, old_val sr (VR_int.mpr rfl) q⟩
    | _ => exact q.elim
  | tup ds =>
    cases dy with
    | tup es =>
      obtain ⟨a, vs, rfl, h1, h2⟩ := VR_tup.mp vx
      obtain ⟨b, ws, rfl, h3, h4⟩ := VR_tup.mp vy
      by_cases hl : ds.length + es.length ≤ lim
      · simp only [opAdd, if_pos hl, ofO] at q
        refine op_catA pins s σ H _ _ v u Q I rx ry ⟨a, b, vs, ws, rfl, rfl, h1, h3, by rw [← h2.length, ← h4.length]; exact Nat.le_trans hl lim_line, fun e => ?_, fun e1 e2 => ?_, fun e1 e2 p hp => ?_⟩
        · subst e
          have e : ds = [] := List.eq_nil_of_length_eq_zero (by rw [h2.length]; rfl)
          subst e
          exact old_val sr vy q
        · subst e2
          have e : es = [] := List.eq_nil_of_length_eq_zero (by rw [h4.length]; rfl)
          subst e
          rw [List.append_nil] at q
          exact old_val sr vx q
        · exact new_tup sr (h2.append h4) q p hp
      · simp only [opAdd, if_neg hl, ofO] at q
        exact q.elim
    | _ => exact q.elim
  | ref n =>
    cases dy with
    | ref m =>
      simp only [opAdd] at q
      split at q
      · rename_i ds es e1 e2
        obtain ⟨a, vs, rfl, ha, h1, h2⟩ := lst_at sr e1 vx
        obtain ⟨b, ws, rfl, hb, h3, h4⟩ := lst_at sr e2 vy
        by_cases hl : ds.length + es.length ≤ lim
        · simp only [if_pos hl, ofO] at q
          exact op_cat pins s σ H _ _ v u Q I rx ry ⟨a, b, vs, ws, rfl, rfl, h1, h3, by rw [← h2.length, ← h4.length]; exact Nat.le_trans hl lim_line, new_lst sr (h2.append h4) q⟩
        · simp only [if_neg hl, ofO] at q
          exact q.elim
      · exact q.elim
    | _ => exact q.elim
  | str a =>
    cases dy with
    | str b =>
      cases VR_str.mp vx
      cases VR_str.mp vy
      by_cases hl : a.length + b.length ≤ lim
      · simp only [opAdd, if_pos hl, ofO] at q
        exact op_add_str pins s σ H _ _ v u Q I rx ry ⟨a, b, rfl, rfl, Nat.le_trans hl lim_line, old_val sr (VR_str.mpr rfl) q⟩
      · simp only [opAdd, if_neg hl, ofO] at q
        exact q.elim
    | _ => exact q.elim
  | _ => exact q.elim
theorem ops_sub : OpS X C (binaryOp .Sub) opSub := by
  intro pins s σ H x y v u Q I rx ry h
  obtain ⟨μ, S, dx, dy, sr, vx, vy, q⟩ := h
  cases dx with
  | int i =>
    cases dy with
    | int j =>
      cases VR_int.mp vx
      cases VR_int.mp vy
      exact op_sub pins s σ H _ _ v u Q I rx ry ⟨i, j, rfl, rfl, old_val sr (VR_int.mpr rfl) q⟩
    | _ => exact q.elim
  | _ => exact q.elim
theorem ops_mul : OpS X C (binaryOp .Mult) opMul := by
  intro pins s σ H x y v u Q I rx ry h
  obtain ⟨μ, S, dx, dy, sr, vx, vy, q⟩ := h
  cases dx with
  | int i =>
    cases dy with
    | int j =>
      cases VR_int.mp vx
      cases VR_int.mp vy
      by_cases hl : mulOk i j = true
      · simp only [opMul, if_pos hl, ofO] at q
        exact op_mulW pins s σ H _ _ v u Q I rx ry ⟨i, j, rfl, rfl, (by simpa [mulOk, CMulW] using hl), old_val sr (VR_int.mpr rfl) q⟩
      · simp only [opMul, if_neg hl, ofO] at q
        exact q.elim
    | _ => exact q.elim
  | ref n =>
    cases dy with
    | int k =>
      cases VR_int.mp vy
      simp only [opMul] at q
      split at q
      · rename_i ds e1
        obtain ⟨a, vs, rfl, ha, h1, h2⟩ := lst_at sr e1 vx
        by_cases hl : (decide (-1000 ≤ k) && decide (k ≤ 1000000) && decide (ds.length * k.toNat ≤ lim)) = true
        · rw [if_pos hl] at q
          simp only [Bool.and_eq_true, decide_eq_true_eq] at hl
          simp only [ofO] at q
          exact op_rep pins s σ H _ _ v u Q I rx ry ⟨a, k, vs, rfl, rfl, h1, by omega, by omega, by rw [← h2.length]; exact Nat.le_trans hl.2 lim_line, new_lst sr (h2.rep _) q⟩
        · rw [if_neg hl] at q
          exact q.elim
      · exact q.elim
    | _ => exact q.elim
  | tup ds =>
    cases dy with
    | int k =>
      cases VR_int.mp vy
      obtain ⟨a, vs, rfl, h1, h2⟩ := VR_tup.mp vx
      by_cases hl : (decide (ds ≠ []) && decide (2 ≤ k) && decide (k ≤ 1000) && decide (ds.length ≤ 1000)) = true
      · simp only [opMul] at q
        rw [if_pos hl] at q
        simp only [Bool.and_eq_true, decide_eq_true_eq] at hl
        simp only [ofO] at q
        refine op_repT pins s σ H _ _ v u Q I rx ry ⟨a, k, vs, rfl, rfl, h1, fun e => hl.1.1.1 (List.eq_nil_of_length_eq_zero (by rw [h2.length, e]; rfl)), hl.1.1.2, hl.1.2, by rw [← h2.length]; exact hl.2, new_tup sr (h2.rep _) q⟩
      · simp only [opMul] at q
        rw [if_neg hl] at q
        exact q.elim
    | _ => exact q.elim
  | _ => exact q.elim
theorem ops_div : OpS X C (binaryOp .FloorDiv) opDiv := by
  intro pins s σ H x y v u Q I rx ry h
  obtain ⟨μ, S, dx, dy, sr, vx, vy, q⟩ := h
  cases dx with
  | int i =>
    cases dy with
    | int j =>
      cases VR_int.mp vx
      cases VR_int.mp vy
      by_cases hl : divOk j = true
      · simp only [opDiv, if_pos hl, ofO] at q
        simp only [divOk, Bool.and_eq_true, decide_eq_true_eq] at hl
        exact op_fdivW pins s σ H _ _ v u Q I rx ry ⟨i, j, rfl, rfl, hl, old_val sr (VR_int.mpr rfl) q⟩
      · simp only [opDiv, if_neg hl, ofO] at q
        exact q.elim
    | _ => exact q.elim
  | _ => exact q.elim
theorem ops_mod : OpS X C (binaryOp .Mod) opMod := by
  intro pins s σ H x y v u Q I rx ry h
  obtain ⟨μ, S, dx, dy, sr, vx, vy, q⟩ := h
  cases dx with
  | int i =>
    cases dy with
    | int j =>
      cases VR_int.mp vx
      cases VR_int.mp vy
      by_cases hl : 0 < j
      · simp only [opMod, if_pos hl, ofO] at q
        exact op_mod pins s σ H _ _ v u Q I rx ry ⟨i, j, rfl, rfl, hl, old_val sr (VR_int.mpr rfl) q⟩
      · simp only [opMod, if_neg hl, ofO] at q
        exact q.elim
    | _ => exact q.elim
  | _ => exact q.elim
theorem ops_pow : OpS X C (binaryOp .Pow) opPow := by
  intro pins s σ H x y v u Q I rx ry h
  obtain ⟨μ, S, dx, dy, sr, vx, vy, q⟩ := h
  cases dx with
  | int i =>
    cases dy with
    | int j =>
      cases VR_int.mp vx
      cases VR_int.mp vy
      by_cases hl : (decide (0 ≤ j) && decide (j ≤ 1000000) && decide (i.natAbs < 2 ^ 64)) = true
      · simp only [opPow] at q
        rw [if_pos hl] at q
        simp only [Bool.and_eq_true, decide_eq_true_eq] at hl
        exact op_pow pins s σ H _ _ v u Q I rx ry ⟨i, j, rfl, rfl, ⟨hl.1.1, hl.1.2, hl.2⟩, old_val sr (VR_int.mpr rfl) q⟩
      · simp only [opPow] at q
        rw [if_neg hl] at q
        exact q.elim
    | _ => exact q.elim
  | _ => exact q.elim

/-! ### comparisons -/
def opInt (p : Int → Int → Bool) : Op2 := fun x y S => match x, y with
  | .int i, .int j => some (.bl (p i j), S)
  | _, _ => none
theorem ops_int {F : Value → Value → Sem Value} {p : Int → Int → Bool} (h : OpR X F (rI0 fun i j => .bl (p i j))) : OpS X C F (opInt p) := by
  intro pins s σ H x y v u Q I rx ry hh
  obtain ⟨μ, S, dx, dy, sr, vx, vy, q⟩ := hh
  cases dx with
  | int i =>
    cases dy with
    | int j =>
      cases VR_int.mp vx
      cases VR_int.mp vy
      exact h pins s σ H _ _ v u Q I rx ry ⟨i, j, rfl, rfl, old_val sr (VR_bl.mpr rfl) q⟩
    | _ => exact q.elim
  | _ => exact q.elim
abbrev opLt : Op2 := opInt fun i j => decide (i < j)
abbrev opLe : Op2 := opInt fun i j => decide (i ≤ j)
abbrev opGt : Op2 := opInt fun i j => decide (j < i)
abbrev opGe : Op2 := opInt fun i j => decide (j ≤ i)
theorem ops_lt : OpS X C (compareOp .Lt) opLt := ops_int op_lt
theorem ops_le : OpS X C (compareOp .LtE) opLe := ops_int op_le
theorem ops_gt : OpS X C (compareOp .Gt) opGt := ops_int op_gt
theorem ops_ge : OpS X C (compareOp .GtE) opGe := ops_int op_ge
def eqD (x y : Dv) (S : Sto) : Option Bool := match x, y with
  | .int i, .int j => some (decide (i = j))
  | .str a, .str b => some (decide (a = b))
  | .bl a, .bl b => some (decide (a = b))
  | _, _ => match x.py S, y.py S with
    | some p, some q => if SeqAt.shaped p && SeqAt.shaped q then some (PyData.eqv p q) else none
    | _, _ => none
def opEq : Op2 := fun x y S => (eqD x y S).map fun b => (.bl b, S)
def opNe : Op2 := fun x y S => (eqD x y S).map fun b => (.bl (!b), S)
theorem ofO_map {K : PySem.W.Frag} {W : WX} {o : Option Bool} {g : Bool → Dv} {S : Sto} {μ : List Addr} {σ : L2.St} {H : Hp} {Q : VK} (q : tR K C W (PV K) (ofO (o.map fun b => (g b, S))) μ σ H Q) : ∃ b, o = some b ∧ tR K C W (PV K) (.ok (g b) S) μ σ H Q := by
  cases o with
  | none => exact q.elim
  | some b => exact ⟨b, rfl, q⟩
theorem eqD_deep {x y : Dv} {S : Sto} {b : Bool} (h : eqD x y S = some b) : (∃ i j, x = .int i ∧ y = .int j ∧ b = decide (i = j)) ∨ (∃ i j, x = .str i ∧ y = .str j ∧ b = decide (i = j)) ∨ (∃ i j, x = .bl i ∧ y = .bl j ∧ b = decide (i = j)) ∨
    ∃ p q, x.py S = some p ∧ y.py S = some q ∧ SeqAt.shaped p = true ∧ SeqAt.shaped q = true ∧ b = PyData.eqv p q := by
  unfold eqD at h
  split at h
  · cases h; exact .inl ⟨_, _, rfl, rfl, rfl⟩
  · cases h; exact .inr (.inl ⟨_, _, rfl, rfl, rfl⟩)
  · cases h; exact .inr (.inr (.inl ⟨_, _, rfl, rfl, rfl⟩))
  · split at h
    · rename_i p q e1 e2
      split at h
      · rename_i hs
        simp only [Bool.and_eq_true] at hs
        cases h
        exact .inr (.inr (.inr ⟨p, q, e1, e2, hs.1, hs.2, rfl⟩))
      · cases h
    · cases h
theorem ops_eq (hu : X.A.units + 64 < cLine) : OpS X C (compareOp .Eq) opEq := by
  intro pins s σ H x y v u Q I rx ry h
  obtain ⟨μ, S, dx, dy, sr, vx, vy, q⟩ := h
  obtain ⟨b, e, q⟩ := ofO_map q
  have fin := old_val sr (VR_bl.mpr rfl) q
  rcases eqD_deep e with ⟨i, j, rfl, rfl, rfl⟩ | ⟨i, j, rfl, rfl, rfl⟩ | ⟨i, j, rfl, rfl, rfl⟩ | ⟨p, q', e1, e2, s1, s2, rfl⟩
  · cases VR_int.mp vx
    cases VR_int.mp vy
    refine op_eq pins s σ H _ _ v u Q I rx ry ⟨rfl, ?_⟩
    rw [show decide (V.int i = V.int j) = decide (i = j) from by rw [dec_int]; rfl]
    exact fin
  · cases VR_str.mp vx
    cases VR_str.mp vy
    refine op_eq pins s σ H _ _ v u Q I rx ry ⟨rfl, ?_⟩
    rw [show decide (V.str i = V.str j) = decide (i = j) from by by_cases hij : i = j <;> simp [hij]]
    exact fin
  · cases VR_bl.mp vx
    cases VR_bl.mp vy
    refine op_eq pins s σ H _ _ v u Q I rx ry ⟨rfl, ?_⟩
    rw [show decide (V.bl i = V.bl j) = decide (i = j) from by by_cases hij : i = j <;> simp [hij]]
    exact fin
  · exact op_eqD hu pins s σ H _ _ v u Q I rx ry ⟨p, q', py_dp sr e1 vx, py_dp sr e2 vy, s1, s2, fin⟩
theorem ops_ne (hu : X.A.units + 64 < cLine) : OpS X C (compareOp .NotEq) opNe := by
  intro pins s σ H x y v u Q I rx ry h
  obtain ⟨μ, S, dx, dy, sr, vx, vy, q⟩ := h
  obtain ⟨b, e, q⟩ := ofO_map q
  have fin := old_val sr (VR_bl.mpr rfl) q
  rcases eqD_deep e with ⟨i, j, rfl, rfl, rfl⟩ | ⟨i, j, rfl, rfl, rfl⟩ | ⟨i, j, rfl, rfl, rfl⟩ | ⟨p, q', e1, e2, s1, s2, rfl⟩
  · cases VR_int.mp vx
    cases VR_int.mp vy
    refine op_ne pins s σ H _ _ v u Q I rx ry ⟨rfl, ?_⟩
    rw [show decide (V.int i = V.int j) = decide (i = j) from by rw [dec_int]; rfl]
    exact fin
  · cases VR_str.mp vx
    cases VR_str.mp vy
    refine op_ne pins s σ H _ _ v u Q I rx ry ⟨rfl, ?_⟩
    rw [show decide (V.str i = V.str j) = decide (i = j) from by by_cases hij : i = j <;> simp [hij]]
    exact fin
  · cases VR_bl.mp vx
    cases VR_bl.mp vy
    refine op_ne pins s σ H _ _ v u Q I rx ry ⟨rfl, ?_⟩
    rw [show decide (V.bl i = V.bl j) = decide (i = j) from by by_cases hij : i = j <;> simp [hij]]
    exact fin
  · exact op_neD hu pins s σ H _ _ v u Q I rx ry ⟨p, q', py_dp sr e1 vx, py_dp sr e2 vy, s1, s2, fin⟩
/-- x is None, x is True -/
def isD (x y : Dv) : Option Bool := match x, y with
  | .non, .non => some true
  | .ref _, .non => some false
  | .bl _, .non => some false
  | .int _, .non => some false
  | .str _, .non => some false
  | .tup _, .non => some false
  | .fz _, .non => some false
  | .bl a, .bl b => some (decide (a = b))
  | _, _ => none
def opIs : Op2 := fun x y S => (isD x y).map fun b => (.bl b, S)
def opIsnt : Op2 := fun x y S => (isD x y).map fun b => (.bl (!b), S)
theorem isD_of {K : PySem.W.Frag} {H : Hp} {μ : List Addr} {x y : Dv} {b : Bool} {v u : V} (h : isD x y = some b) (vx : VR K H μ x v) (vy : VR K H μ y u) : (u = .non ∧ b = decide (v = .non)) ∨ ∃ i j, v = .bl i ∧ u = .bl j ∧ b = decide (i = j) := by
  unfold isD at h
  split at h
  · cases h; cases VR_non.mp vx; cases VR_non.mp vy; exact .inl ⟨rfl, rfl⟩
  · cases h; cases VR_non.mp vy; obtain ⟨_, _, rfl⟩ := VR_ref.mp vx; exact .inl ⟨rfl, by simp⟩
  · cases h; cases VR_non.mp vy; cases VR_bl.mp vx; exact .inl ⟨rfl, by simp⟩
  · cases h; cases VR_non.mp vy; cases VR_int.mp vx; exact .inl ⟨rfl, by simp⟩
  · cases h; cases VR_non.mp vy; cases VR_str.mp vx; exact .inl ⟨rfl, by simp⟩
  · cases h; cases VR_non.mp vy; obtain ⟨_, _, rfl, _⟩ := VR_tup.mp vx; exact .inl ⟨rfl, by simp⟩
  · cases h; cases VR_non.mp vy; obtain ⟨_, _, rfl, _⟩ := VR_fz.mp vx; exact .inl ⟨rfl, by simp⟩
  · cases h; cases VR_bl.mp vx; cases VR_bl.mp vy; exact .inr ⟨_, _, rfl, rfl, rfl⟩
  · cases h
theorem ops_is : OpS X C (compareOp .Is) opIs := by
  intro pins s σ H x y v u Q I rx ry h
  obtain ⟨μ, S, dx, dy, sr, vx, vy, q⟩ := h
  obtain ⟨b, e, q⟩ := ofO_map q
  have fin := old_val sr (VR_bl.mpr rfl) q
  rcases isD_of e vx vy with ⟨rfl, rfl⟩ | ⟨i, j, rfl, rfl, rfl⟩
  · exact op_isN pins s σ H _ _ v u Q I rx ry ⟨rfl, fin⟩
  · exact op_isBl pins s σ H _ _ v u Q I rx ry ⟨i, j, rfl, rfl, fin⟩
theorem ops_isnt : OpS X C (compareOp .IsNot) opIsnt := by
  intro pins s σ H x y v u Q I rx ry h
  obtain ⟨μ, S, dx, dy, sr, vx, vy, q⟩ := h
  obtain ⟨b, e, q⟩ := ofO_map q
  have fin := old_val sr (VR_bl.mpr rfl) q
  rcases isD_of e vx vy with ⟨rfl, rfl⟩ | ⟨i, j, rfl, rfl, rfl⟩
  · exact op_notN pins s σ H _ _ v u Q I rx ry ⟨rfl, fin⟩
  · exact op_notBl pins s σ H _ _ v u Q I rx ry ⟨i, j, rfl, rfl, fin⟩
end
end Fc

/-! FcBuilt: subscripts, slices, built-in functions and methods, what loops walk. -/
namespace Fc
open PySem L2

/-- a list or a tuple -/
def seqOf (S : Sto) : Dv → Option (List Dv)
  | .tup ds => some ds
  | d => listOf S d
section
variable {K : PySem.W.Frag} {C : Nat → Addr} {H : Hp} {μ : List Addr} {S : Sto}
theorem seqOf_sq (sr : SR K C μ S H) {d : Dv} {v : V} {ds : List Dv} (e : seqOf S d = some ds) (h : VR K H μ d v) : ∃ a vs, v = .ref a ∧ (SqL K H a vs ∨ SqT K H a vs) ∧ VRs K H μ ds vs := by
  cases d with
  | tup es =>
    cases e
    obtain ⟨a, vs, rfl, h1, h2⟩ := VR_tup.mp h
    exact ⟨a, vs, rfl, .inr h1, h2⟩
  | fz es =>
    obtain ⟨a, vs, e1, h1, h2⟩ := listOf_sq sr (d := .fz es) e h
    exact ⟨a, vs, e1, .inl h1, h2⟩
  | ref n =>
    obtain ⟨a, vs, e1, h1, h2⟩ := listOf_sq sr (d := .ref n) e h
    exact ⟨a, vs, e1, .inl h1, h2⟩
  | _ => cases e
theorem atI_VR {ds : List Dv} {vs : List V} {i : Int} {d : Dv} (h : VRs K H μ ds vs) (e : atI ds i = some d) : ∃ v, atI vs i = some v ∧ VR K H μ d v := by
  unfold atI at e ⊢
  obtain ⟨j, e1, e2⟩ := Option.bind_eq_some_iff.mp e
  obtain ⟨v, h1, h2⟩ := h.get e2
  rw [← h.length, e1]
  exact ⟨v, h1, h2⟩
end

/-! ### x[i] -/
def opIx : Op2 := fun x y S => match y with
  | .int i => match seqOf S x with
    | some ds => match atI ds i with
      | some d => some (d, S)
      | none => none
    | none => none
  | _ => none
section
variable {X : Cx} {C : Nat → Addr} {W : WX} {k : Nat} {e a b : Expr} {es : List Expr} {f g fa fb : DE} {l : DL} {pos p2 p : Pos}
theorem ixs : IxR X (rOp X.K C opIx) := by
  intro value slice pins s σ H x y v u Q I rx ry h hs
  obtain ⟨μ, S, dx, dy, sr, vx, vy, q⟩ := h
  cases dy with
  | int i =>
    simp only [opIx] at q
    split at q
    · rename_i ds e1
      split at q
      · rename_i d e2
        cases VR_int.mp vy
        obtain ⟨p, vs, rfl, hq, h2⟩ := seqOf_sq sr e1 vx
        obtain ⟨z, h3, h4⟩ := atI_VR h2 e2
        refine ix_seq value slice pins s σ H _ _ v u Q I rx ry ?_ hs
        rcases hq with hq | hq
        · exact .inl ⟨p, vs, i, z, rfl, rfl, hq, h3, old_val sr h4 q⟩
        · exact .inr (.inl ⟨p, vs, i, z, rfl, rfl, hq, h3, old_val sr h4 q⟩)
      · exact q.elim
    · exact q.elim
  | _ => exact q.elim
theorem se_ix (ha : SE X C W a fa) (hb : SE X C W b fb) (hs : PlainIx b := by exact fun _ _ => rfl) : SE X C W (.Subscript a b pos) (eOp opIx fa fb) :=
  ⟨pe_imp (pe_ix ixs ha.pe hb.pe hs) fun _ _ _ q => op_go q⟩

/-! ### x[lo:hi] -/
abbrev DO := Ev → Sto → Res (Option Int)
def oNo : DO := fun _ S => .ok none S
def oSo (f : DE) : DO := fun ρ S => (f ρ S).bd fun d S1 => match d with
  | .int i => .ok (some i) S1
  | _ => .stuck
abbrev PO2 : List Addr → Hp → Option Int → Option Int → Prop := fun _ _ a b => a = b
structure SO (X : Cx) (C : Nat → Addr) (W : WX) (e : Option Expr) (f : DO) : Prop where
  po : PO X e (tG X.K C W PO2 f)
theorem po_imp {o : Option Expr} {t t' : TO} (h : PO X o t) (k : ∀ σ H Q, t' σ H Q → t σ H Q) : PO X o t' := ⟨fun pins s σ H Q I q => h.run pins s σ H Q I (k _ _ _ q)⟩
theorem so_no : SO X C W none oNo := ⟨po_imp po_none fun σ H Q ⟨μ, ρ, S, rl, q⟩ => q μ H none Aft.refl rl.sr rfl⟩
theorem so_so (h1 : SE X C W e f) : SO X C W (some e) (oSo f) := by
  refine ⟨po_imp (po_some h1.pe) fun σ H Q q => ?_⟩
  obtain ⟨μ, ρ, S, rl, q⟩ := q
  refine ⟨μ, ρ, S, rl, (tR.bd q).imp fun v H1 q1 => ?_⟩
  obtain ⟨μ1, S1, d, a1, s1, vr, q1⟩ := q1
  cases d with
  | int i => exact ⟨i, VR_int.mp vr, q1 μ1 H1 (some i) Aft.refl s1 rfl⟩
  | _ => exact q1.elim
def cutD (ds : List Dv) (lo hi : Option Int) : List Dv := (ds.drop (HT.sIx ds.length 0 lo)).take (HT.sIx ds.length ds.length hi - HT.sIx ds.length 0 lo)
theorem cut_VR {K : PySem.W.Frag} {H : Hp} {μ : List Addr} {ds : List Dv} {vs : List V} (h : VRs K H μ ds vs) (lo hi : Option Int) : VRs K H μ (cutD ds lo hi) (cutV vs lo hi) := by
  unfold cutD cutV
  rw [h.length]
  exact (h.drop _).take _
def slD (x : Dv) (lo hi : Option Int) (S : Sto) : Option (Dv × Sto) := match x with
  | .tup ds => some (.tup (cutD ds lo hi), S)
  | d => match listOf S d with
    | some ds => some (.ref S.length, S ++ [.lst (cutD ds lo hi)])
    | none => none
theorem cutD_whole (ds : List Dv) (lo hi : Option Int) (h : HT.sIx ds.length 0 lo = 0 ∧ HT.sIx ds.length ds.length hi = ds.length) : cutD ds lo hi = ds := by
  unfold cutD
  rw [h.1, h.2]
  simp
theorem sls : SlR X fun x lo hi H Q => ∃ μ S d, SR X.K C μ S H ∧ VR X.K H μ d x ∧ tR X.K C W0 (PV X.K) (ofO (slD d lo hi S)) μ [] H Q := by
  intro pins s σ H x v vl vu lo hi sl Q I rx hs pl pu h
  obtain ⟨μ, S, d, sr, vr, q⟩ := h
  cases e1 : listOf S d with
  | some ds =>
    have e2 : slD d lo hi S = some (.ref S.length, S ++ [.lst (cutD ds lo hi)]) := by
      cases d with
      | tup _ => cases e1
      | _ => simp only [slD, e1]
    obtain ⟨a, vs, rfl, h1, h2⟩ := listOf_sq sr e1 vr
    rw [e2] at q
    exact sl_list pins s σ H _ v vl vu lo hi sl Q I rx hs pl pu ⟨a, vs, rfl, h1, new_lst sr (cut_VR h2 lo hi) q⟩
  | none =>
    cases d with
    | tup ds =>
      obtain ⟨a, vs, rfl, h1, h2⟩ := VR_tup.mp vr
      refine sl_tupA pins s σ H _ v vl vu lo hi sl Q I rx hs pl pu ⟨a, vs, rfl, h1, fun hw => ?_, fun _ p hp => ?_⟩
      · simp only [slD] at q
        rw [cutD_whole ds lo hi (by rw [h2.length]; exact hw)] at q
        exact old_val sr vr q
      · exact new_tup sr (cut_VR h2 lo hi) q p hp
    | _ =>
      simp only [slD, e1] at q
      exact q.elim
def eSl (f : DE) (lo hi : DO) : DE := fun ρ S => (f ρ S).bd fun d S1 => (lo ρ S1).bd fun a S2 => (hi ρ S2).bd fun b S3 => ofO (slD d a b S3)
theorem se_sl {lo hi : Option Expr} {fl fh : DO} (he : SE X C W e f) (hl : SO X C W lo fl) (hh : SO X C W hi fh) : SE X C W (.Subscript e (.Slice lo hi none p2) pos) (eSl f fl fh) := by
  refine ⟨pe_imp (pe_slice (sls (C := C)) he.pe hl.po hh.po) fun σ H Q q => ?_⟩
  obtain ⟨μ, ρ, S, rl, q⟩ := q
  refine ⟨μ, ρ, S, rl, (tR.bd q).imp fun v H1 q1 => ?_⟩
  obtain ⟨μ1, S1, d, a1, s1, vr, q1⟩ := q1
  refine ⟨μ1, ρ, S1, rl.next a1 s1, (tR.bd q1).imp fun v2 H2 q2 => ?_⟩
  obtain ⟨μ2, S2, d2, a2, s2, e2, q2⟩ := q2
  cases (show d2 = v2 from e2)
  refine ⟨μ2, ρ, S2, (rl.next a1 s1).next a2 s2, (tR.bd q2).imp fun v3 H3 q3 => ?_⟩
  obtain ⟨μ3, S3, d3, a3, s3, e3, q3⟩ := q3
  cases (show d3 = v3 from e3)
  exact ⟨μ3, S3, d, s3, vr.mono (a2.trans a3), tR.ofO q3⟩

/-! ### built-in functions -/
abbrev OpN := List Dv → Sto → Option (Dv × Sto)
def rCall (K : PySem.W.Frag) (C : Nat → Addr) (g : OpN) : List V → Hp → VK → Prop := fun vs H Q => ∃ μ S ds, SR K C μ S H ∧ VRs K H μ ds vs ∧ tR K C W0 (PV K) (ofO (g ds S)) μ [] H Q
abbrev CaS (X : Cx) (C : Nat → Addr) (F : Value) (g : OpN) : Prop := CallR X F (rCall X.K C g)
def eBi (g : OpN) (l : DL) : DE := fun ρ S => (l ρ S).bd fun ds S1 => ofO (g ds S1)
theorem bi_go {gg : OpN} {σ : L2.St} {H : Hp} {Q : VK} (q : tG X.K C W (PV X.K) (eBi gg l) σ H Q) : tCB (rCall X.K C gg) (tG X.K C W (PL X.K) l) σ H Q := by
  obtain ⟨μ, ρ, S, rl, q⟩ := q
  refine ⟨μ, ρ, S, rl, (tR.bd q).imp fun v H1 q1 => ?_⟩
  obtain ⟨μ1, S1, d, a1, s1, vr, q1⟩ := q1
  exact ⟨μ1, S1, d, s1, vr, tR.ofO q1⟩
theorem se_bi {x : Str} {id : String} {gg : OpN} (hc : CaS X C (.builtin id) gg) (hm : X.mg x = none) (hv : bootBuiltins x = some (.builtin id)) (ha : SL X C W (e :: es) l) (hg : Gl X x := by rfl) (hn : x ≠ "__name__" := by decide) (hdb : (x == ("__debug__" : Str)) = false := by decide)
    (he : starEach (e :: es) X.env = (false, eval e X.env) :: starEach es X.env := by rfl) (hpl : (backTo pos (starEach es X.env)).any (·.1) = false := by rfl) : SE X C W (.Call (.Name x p) (e :: es) [] pos) (eBi gg l) :=
  ⟨pe_imp (pe_callB hc hg hm hv ha.pa hn hdb he hpl) fun _ _ _ q => bi_go q⟩
theorem se_ty {x : Str} {T : String} {gg : OpN} (hc : CaS X C (.type T) gg) (hm : X.mg x = none) (hv : bootBuiltins x = some (.type T)) (ha : SL X C W (e :: es) l) (hg : Gl X x := by rfl) (hn : x ≠ "__name__" := by decide) (hdb : (x == ("__debug__" : Str)) = false := by decide)
    (he : starEach (e :: es) X.env = (false, eval e X.env) :: starEach es X.env := by rfl) (hpl : (backTo pos (starEach es X.env)).any (·.1) = false := by rfl) : SE X C W (.Call (.Name x p) (e :: es) [] pos) (eBi gg l) :=
  ⟨pe_imp (pe_callTy hc hg hm hv ha.pa hn hdb he hpl) fun _ _ _ q => bi_go q⟩
def fLen : OpN := fun ds S => match ds with
  | [.str x] => if x.length ≤ lim then some (.int (x.length : Nat), S) else none
  | [d] => match seqOf S d with
    | some es => some (.int (es.length : Nat), S)
    | none => none
  | _ => none
theorem cas_len : CaS X C (.builtin "len") fLen := by
  intro pins s σ H vs us Q I r h
  obtain ⟨μ, S, ds, sr, vr, q⟩ := h
  unfold fLen at q
  split at q
  · rename_i x
    split at q
    · rename_i hl
      obtain ⟨v, t, rfl, h1, h2⟩ := VRs_cons.mp vr
      cases VRs_nil.mp h2
      cases VR_str.mp h1
      exact call_len pins s σ H _ us Q I r ⟨_, x.length, rfl, ⟨Nat.le_trans hl lim_line, rfl⟩, old_val sr (VR_int.mpr rfl) q⟩
    · exact q.elim
  · rename_i d _
    split at q
    · rename_i es e1
      obtain ⟨v, t, rfl, h1, h2⟩ := VRs_cons.mp vr
      cases VRs_nil.mp h2
      obtain ⟨a, ws, rfl, hq, h3⟩ := seqOf_sq sr e1 h1
      refine call_len pins s σ H _ us Q I r ⟨_, ws.length, rfl, ?_, by rw [← h3.length]; exact old_val sr (VR_int.mpr rfl) q⟩
      rcases hq with hq | hq
      · exact .inl ⟨ws, hq, rfl⟩
      · exact .inr ⟨ws, hq, rfl⟩
    · exact q.elim
  · exact q.elim
def fAbs : OpN := fun ds S => match ds with
  | [.int i] => some (.int (if i < 0 then -i else i), S)
  | _ => none
theorem cas_abs : CaS X C (.builtin "abs") fAbs := by
  intro pins s σ H vs us Q I r h
  obtain ⟨μ, S, ds, sr, vr, q⟩ := h
  unfold fAbs at q
  split at q
  · obtain ⟨v, t, rfl, h1, h2⟩ := VRs_cons.mp vr
    cases VRs_nil.mp h2
    cases VR_int.mp h1
    exact call_abs pins s σ H _ us Q I r ⟨_, rfl, old_val sr (VR_int.mpr rfl) q⟩
  · exact q.elim
def fMax2 : OpN := fun ds S => match ds with
  | [.int i, .int j] => some (.int (if j > i then j else i), S)
  | _ => none
def fMin2 : OpN := fun ds S => match ds with
  | [.int i, .int j] => some (.int (if j < i then j else i), S)
  | _ => none
theorem cas_max2 (hc : X.calm = true) : CaS X C (.builtin "max") fMax2 := by
  intro pins s σ H vs us Q I r h
  obtain ⟨μ, S, ds, sr, vr, q⟩ := h
  unfold fMax2 at q
  split at q
  · obtain ⟨v, t, rfl, h1, h2⟩ := VRs_cons.mp vr
    obtain ⟨v2, t2, rfl, h3, h4⟩ := VRs_cons.mp h2
    cases VRs_nil.mp h4
    cases VR_int.mp h1
    cases VR_int.mp h3
    exact call_max2 hc pins s σ H _ us Q I r ⟨_, _, rfl, old_val sr (VR_int.mpr rfl) q⟩
  · exact q.elim
theorem cas_min2 (hc : X.calm = true) : CaS X C (.builtin "min") fMin2 := by
  intro pins s σ H vs us Q I r h
  obtain ⟨μ, S, ds, sr, vr, q⟩ := h
  unfold fMin2 at q
  split at q
  · obtain ⟨v, t, rfl, h1, h2⟩ := VRs_cons.mp vr
    obtain ⟨v2, t2, rfl, h3, h4⟩ := VRs_cons.mp h2
    cases VRs_nil.mp h4
    cases VR_int.mp h1
    cases VR_int.mp h3
    exact call_min2 hc pins s σ H _ us Q I r ⟨_, _, rfl, old_val sr (VR_int.mpr rfl) q⟩
  · exact q.elim
def fInt : OpN := fun ds S => match ds with
  | [.int i] => some (.int i, S)
  | [.bl b] => some (.int (if b then 1 else 0), S)
  | _ => none
theorem cas_int : CaS X C (.type "int") fInt := by
  intro pins s σ H vs us Q I r h
  obtain ⟨μ, S, ds, sr, vr, q⟩ := h
  unfold fInt at q
  split at q
  · obtain ⟨v, t, rfl, h1, h2⟩ := VRs_cons.mp vr
    cases VRs_nil.mp h2
    cases VR_int.mp h1
    exact call_int1 pins s σ H _ us Q I r (.inl ⟨_, rfl, old_val sr (VR_int.mpr rfl) q⟩)
  · obtain ⟨v, t, rfl, h1, h2⟩ := VRs_cons.mp vr
    cases VRs_nil.mp h2
    cases VR_bl.mp h1
    exact call_int1 pins s σ H _ us Q I r (.inr ⟨_, rfl, old_val sr (VR_int.mpr rfl) q⟩)
  · exact q.elim
/-! lists of ints, of bools -/
def intsOf : List Dv → Option (List Int)
  | [] => some []
  | .int i :: ds => (intsOf ds).map (i :: ·)
  | _ => none
theorem intsOf_eq : ∀ {ds : List Dv} {ns : List Int}, intsOf ds = some ns → ds = ns.map Dv.int
  | [], _, e => by cases e; rfl
  | .int i :: ds, _, e => by
    simp only [intsOf, Option.map_eq_some_iff] at e
    obtain ⟨ns, e1, rfl⟩ := e
    rw [intsOf_eq e1]
    rfl
  | .non :: _, _, e => by simp [intsOf] at e
  | .bl _ :: _, _, e => by simp [intsOf] at e
  | .str _ :: _, _, e => by simp [intsOf] at e
  | .tup _ :: _, _, e => by simp [intsOf] at e
  | .fz _ :: _, _, e => by simp [intsOf] at e
  | .ref _ :: _, _, e => by simp [intsOf] at e
@[simp] theorem intsOf_map : ∀ ns : List Int, intsOf (ns.map Dv.int) = some ns
  | [] => rfl
  | n :: ns => by simp [intsOf, intsOf_map ns]
def blsOf : List Dv → Option (List Bool)
  | [] => some []
  | .bl i :: ds => (blsOf ds).map (i :: ·)
  | _ => none
theorem blsOf_eq : ∀ {ds : List Dv} {ns : List Bool}, blsOf ds = some ns → ds = ns.map Dv.bl
  | [], _, e => by cases e; rfl
  | .bl i :: ds, _, e => by
    simp only [blsOf, Option.map_eq_some_iff] at e
    obtain ⟨ns, e1, rfl⟩ := e
    rw [blsOf_eq e1]
    rfl
  | .non :: _, _, e => by simp [blsOf] at e
  | .int _ :: _, _, e => by simp [blsOf] at e
  | .str _ :: _, _, e => by simp [blsOf] at e
  | .tup _ :: _, _, e => by simp [blsOf] at e
  | .fz _ :: _, _, e => by simp [blsOf] at e
  | .ref _ :: _, _, e => by simp [blsOf] at e
@[simp] theorem blsOf_map : ∀ ns : List Bool, blsOf (ns.map Dv.bl) = some ns
  | [] => rfl
  | n :: ns => by simp [blsOf, blsOf_map ns]
theorem VRs_bls {K : PySem.W.Frag} {H : Hp} {μ : List Addr} : ∀ {ns : List Bool} {vs : List V}, VRs K H μ (ns.map Dv.bl) vs ↔ vs = ns.map V.bl
  | [], _ => by simp [VRs_nil]
  | n :: ns, vs => by
    rw [List.map_cons, List.map_cons, VRs_cons]
    constructor
    · rintro ⟨v, r, rfl, h1, h2⟩
      rw [VR_bl.mp h1, VRs_bls.mp h2]
    · rintro rfl
      exact ⟨_, _, rfl, VR_bl.mpr rfl, VRs_bls.mpr rfl⟩
def fAll : OpN := fun ds S => match ds with
  | [d] => match listOf S d with
    | some es => match blsOf es with
      | some bs => some (.bl (bs.all id), S)
      | none => none
    | none => none
  | _ => none
def fAny : OpN := fun ds S => match ds with
  | [d] => match listOf S d with
    | some es => match blsOf es with
      | some bs => some (.bl (bs.any id), S)
      | none => none
    | none => none
  | _ => none
def fSum : OpN := fun ds S => match ds with
  | [d] => match listOf S d with
    | some es => match intsOf es with
      | some ns => some (.int ns.sum, S)
      | none => none
    | none => none
  | _ => none
theorem cas_all (hc : X.calm = true) : CaS X C (.builtin "all") fAll := by
  intro pins s σ H vs us Q I r h
  obtain ⟨μ, S, ds, sr, vr, q⟩ := h
  unfold fAll at q
  split at q
  · split at q
    · rename_i es e1
      split at q
      · rename_i bs e2
        obtain ⟨v, t, rfl, h1, h2⟩ := VRs_cons.mp vr
        cases VRs_nil.mp h2
        obtain ⟨a, ws, rfl, hq, h3⟩ := listOf_sq sr e1 h1
        rw [blsOf_eq e2] at h3
        cases VRs_bls.mp h3
        exact cr_all hc pins s σ H _ us Q I r ⟨a, bs, rfl, hq, old_val sr (VR_bl.mpr rfl) q⟩
      · exact q.elim
    · exact q.elim
  · exact q.elim
theorem cas_any (hc : X.calm = true) : CaS X C (.builtin "any") fAny := by
  intro pins s σ H vs us Q I r h
  obtain ⟨μ, S, ds, sr, vr, q⟩ := h
  unfold fAny at q
  split at q
  · split at q
    · rename_i es e1
      split at q
      · rename_i bs e2
        obtain ⟨v, t, rfl, h1, h2⟩ := VRs_cons.mp vr
        cases VRs_nil.mp h2
        obtain ⟨a, ws, rfl, hq, h3⟩ := listOf_sq sr e1 h1
        rw [blsOf_eq e2] at h3
        cases VRs_bls.mp h3
        exact cr_any hc pins s σ H _ us Q I r ⟨a, bs, rfl, hq, old_val sr (VR_bl.mpr rfl) q⟩
      · exact q.elim
    · exact q.elim
  · exact q.elim
theorem cas_sum (hc : X.calm = true) : CaS X C (.builtin "sum") fSum := by
  intro pins s σ H vs us Q I r h
  obtain ⟨μ, S, ds, sr, vr, q⟩ := h
  unfold fSum at q
  split at q
  · split at q
    · rename_i es e1
      split at q
      · rename_i bs e2
        obtain ⟨v, t, rfl, h1, h2⟩ := VRs_cons.mp vr
        cases VRs_nil.mp h2
        obtain ⟨a, ws, rfl, hq, h3⟩ := listOf_sq sr e1 h1
        rw [intsOf_eq e2] at h3
        cases VRs.ints.mp h3
        exact cr_sum hc pins s σ H _ us Q I r ⟨a, bs, rfl, hq, old_val sr (VR_int.mpr rfl) q⟩
      · exact q.elim
    · exact q.elim
  · exact q.elim
def insI (n : Int) : List Int → List Int
  | [] => [n]
  | m :: ms => if n ≤ m then n :: m :: ms else m :: insI n ms
def sortI : List Int → List Int
  | [] => []
  | n :: ns => insI n (sortI ns)
theorem insI_perm (n : Int) : ∀ ms : List Int, (insI n ms).Perm (n :: ms)
  | [] => .refl _
  | m :: ms => by
    unfold insI
    split
    · exact .refl _
    · exact ((insI_perm n ms).cons m).trans (.swap n m ms)
theorem sortI_perm : ∀ ns : List Int, (sortI ns).Perm ns
  | [] => .refl _
  | n :: ns => (insI_perm n _).trans ((sortI_perm ns).cons n)
theorem insI_sorted (n : Int) : ∀ ms : List Int, ms.Pairwise (· ≤ ·) → (insI n ms).Pairwise (· ≤ ·)
  | [], _ => by simp [insI]
  | m :: ms, h => by
    unfold insI
    rw [List.pairwise_cons] at h
    split
    · rename_i hle
      refine List.pairwise_cons.mpr ⟨fun x hx => ?_, List.pairwise_cons.mpr h⟩
      rcases List.mem_cons.mp hx with rfl | hx
      · exact hle
      · exact Int.le_trans hle (h.1 x hx)
    · rename_i hle
      refine List.pairwise_cons.mpr ⟨fun x hx => ?_, insI_sorted n ms h.2⟩
      rcases List.mem_cons.mp ((insI_perm n ms).mem_iff.mp hx) with rfl | hx
      · omega
      · exact h.1 x hx
theorem sortI_sorted : ∀ ns : List Int, (sortI ns).Pairwise (· ≤ ·)
  | [] => List.Pairwise.nil
  | n :: ns => insI_sorted n _ (sortI_sorted ns)
theorem sorted_one : ∀ {l m : List Int}, l.Perm m → l.Pairwise (· ≤ ·) → m.Pairwise (· ≤ ·) → l = m
  | [], m, p, _, _ => (List.nil_perm.mp p).symm
  | x :: l, m, p, h1, h2 => by
    cases m with
    | nil => exact absurd p.length_eq (by simp)
    | cons y m =>
      rw [List.pairwise_cons] at h1 h2
      have e : x = y := by
        have a1 : x ∈ y :: m := p.mem_iff.mp List.mem_cons_self
        have a2 : y ∈ x :: l := p.mem_iff.mpr List.mem_cons_self
        rcases List.mem_cons.mp a1 with z | z
        · exact z
        · rcases List.mem_cons.mp a2 with z' | z'
          · exact z'.symm
          · exact Int.le_antisymm (h1.1 _ z') (h2.1 _ z)
      subst e
      rw [sorted_one ((List.perm_cons x).mp p) h1.2 h2.2]
def fSorted : OpN := fun ds S => match ds with
  | [d] => match listOf S d with
    | some es => match intsOf es with
      | some ns => if ns.length < 64 then some (.ref S.length, S ++ [.lst ((sortI ns).map Dv.int)]) else none
      | none => none
    | none => none
  | _ => none
theorem cas_sorted : CaS X C (.builtin "sorted") fSorted := by
  intro pins s σ H vs us Q I r h
  obtain ⟨μ, S, ds, sr, vr, q⟩ := h
  unfold fSorted at q
  split at q
  · split at q
    · rename_i es e1
      split at q
      · rename_i bs e2
        split at q
        · rename_i hl
          obtain ⟨v, t, rfl, h1, h2⟩ := VRs_cons.mp vr
          cases VRs_nil.mp h2
          obtain ⟨a, ws, rfl, hq, h3⟩ := listOf_sq sr e1 h1
          rw [intsOf_eq e2] at h3
          cases VRs.ints.mp h3
          refine cr_sorted pins s σ H _ us Q I r ⟨a, bs, rfl, hq, hl, fun ns' p h4 h5 hp => ?_⟩
          have e3 : ns' = sortI bs := sorted_one (h4.trans (sortI_perm bs).symm) h5 (sortI_sorted bs)
          rw [e3]
          exact new_lst sr (VRs.ints.mpr rfl) q p hp
        · exact q.elim
      · exact q.elim
    · exact q.elim
  · exact q.elim
def fTuple : OpN := fun ds S => match ds with
  | [d] => match seqOf S d with
    | some es => some (.tup es, S)
    | none => none
  | _ => none
theorem cas_tuple : CaS X C (.type "tuple") fTuple := by
  intro pins s σ H vs us Q I r h
  obtain ⟨μ, S, ds, sr, vr, q⟩ := h
  unfold fTuple at q
  split at q
  · split at q
    · rename_i d es e1
      obtain ⟨v, t, rfl, h1, h2⟩ := VRs_cons.mp vr
      cases VRs_nil.mp h2
      obtain ⟨a, ws, rfl, hq, h3⟩ := seqOf_sq sr e1 h1
      refine call_tuple_of pins s σ H _ us Q I r ⟨a, ws, rfl, ?_⟩
      rcases hq with hq | hq
      · exact .inl ⟨hq, new_tup sr h3 q⟩
      · exact .inr ⟨hq, old_val sr (VR_tup.mpr ⟨a, ws, rfl, hq, h3⟩) q⟩
    · exact q.elim
  · exact q.elim
def fList : OpN := fun ds S => match ds with
  | [d] => match seqOf S d with
    | some es => some (.ref S.length, S ++ [.lst es])
    | none => none
  | _ => none
theorem cas_list : CaS X C (.type "list") fList := by
  intro pins s σ H vs us Q I r h
  obtain ⟨μ, S, ds, sr, vr, q⟩ := h
  unfold fList at q
  split at q
  · split at q
    · rename_i d es e1
      obtain ⟨v, t, rfl, h1, h2⟩ := VRs_cons.mp vr
      cases VRs_nil.mp h2
      obtain ⟨a, ws, rfl, hq, h3⟩ := seqOf_sq sr e1 h1
      exact call_list_of pins s σ H _ us Q I r ⟨a, ws, rfl, hq, new_lst sr h3 q⟩
    · exact q.elim
  · exact q.elim
/-! repr -/
def fRepr : OpN := fun ds S => match ds with
  | [d] => match d.py S with
    | some p => if SeqAt.shaped p && PyData.showable p && decide (p.shown.length ≤ lim) then some (.str p.shown, S) else none
    | none => none
  | _ => none
theorem cas_repr (hg : X.A.guards = some []) (hu : X.A.units + 100 < cLine) : CaS X C (.builtin "repr") fRepr := by
  intro pins s σ H vs us Q I r h
  obtain ⟨μ, S, ds, sr, vr, q⟩ := h
  unfold fRepr at q
  split at q
  · split at q
    · rename_i d p e1
      split at q
      · rename_i hc
        simp only [Bool.and_eq_true, decide_eq_true_eq] at hc
        obtain ⟨⟨hsh, hsw⟩, hlen⟩ := hc
        obtain ⟨v, t, rfl, h1, h2⟩ := VRs_cons.mp vr
        cases VRs_nil.mp h2
        obtain ⟨u, rfl, ru⟩ := Vals.one r
        obtain ⟨as, rd⟩ := Dp.reads I p v u (py_dp sr e1 h1) ru
        have fin : ∀ (h' : Heap) (w : Tok) (tk : Nat), (∀ b o, s.heap.get? b = some o → h'.get? b = some o) → EP X pins σ Q (.str p.shown w) { s with heap := h', toks := tk } := fun h' w tk kk =>
          ⟨.str p.shown, H, I.kept kk, ⟨w, rfl⟩, old_val sr (VR_str.mpr rfl) q⟩
        have hd := SeqAt.depth_of_shaped hsh
        have tight : p.shown.length ≤ sizeLine := Nat.le_trans hlen lim_line
        cases p with
        | none => cases rd; exact P.repr_of_none (fin _ _ _ fun _ _ z => z)
        | bool b => cases rd; exact P.repr_of_bool (fin _ _ _ fun _ _ z => z)
        | int i =>
          cases rd
          exact P.repr_of_int (by simpa [PyData.showable] using hsw) (fin _ _ _ fun _ _ z => z)
        | str x => cases rd; exact P.repr_of_str (fin _ _ _ fun _ _ z => z) tight
        | list xs =>
          cases rd with
          | list k1 k2 k3 k4 => exact repr_of_reads' (Reads.list k1 k2 k3 k4) hsw (PyData.noDict_hsm (PyData.hasDict_of_canLay _ (SeqAt.canLay_of_shaped hsh))) hg (by omega) (fun _ _ z => z) (fun h' w tk kk => fin h' w tk kk) tight
        | tuple xs =>
          cases rd with
          | tuple k1 k2 k3 k4 => exact repr_of_reads' (Reads.tuple k1 k2 k3 k4) hsw (PyData.noDict_hsm (PyData.hasDict_of_canLay _ (SeqAt.canLay_of_shaped hsh))) hg (by omega) (fun _ _ z => z) (fun h' w tk kk => fin h' w tk kk) tight
        | dict kvs => exact absurd (SeqAt.canLay_of_shaped hsh) (by simp [PyData.canLay0])
      · exact q.elim
    · exact q.elim
  · exact q.elim

/-! ### isinstance with a built-in class -/
inductive Ty where
  | non | bl | int | str | tup | lst | dic
  deriving DecidableEq
def Ty.nm : Ty → String
  | .non => "NoneType" | .bl => "bool" | .int => "int" | .str => "str" | .tup => "tuple" | .lst => "list" | .dic => "dict"
def isT (a b : Ty) : Bool := decide (a = b) || (decide (a = .bl) && decide (b = .int))
theorem isT_kit {K : PySem.W.Frag} {a b : Ty} (hb : b ≠ .non) : PySem.W.kitOne K (.type a.nm) (.type b.nm) = some (isT a b) := by
  cases a <;> cases b <;> first | exact absurd rfl hb | exact kit_ty (by decide +kernel)
def tyD (S : Sto) : Dv → Option Ty
  | .non => some .non
  | .bl _ => some .bl
  | .int _ => some .int
  | .str _ => some .str
  | .tup _ => some .tup
  | .fz _ => some .lst
  | .ref n => match S[n]? with
    | some (.lst _) => some .lst
    | some (.dic _) => some .dic
    | some (.ldic _) => some .dic
    | _ => none
theorem tyD_x {K : PySem.W.Frag} {H : Hp} {μ : List Addr} {S : Sto} (sr : SR K C μ S H) {d : Dv} {v : V} {t : Ty} (e : tyD S d = some t) (h : VR K H μ d v) : TyX K H v (.type t.nm) := by
  cases d with
  | non => cases e; cases VR_non.mp h; exact .base .non
  | bl b => cases e; cases VR_bl.mp h; exact .base (.bl b)
  | int b => cases e; cases VR_int.mp h; exact .base (.int b)
  | str b => cases e; cases VR_str.mp h; exact .base (.str b)
  | tup ds =>
    cases e
    obtain ⟨a, vs, rfl, h1, _⟩ := VR_tup.mp h
    rcases h1 with (h1 | ⟨o, h1⟩) | ⟨o, its, n, h1, h2, _⟩
    · exact .base (.tup h1)
    · exact .fTuple h1
    · exact .kTuple h1 h2
  | fz ds =>
    cases e
    obtain ⟨a, vs, rfl, h1, _⟩ := VR_fz.mp h
    rcases h1 with ⟨o, h1⟩ | h1
    · exact .base (.frz h1)
    · rcases h1 with (h1 | ⟨o, h1⟩) | ⟨o, its, n, h1, h2, _⟩
      · cases h1
      · cases h1
      · exact .kList h1 h2
  | ref n =>
    obtain ⟨a, ha, rfl⟩ := VR_ref.mp h
    simp only [tyD] at e
    split at e
    · rename_i ds e1
      cases e
      obtain ⟨ho, e3, vs, rfl, _⟩ := sr.ob n _ a e1 ha
      exact .base (.lst e3)
    · rename_i ds e1
      cases e
      obtain ⟨ho, e3, vs, rfl, _⟩ := sr.ob n _ a e1 ha
      exact .base (.dK e3)
    · rename_i ds e1
      cases e
      obtain ⟨ho, e3, o, vs, rfl, _⟩ := sr.ob n _ a e1 ha
      exact .fDict e3
    · cases e
def eIsi (T : Ty) (f : DE) : DE := fun ρ S => (f ρ S).bd fun d S1 => match tyD S1 d with
  | some t => .ok (.bl (isT t T)) S1
  | none => .stuck
theorem se_isi (T : Ty) {x : Str} {px : Pos} (ha : SE X C W e f) (hm : X.mg "isinstance" = none) (hmT : X.mg x = none) (hT : T ≠ .non := by decide) (hvT : bootBuiltins x = some (.type T.nm) := by decide +kernel) (hg : Gl X "isinstance" := by rfl) (hgT : Gl X x := by rfl)
    (hn : x ≠ "__name__" := by decide) (hdb : (x == ("__debug__" : Str)) = false := by decide)
    (he : starEach [e, .Name x px] X.env = (false, eval e X.env) :: starEach [.Name x px] X.env := by rfl) (he2 : starEach [.Name x px] X.env = (false, eval (.Name x px) X.env) :: starEach [] X.env := by rfl) (hpl : (backTo pos (starEach [.Name x px] X.env)).any (·.1) = false := by rfl) :
    SE X C W (.Call (.Name "isinstance" p) [e, .Name x px] [] pos) (eIsi T f) := by
  have pT : PE X (.Name x px) (tC (.ty T.nm)) := pe_bltn hgT hmT hvT rfl hn hdb
  refine ⟨pe_imp (pe_callB call_isi hg hm PyProof.Rows.boot_isinstance (pa_cons ha.pe (pa_cons pT pa_nil he2) he) (by decide) (by decide) he hpl) fun σ H Q q => ?_⟩
  obtain ⟨μ, ρ, S, rl, q⟩ := q
  refine ⟨μ, ρ, S, rl, (tR.bd q).imp fun v H1 q1 => ?_⟩
  obtain ⟨μ1, S1, d, a1, s1, vr, q1⟩ := q1
  cases e1 : tyD S1 d with
  | none => rw [e1] at q1; exact q1.elim
  | some t =>
    rw [e1] at q1
    exact ⟨v, .ty T.nm, .type t.nm, .type T.nm, isT t T, rfl, .ty _, tyD_x s1 e1 vr, isT_kit hT, old_val s1 (VR_bl.mpr rfl) q1⟩

/-! ### methods of lists and texts -/
abbrev OpM := Dv → List Dv → Sto → Option (Dv × Sto)
def rMt (K : PySem.W.Frag) (C : Nat → Addr) (g : OpM) : V → List V → Hp → VK → Prop := fun x xs H Q => ∃ μ S d ds, SR K C μ S H ∧ VR K H μ d x ∧ VRs K H μ ds xs ∧ tR K C W0 (PV K) (ofO (g d ds S)) μ [] H Q
abbrev MtS (X : Cx) (C : Nat → Addr) (id : String) (g : OpM) : Prop := MtR X id (rMt X.K C g)
/-- a list's method -/
def eMtL (g : OpM) (f : DE) (l : DL) : DE := fun ρ S => (f ρ S).bd fun d S1 => match listOf S1 d with
  | some _ => (l ρ S1).bd fun ds S2 => ofO (g d ds S2)
  | none => .stuck
theorem se_mtL {name : Str} {id : String} {gg : OpM} {o : Expr} {apos : Pos} (slot : Slot "list" name id) (hty : typeOf (.builtin id) = pure (.type "method_descriptor")) (hm : MtS X C id gg) (ho : SE X C W o f) (ha : SL X C W (e :: es) l)
    (hbase : attributeBase o name X.env (eval o X.env) = eval o X.env := by rfl)
    (hfew : ((backTo pos (starEach (e :: es) X.env)).all (fun x => !x.1) && (backToKw pos (keywordEach [] X.env)).all (fun x => x.1.isSome)
      && decide ((e :: es).length + ([] : List Keyword).length + (if ([] : List Keyword).isEmpty then 0 else 1) < 30)) = true := by rfl)
    (hline : (apos.endLine == pos.line) = true := by rfl) (hs : starEach (e :: es) X.env = (false, eval e X.env) :: starEach es X.env := by rfl) (hplain : (backTo pos (starEach es X.env)).any (·.1) = false := by rfl) :
    SE X C W (.Call (.Attribute o name apos) (e :: es) [] pos) (eMtL gg f l) := by
  refine ⟨pe_imp (pe_bm PySem.F.plainAttrs_list slot hty hm ho.pe ha.pa hbase hfew hline hs hplain) fun σ H Q q => ?_⟩
  obtain ⟨μ, ρ, S, rl, q⟩ := q
  refine ⟨μ, ρ, S, rl, (tR.bd q).imp fun v H1 q1 => ?_⟩
  obtain ⟨μ1, S1, d, a1, s1, vr, q1⟩ := q1
  cases e1 : listOf S1 d with
  | none => rw [e1] at q1; exact q1.elim
  | some ds =>
    rw [e1] at q1
    obtain ⟨a, vs, rfl, h1, h2⟩ := listOf_sq s1 e1 vr
    refine ⟨.inl ⟨rfl, vs, h1⟩, μ1, ρ, S1, rl.next a1 s1, (tR.bd q1).imp fun v2 H2 q2 => ?_⟩
    obtain ⟨μ2, S2, ds2, a2, s2, vr2, q2⟩ := q2
    exact ⟨μ2, S2, d, ds2, s2, vr.mono a2, vr2, tR.ofO q2⟩
def mAppend : OpM := fun d ds S => match d, ds with
  | .ref n, [y] => match S[n]? with
    | some (.lst es) => if es.length < lim then some (.non, S.set n (.lst (es ++ [y]))) else none
    | _ => none
  | _, _ => none
/-- a list of the store is changed -/
theorem put_lst {μ : List Addr} {S : Sto} {H : Hp} {n : Nat} {ad : Addr} {ds : List Dv} {vs : List V} {d : Dv} {v : V} {σ : L2.St} {Q : VK} (sr : SR X.K C μ S H) (ha : μ[n]? = some ad) (vr : VRs X.K H μ ds vs) (vd : VR X.K H μ d v)
    (q : tR X.K C W (PV X.K) (.ok d (S.set n (.lst ds))) μ σ H Q) : Q v (L2.upd H ad (.lst vs)) := by
  have af : Aft X.K μ H μ (L2.upd H ad (.lst vs)) := sr.put_aft ha
  exact q μ _ v af (sr.put (o := .lst ds) ha ⟨vs, rfl, vr.mono af⟩) (vd.mono af)
theorem mts_append : MtS X C "list.append" mAppend := by
  intro pins s σ H x xs v us Q I rx rxs h
  obtain ⟨μ, S, d, ds, sr, vd, vr, q⟩ := h
  unfold mAppend at q
  split at q
  · split at q
    · rename_i es e1
      split at q
      · rename_i hl
        obtain ⟨z, t, rfl, h1, h2⟩ := VRs_cons.mp vr
        cases VRs_nil.mp h2
        obtain ⟨a, vs, rfl, ha, h3, h4⟩ := lst_at sr e1 vd
        exact mt_append pins s σ H _ _ v us Q I rx rxs ⟨a, vs, z, rfl, rfl, h3, by rw [← h4.length]; exact Nat.lt_of_lt_of_le hl lim_line,
          put_lst sr ha (h4.append (VRs_cons.mpr ⟨z, [], rfl, h1, VRs_nil.mpr rfl⟩)) (VR_non.mpr rfl) q⟩
      · exact q.elim
    · exact q.elim
  · exact q.elim
def mExtend : OpM := fun d ds S => match d, ds with
  | .ref n, [.ref m] => match S[n]?, S[m]? with
    | some (.lst es), some (.lst fs) => if es.length + fs.length ≤ lim then some (.non, S.set n (.lst (es ++ fs))) else none
    | _, _ => none
  | _, _ => none
theorem mts_extend : MtS X C "list.extend" mExtend := by
  intro pins s σ H x xs v us Q I rx rxs h
  obtain ⟨μ, S, d, ds, sr, vd, vr, q⟩ := h
  unfold mExtend at q
  split at q
  · split at q
    · rename_i es fs e1 e2
      split at q
      · rename_i hl
        obtain ⟨z, t, rfl, h1, h2⟩ := VRs_cons.mp vr
        cases VRs_nil.mp h2
        obtain ⟨a, vs, rfl, ha, h3, h4⟩ := lst_at sr e1 vd
        obtain ⟨b, ws, rfl, hb, h5, h6⟩ := lst_at sr e2 h1
        exact mt_extend pins s σ H _ _ v us Q I rx rxs ⟨a, b, vs, ws, rfl, rfl, h3, h5, by rw [← h4.length, ← h6.length]; exact Nat.le_trans hl lim_line,
          put_lst sr ha (h4.append h6) (VR_non.mpr rfl) q⟩
      · exact q.elim
    · exact q.elim
  · exact q.elim
def mIndex : OpM := fun d ds S => match ds with
  | [y] => match d.py S, y.py S with
    | some (.list ps), some p => if SeqAt.shaped (.list ps) && SeqAt.shaped p then (match ps.findIdx? (fun z => PyData.eqv z p) with
      | some j => some (.int (j : Nat), S)
      | none => none) else none
    | _, _ => none
  | _ => none
theorem mts_index (hu : X.A.units + 65 < cLine) : MtS X C "list.index" mIndex := by
  intro pins s σ H x xs v us Q I rx rxs h
  obtain ⟨μ, S, d, ds, sr, vd, vr, q⟩ := h
  unfold mIndex at q
  split at q
  · split at q
    · rename_i y _ _ ps p e1 e2
      split at q
      · rename_i hc
        simp only [Bool.and_eq_true] at hc
        split at q
        · rename_i j ej
          obtain ⟨z, t, rfl, h1, h2⟩ := VRs_cons.mp vr
          cases VRs_nil.mp h2
          have D1 := py_dp sr e1 vd
          obtain ⟨a, ex⟩ : ∃ a, x = V.ref a := by cases D1; exact ⟨_, rfl⟩
          subst ex
          rw [List.findIdx?_eq_some_iff_getElem] at ej
          obtain ⟨hj, hz, hno⟩ := ej
          refine mt_indexD hu pins s σ H _ _ v us Q I rx rxs ⟨a, z, p, ps, j, ps[j], rfl, rfl, D1, py_dp sr e2 h1, hc.1, hc.2, List.getElem?_eq_getElem hj, hz, fun m z' hm e => ?_, old_val sr (VR_int.mpr rfl) q⟩
          have hlt : m < ps.length := (List.getElem?_eq_some_iff.mp e).1
          rw [List.getElem?_eq_getElem hlt] at e
          cases e
          simpa using hno m hm
        · exact q.elim
      · exact q.elim
    · exact q.elim
  · exact q.elim

/-! ### x in xs -/
def inD (x y : Dv) (S : Sto) : Option Bool := match x.py S, y.py S with
  | some p, some (.list qs) => if SeqAt.shaped p && SeqAt.shaped (.list qs) then some (qs.any fun z => PyData.eqv z p) else none
  | _, _ => none
def opIn : Op2 := fun x y S => (inD x y S).map fun b => (.bl b, S)
def opNotIn : Op2 := fun x y S => (inD x y S).map fun b => (.bl (!b), S)
theorem inD_of {x y : Dv} {S : Sto} {b : Bool} (h : inD x y S = some b) : ∃ p qs, x.py S = some p ∧ y.py S = some (.list qs) ∧ SeqAt.shaped p = true ∧ SeqAt.shaped (.list qs) = true ∧ b = qs.any fun z => PyData.eqv z p := by
  unfold inD at h
  split at h
  · rename_i p qs e1 e2
    split at h
    · rename_i hc
      simp only [Bool.and_eq_true] at hc
      cases h
      exact ⟨p, qs, e1, e2, hc.1, hc.2, rfl⟩
    · cases h
  · cases h
theorem ops_in (hu : X.A.units + 65 < cLine) : OpS X C (compareOp .In) opIn := by
  intro pins s σ H x y v u Q I rx ry h
  obtain ⟨μ, S, dx, dy, sr, vx, vy, q⟩ := h
  obtain ⟨b, e, q⟩ := ofO_map q
  have fin := old_val sr (VR_bl.mpr rfl) q
  obtain ⟨p, qs, e1, e2, s1, s2, rfl⟩ := inD_of e
  exact op_inD hu pins s σ H _ _ v u Q I rx ry ⟨p, qs, py_dp sr e1 vx, py_dp sr e2 vy, s1, s2, fin⟩
theorem ops_notin (hu : X.A.units + 65 < cLine) : OpS X C (compareOp .NotIn) opNotIn := by
  intro pins s σ H x y v u Q I rx ry h
  obtain ⟨μ, S, dx, dy, sr, vx, vy, q⟩ := h
  obtain ⟨b, e, q⟩ := ofO_map q
  have fin := old_val sr (VR_bl.mpr rfl) q
  obtain ⟨p, qs, e1, e2, s1, s2, rfl⟩ := inD_of e
  exact op_notInD hu pins s σ H _ _ v u Q I rx ry ⟨p, qs, py_dp sr e1 vx, py_dp sr e2 vy, s1, s2, fin⟩

/-! ### xs[i] = v -/
def cStore (fe fo fi : DE) : DS := fun ρ S => toS (fe ρ S) ρ fun d S1 => toS (fo ρ S1) ρ fun o S2 => toS (fi ρ S2) ρ fun i S3 => match o, i with
  | .ref n, .int j => match S3[n]? with
    | some (.lst es) => match ixN es.length j with
      | some m => .ok (.nx ρ) (S3.set n (.lst (es.set m d)))
      | none => .stuck
    | _ => .stuck
  | _, _ => .stuck
theorem ss_store {fo fi : DE} (h1 : SE X C W e f) (ho : SE X C W a fo) (hi : SE X C W b fi) (hs : swapsWithSole [.Subscript a b p2] e pos.line X.env = pure false := by rfl) (hw : swappedStores [.Subscript a b p2] e X.env = pure none := by rfl)
    (hh : (assignEach [.Subscript a b p2] X.env).map (·.2) = [assign (.Subscript a b p2) X.env] := by rfl)
    (ha : ∀ v, assign (.Subscript a b p2) X.env v = (do
      let ov ← holding [v] (eval a X.env)
      let iv ← holding [v, ov] (eval b X.env)
      standAt p2
      holding [v, ov, iv] (setItem ov iv v)
      release [v, ov, iv] []) := by intro _; rfl) : SS X C W (.Assign [.Subscript a b p2] e pos) (cStore f fo fi) := by
  refine ⟨ps_imp (ps_asg h1.pe (pg_sub ho.pe hi.pe set_list ha) hs hw hh) fun D σ H q => ?_⟩
  obtain ⟨μ, ρ, S, rl, q⟩ := q
  refine ⟨μ, ρ, S, rl, (toS_go q rl).imp fun v H1 q1 => ?_⟩
  obtain ⟨μ1, S1, d, a1, s1, vr, q1⟩ := q1
  have rl1 := rl.next a1 s1
  refine ⟨μ1, ρ, S1, rl1, (toS_go q1 rl1).imp fun v2 H2 q2 => ?_⟩
  obtain ⟨μ2, S2, d2, a2, s2, vr2, q2⟩ := q2
  have rl2 := rl1.next a2 s2
  refine ⟨μ2, ρ, S2, rl2, (toS_go q2 rl2).imp fun v3 H3 q3 => ?_⟩
  obtain ⟨μ3, S3, d3, a3, s3, vr3, q3⟩ := q3
  split at q3
  · rename_i n j
    split at q3
    · rename_i es e1
      split at q3
      · rename_i m em
        cases VR_int.mp vr3
        obtain ⟨ad, vs, rfl, ha3, h3, h4⟩ := lst_at s3 e1 (vr2.mono a3)
        have af : Aft X.K μ3 H3 μ3 (L2.upd H3 ad (.lst (vs.set m v))) := s3.put_aft ha3
        refine ⟨ad, vs, j, m, rfl, rfl, h3, by rw [← h4.length]; exact em, q3 μ3 σ _ af ((rl2.next a3 s3).next af (s3.put (o := .lst (es.set m d)) ha3 ⟨_, rfl, ?_⟩))⟩
        exact (h4.mono af).set m ((vr.mono (a2.trans a3)).mono af)
      · exact q3.elim
    · exact q3.elim
  · exact q3.elim

/-! ### what loops walk -/
def itSeq (d : Dv) : Itf := fun S i => (seqOf S d).map fun ds => ds[i]?
def itList (d : Dv) : Itf := fun S i => (listOf S d).map fun ds => ds[i]?
def itRange (lo : Int) (n : Nat) : Itf := fun _ i => some (if i < n then some (.int (lo + i)) else none)
def iSeq (f : DE) : DI := fun ρ S => (f ρ S).bd fun d S1 => match seqOf S1 d with
  | some _ => .ok (itSeq d) S1
  | none => .stuck
/-- a range's bound (not to be worked out by the kernel) -/
noncomputable def rngB (j : Int) : Bool := @decide (-(2 ^ 62) ≤ j ∧ j < 2 ^ 62) (Classical.propDecidable _)
theorem rngB_iff {j : Int} : rngB j = true ↔ -(2 ^ 62) ≤ j ∧ j < 2 ^ 62 := by
  unfold rngB
  exact @decide_eq_true_iff _ (Classical.propDecidable _)
noncomputable def iRange1 (l : DL) : DI := fun ρ S => (l ρ S).bd fun ds S1 => match ds with
  | [.int j] => if rngB j then .ok (itRange 0 j.toNat) S1 else .stuck
  | _ => .stuck
noncomputable def iRange2 (l : DL) : DI := fun ρ S => (l ρ S).bd fun ds S1 => match ds with
  | [.int i, .int j] => if rngB i && rngB j then .ok (itRange i (j - i).toNat) S1 else .stuck
  | _ => .stuck
section
variable {tg : Expr}
theorem jm_range {K : PySem.W.Frag} {μ : List Addr} {H : Hp} (lo : Int) (n : Nat) : Jm K C μ H (itRange lo n) (Itr lo n) := by
  intro μ1 S1 H1 af sr i
  simp only [itRange]
  by_cases h : i < n
  · rw [if_pos h]
    exact ⟨h, fun x H' y => by obtain ⟨rfl, rfl⟩ := y; exact ⟨Aft.refl, sr, VR_int.mpr rfl⟩⟩
  · rw [if_neg h]
    exact Nat.le_of_not_lt h
theorem si_range1 (hm : X.mg "range" = none) (ha : SL X C W [a] l) (hg : Gl X "range" := by rfl) (hs : starEach [a] X.env = [(false, eval a X.env)] := by rfl) : SI X C W tg (.Call (.Name "range" p) [a] [] pos) (iRange1 l) := by
  refine ⟨pi_imp (pi_range1 hg hm ha.pa hs) fun σ H R q => ?_⟩
  obtain ⟨μ, ρ, S, rl, q⟩ := q
  refine ⟨μ, ρ, S, rl, (tR.bd q).imp fun v H1 q1 => ?_⟩
  obtain ⟨μ1, S1, d, a1, s1, vr, q1⟩ := q1
  split at q1
  · rename_i j
    split at q1
    · rename_i hc
      have hc := rngB_iff.mp hc
      obtain ⟨z, t, rfl, h1, h2⟩ := VRs_cons.mp vr
      cases VRs_nil.mp h2
      cases VR_int.mp h1
      exact ⟨j, rfl, hc.1, hc.2, q1 μ1 H1 _ Aft.refl s1 (jm_range 0 _)⟩
    · exact q1.elim
  · exact q1.elim
theorem si_range2 (hm : X.mg "range" = none) (ha : SL X C W [a, b] l) (hg : Gl X "range" := by rfl) (hs : starEach [a, b] X.env = [(false, eval a X.env), (false, eval b X.env)] := by rfl) (hs2 : starEach [b] X.env = [(false, eval b X.env)] := by rfl) :
    SI X C W tg (.Call (.Name "range" p) [a, b] [] pos) (iRange2 l) := by
  refine ⟨pi_imp (pi_range2 hg hm ha.pa hs hs2) fun σ H R q => ?_⟩
  obtain ⟨μ, ρ, S, rl, q⟩ := q
  refine ⟨μ, ρ, S, rl, (tR.bd q).imp fun v H1 q1 => ?_⟩
  obtain ⟨μ1, S1, d, a1, s1, vr, q1⟩ := q1
  split at q1
  · rename_i i j
    split at q1
    · rename_i hc
      rw [Bool.and_eq_true, rngB_iff, rngB_iff] at hc
      obtain ⟨z, t, rfl, h1, h2⟩ := VRs_cons.mp vr
      obtain ⟨z2, t2, rfl, h3, h4⟩ := VRs_cons.mp h2
      cases VRs_nil.mp h4
      cases VR_int.mp h1
      cases VR_int.mp h3
      exact ⟨i, j, rfl, ⟨hc.1.1, hc.1.2, hc.2.1, hc.2.2⟩, q1 μ1 H1 _ Aft.refl s1 (jm_range i _)⟩
    · exact q1.elim
  · exact q1.elim
theorem VR.fixed {K : PySem.W.Frag} {μ μ1 : List Addr} {H H1 : Hp} {d : Dv} {v : V} (h : VR K H μ d v) (af : Aft K μ H μ1 H1) : VR K H1 μ1 d v := h.mono af
theorem sq_at {K : PySem.W.Frag} {H : Hp} {a : Addr} {xs ys : List V} (I : ∀ ys, SqL K H a ys → ys = xs) (h : SqL K H a ys) : ys = xs := I ys h
/-- a list, as it stands at each turn; a tuple -/
theorem jm_list {μ : List Addr} {H : Hp} {d : Dv} {ad : Addr} (vd : VR X.K H μ d (.ref ad)) (hl : ∀ S, seqOf S d = listOf S d) : Jm X.K C μ H (itSeq d) (Itl X.K ad) := by
  intro μ1 S1 H1 af sr i
  simp only [itSeq, hl]
  cases e1 : listOf S1 d with
  | none => trivial
  | some ds =>
    obtain ⟨a', vs, e2, hq, h2⟩ := listOf_sq sr e1 (vd.mono af)
    cases e2
    simp only [Option.map_some]
    cases e3 : ds[i]? with
    | none => exact ⟨vs, hq, by rw [← h2.length]; exact List.getElem?_eq_none_iff.mp e3⟩
    | some z =>
      obtain ⟨v, h3, h4⟩ := h2.get e3
      refine ⟨⟨vs, v, hq, h3⟩, fun x H' y => ?_⟩
      obtain ⟨rfl, y⟩ := y
      have e4 := y vs hq
      rw [h3] at e4
      cases e4
      exact ⟨Aft.refl, sr, h4⟩
theorem jm_tup {μ : List Addr} {H : Hp} {ds : List Dv} {ad : Addr} (vd : VR X.K H μ (.tup ds) (.ref ad)) : Jm X.K C μ H (itSeq (.tup ds)) (Itt X.K ad) := by
  intro μ1 S1 H1 af sr i
  simp only [itSeq, seqOf, Option.map_some]
  obtain ⟨a', vs, e2, hq, h2⟩ := VR_tup.mp (vd.mono af)
  cases e2
  cases e3 : ds[i]? with
  | none => exact ⟨vs, hq, by rw [← h2.length]; exact List.getElem?_eq_none_iff.mp e3⟩
  | some z =>
    obtain ⟨v, h3, h4⟩ := h2.get e3
    refine ⟨⟨vs, v, hq, h3⟩, fun x H' y => ?_⟩
    obtain ⟨rfl, y⟩ := y
    have e4 := y vs hq
    rw [h3] at e4
    cases e4
    exact ⟨Aft.refl, sr, h4⟩
/-- a list or a tuple, whichever the value is -/
theorem si_seq (h1 : SE X C W e f) : SI X C W tg e (iSeq f) := by
  refine ⟨⟨fun pins s σ H R I q => ?_⟩⟩
  obtain ⟨μ, ρ, S, rl, q⟩ := q
  refine thn (h1.pe.run pins s σ H _ I ⟨μ, ρ, S, rl, tR.bd q⟩) fun v s1 hq => ?_
  obtain ⟨x, H1, I1, r1, μ1, S1, d, a1, s1', vr, q1⟩ := hq
  have go : ∀ (J : It), Jm X.K C μ1 H1 (itSeq d) J → seqOf S1 d ≠ none → R J H1 := fun J jm hn => by
    cases e1 : seqOf S1 d with
    | none => exact absurd e1 hn
    | some es => rw [e1] at q1; exact q1 μ1 H1 J Aft.refl s1' jm
  cases e1 : listOf S1 d with
  | some es =>
    have hl : ∀ S, seqOf S d = listOf S d := fun S => by cases d <;> first | rfl | cases e1
    obtain ⟨ad, vs, rfl, hq, h2⟩ := listOf_sq s1' e1 vr
    cases r1
    obtain ⟨its, rv, pp, hz⟩ := I1.list hq
    refine wpAny_pyIter_list pp.isList ?_
    refine ⟨s1.heap.objs.size, [s1.heap.objs.size], _, _, H1, rfl, I1.kept (t' := s1.toks) fun b o e => Heap.get?_push_of_some _ e, turn_list ad _, ⟨_, Heap.get?_push_size _ rfl, rfl, rfl⟩, fun b hb => ?_, go _ (jm_list vr hl) (by rw [hl, e1]; simp)⟩
    have eb : b = s1.heap.objs.size := by simpa using hb
    rw [eb]
    exact I1.fpOk (Nat.le_refl _) (I1.hok.fresh (Nat.le_refl _))
  | none =>
    cases d with
    | tup ds =>
      obtain ⟨ad, vs, rfl, hq, h2⟩ := VR_tup.mp vr
      cases r1
      obtain ⟨its, rv, pp, hz⟩ := I1.tuple hq
      refine wpAny_pyIter_tuple (show s1.heap.IsTuple ad its.toArray from pp) ?_
      refine ⟨s1.heap.objs.size, [s1.heap.objs.size], _, _, H1, rfl, I1.kept (t' := s1.toks) fun b o e => Heap.get?_push_of_some _ e, turn_tuple ad _, ⟨_, Heap.get?_push_size _ rfl, rfl, rfl⟩, fun b hb => ?_, go _ (jm_tup vr) (by simp [seqOf])⟩
      have eb : b = s1.heap.objs.size := by simpa using hb
      rw [eb]
      exact I1.fpOk (Nat.le_refl _) (I1.hok.fresh (Nat.le_refl _))
    | _ =>
      simp only [seqOf, e1] at q1
      exact q1.elim
/-! zip of two lists, of two tuples -/
def itZip (d e : Dv) : Itf := fun S i => match seqOf S d, seqOf S e with
  | some ds, some es => some (match ds[i]?, es[i]? with
    | some x, some y => some (.tup [x, y])
    | _, _ => none)
  | _, _ => none
def isTup : Dv → Bool
  | .tup _ => true
  | _ => false
def iZip (l : DL) : DI := fun ρ S => (l ρ S).bd fun ds S1 => match ds with
  | [d, e] => match seqOf S1 d, seqOf S1 e with
    | some _, some _ => if isTup d = isTup e then .ok (itZip d e) S1 else .stuck
    | _, _ => .stuck
  | _ => .stuck
/-- a pair that a walk makes -/
theorem new_pair {K : PySem.W.Frag} {μ : List Addr} {S : Sto} {H : Hp} {x y : Dv} {v w : V} {T : Addr} (sr : SR K C μ S H) (hT : H T = none) (h1 : VR K H μ x v) (h2 : VR K H μ y w) :
    Aft K μ H μ (L2.upd H T (.tup [v, w])) ∧ SR K C μ S (L2.upd H T (.tup [v, w])) ∧ VR K (L2.upd H T (.tup [v, w])) μ (.tup [x, y]) (.ref T) := by
  have af : Aft K μ H μ (L2.upd H T (.tup [v, w])) := Aft.upd (by rw [hT]; trivial)
  exact ⟨af, sr.lay hT, VR_tup.mpr ⟨T, _, rfl, SqT.of upd_same, VRs_cons.mpr ⟨v, _, rfl, h1.mono af, VRs_cons.mpr ⟨w, _, rfl, h2.mono af, VRs_nil.mpr rfl⟩⟩⟩⟩
theorem seq_notTup {d : Dv} (h : isTup d = false) (S : Sto) : seqOf S d = listOf S d := by
  cases d <;> first | rfl | cases h
theorem jm_zipL {μ : List Addr} {H : Hp} {d e : Dv} {ad bd : Addr} (vd : VR X.K H μ d (.ref ad)) (ve : VR X.K H μ e (.ref bd)) (hd : isTup d = false) (he : isTup e = false) : Jm X.K C μ H (itZip d e) (Itz X.K ad bd) := by
  intro μ1 S1 H1 af sr i
  simp only [itZip, seq_notTup hd, seq_notTup he]
  cases e1 : listOf S1 d with
  | none => trivial
  | some ds =>
    cases e2 : listOf S1 e with
    | none => trivial
    | some es =>
      obtain ⟨a', vs, q1, hq, h2⟩ := listOf_sq sr e1 (vd.mono af)
      cases q1
      obtain ⟨b', ws, q2, hq', h2'⟩ := listOf_sq sr e2 (ve.mono af)
      cases q2
      simp only
      cases e3 : ds[i]? with
      | none => exact ⟨vs, ws, hq, hq', .inl (by rw [← h2.length]; exact List.getElem?_eq_none_iff.mp e3)⟩
      | some x =>
        cases e4 : es[i]? with
        | none => exact ⟨vs, ws, hq, hq', .inr (by rw [← h2'.length]; exact List.getElem?_eq_none_iff.mp e4)⟩
        | some y =>
          obtain ⟨v, h3, h4⟩ := h2.get e3
          obtain ⟨w, h5, h6⟩ := h2'.get e4
          refine ⟨⟨vs, ws, v, w, hq, hq', h3, h5⟩, fun z H' yy => ?_⟩
          obtain ⟨T, x', y', rfl, hT, rfl, g1, g2⟩ := yy
          have g1' := g1 vs hq
          have g2' := g2 ws hq'
          rw [h3] at g1'
          rw [h5] at g2'
          cases g1'
          cases g2'
          exact new_pair sr hT h4 h6
theorem jm_zipT {μ : List Addr} {H : Hp} {ds es : List Dv} {ad bd : Addr} (vd : VR X.K H μ (.tup ds) (.ref ad)) (ve : VR X.K H μ (.tup es) (.ref bd)) : Jm X.K C μ H (itZip (.tup ds) (.tup es)) (RZ.ItzT X.K ad bd) := by
  intro μ1 S1 H1 af sr i
  simp only [itZip, seqOf]
  obtain ⟨a', vs, q1, hq, h2⟩ := VR_tup.mp (vd.mono af)
  cases q1
  obtain ⟨b', ws, q2, hq', h2'⟩ := VR_tup.mp (ve.mono af)
  cases q2
  cases e3 : ds[i]? with
  | none => exact ⟨vs, ws, hq, hq', .inl (by rw [← h2.length]; exact List.getElem?_eq_none_iff.mp e3)⟩
  | some x =>
    cases e4 : es[i]? with
    | none => exact ⟨vs, ws, hq, hq', .inr (by rw [← h2'.length]; exact List.getElem?_eq_none_iff.mp e4)⟩
    | some y =>
      obtain ⟨v, h3, h4⟩ := h2.get e3
      obtain ⟨w, h5, h6⟩ := h2'.get e4
      refine ⟨⟨vs, ws, v, w, hq, hq', h3, h5⟩, fun z H' yy => ?_⟩
      obtain ⟨T, x', y', rfl, hT, rfl, g1, g2⟩ := yy
      have g1' := g1 vs hq
      have g2' := g2 ws hq'
      rw [h3] at g1'
      rw [h5] at g2'
      cases g1'
      cases g2'
      exact new_pair sr hT h4 h6
theorem si_zip {elts : List Expr} {kk : Nat} {tpos : Pos} (hm : X.mg "zip" = none) (ha : SL X C W [a, b] l) (hg : Gl X "zip" := by rfl) (hs : starEach [a, b] X.env = (false, eval a X.env) :: starEach [b] X.env := by rfl) (hpl : (backTo pos (starEach [b] X.env)).any (·.1) = false := by rfl) :
    SI X C W (.Tuple elts kk tpos) (.Call (.Name "zip" p) [a, b] [] pos) (Fc.iZip l) := by
  refine ⟨pi_imp (RZ.pi_zipA hg hm ha.pa hs hpl) fun σ H R q => ?_⟩
  obtain ⟨μ, ρ, S, rl, q⟩ := q
  refine ⟨μ, ρ, S, rl, (tR.bd q).imp fun v H1 q1 => ?_⟩
  obtain ⟨μ1, S1, dl, a1, s1, vr, q1⟩ := q1
  split at q1
  · rename_i d e
    split at q1
    · rename_i ds es e1 e2
      split at q1
      · rename_i hc
        obtain ⟨z, t, rfl, h1, h2⟩ := VRs_cons.mp vr
        obtain ⟨z2, t2, rfl, h3, h4⟩ := VRs_cons.mp h2
        cases VRs_nil.mp h4
        cases hd : isTup d with
        | false =>
          rw [hd] at hc
          obtain ⟨ad, vs, rfl, hq, _⟩ := listOf_sq s1 (by rw [← seq_notTup hd]; exact e1) h1
          obtain ⟨bd, ws, rfl, hq2, _⟩ := listOf_sq s1 (by rw [← seq_notTup hc.symm]; exact e2) h3
          exact ⟨ad, bd, vs, ws, rfl, .inl ⟨hq, hq2, q1 μ1 H1 _ Aft.refl s1 (jm_zipL h1 h3 hd hc.symm)⟩⟩
        | true =>
          rw [hd] at hc
          cases d with
          | tup dd =>
            cases e with
            | tup ee =>
              obtain ⟨ad, vs, rfl, hq, _⟩ := VR_tup.mp h1
              obtain ⟨bd, ws, rfl, hq2, _⟩ := VR_tup.mp h3
              exact ⟨ad, bd, vs, ws, rfl, .inr ⟨hq, hq2, q1 μ1 H1 _ Aft.refl s1 (jm_zipT h1 h3)⟩⟩
            | _ => cases hc
          | _ => cases hd
      · exact q1.elim
    · exact q1.elim
  · exact q1.elim
/-! enumerate of a list -/
def itEnum (d : Dv) : Itf := fun S i => match listOf S d with
  | some ds => some (match ds[i]? with
    | some x => some (.tup [.int (i : Nat), x])
    | none => none)
  | none => none
def iEnumL (l : DL) : DI := fun ρ S => (l ρ S).bd fun ds S1 => match ds with
  | [d] => match listOf S1 d with
    | some _ => .ok (itEnum d) S1
    | none => .stuck
  | _ => .stuck
theorem jm_enum {μ : List Addr} {H : Hp} {d : Dv} {ad : Addr} (vd : VR X.K H μ d (.ref ad)) : Jm X.K C μ H (itEnum d) (Ite X.K ad) := by
  intro μ1 S1 H1 af sr i
  simp only [itEnum]
  cases e1 : listOf S1 d with
  | none => trivial
  | some ds =>
    obtain ⟨a', vs, q1, hq, h2⟩ := listOf_sq sr e1 (vd.mono af)
    cases q1
    simp only
    cases e3 : ds[i]? with
    | none => exact ⟨vs, hq, by rw [← h2.length]; exact List.getElem?_eq_none_iff.mp e3⟩
    | some x =>
      obtain ⟨v, h3, h4⟩ := h2.get e3
      refine ⟨⟨vs, v, hq, h3⟩, fun z H' yy => ?_⟩
      obtain ⟨T, x', rfl, hT, rfl, g1⟩ := yy
      have g1' := g1 vs hq
      rw [h3] at g1'
      cases g1'
      exact new_pair sr hT (VR_int.mpr rfl) h4
theorem si_enumL {elts : List Expr} {kk : Nat} {tpos : Pos} (hm : X.mg "enumerate" = none) (ha : SL X C W [a] l) (hg : Gl X "enumerate" := by rfl) (hs : starEach [a] X.env = [(false, eval a X.env)] := by rfl) :
    SI X C W (.Tuple elts kk tpos) (.Call (.Name "enumerate" p) [a] [] pos) (iEnumL l) := by
  refine ⟨pi_imp (pi_enum hg hm ha.pa hs) fun σ H R q => ?_⟩
  obtain ⟨μ, ρ, S, rl, q⟩ := q
  refine ⟨μ, ρ, S, rl, (tR.bd q).imp fun v H1 q1 => ?_⟩
  obtain ⟨μ1, S1, dl, a1, s1, vr, q1⟩ := q1
  split at q1
  · rename_i d
    split at q1
    · rename_i ds e1
      obtain ⟨z, t, rfl, h1, h2⟩ := VRs_cons.mp vr
      cases VRs_nil.mp h2
      obtain ⟨ad, vs, rfl, hq, _⟩ := listOf_sq s1 e1 h1
      exact ⟨ad, vs, rfl, hq, q1 μ1 H1 _ Aft.refl s1 (jm_enum h1)⟩
    · exact q1.elim
  · exact q1.elim
end
end
end Fc

/-! FcZip: zip of two sequences, each a list or a tuple. -/
namespace Fc
open PySem L2 RZ PySem.Spec PyProof.Rows
def ZSq (p : Bool) (h : Heap) (l : Addr) (xs : Array Value) : Prop := if p then h.IsTuple l xs else h.IsList l xs
def ZIt (p : Bool) (h : Heap) (a l : Addr) (i : Nat) : Prop := if p then h.IsTupleIter a l i else h.IsListIter a l i
theorem ZSq.extBut {p : Bool} {h h' : Heap} {a b xs} (x : ZSq p h a xs) (hs : Heap.ExtBut b h h') (hab : a ≠ b) : ZSq p h' a xs := by
  cases p
  · exact Heap.IsList.extBut x hs hab
  · exact Heap.IsTuple.extBut x hs hab
theorem ZIt.extBut {p : Bool} {h h' : Heap} {a b t i} (x : ZIt p h a t i) (hs : Heap.ExtBut b h h') (hab : a ≠ b) : ZIt p h' a t i := by
  cases p
  · exact Heap.IsListIter.extBut x hs hab
  · exact Heap.IsTupleIter.extBut x hs hab
theorem ZIt.at {p : Bool} {h h' : Heap} {a t i} (x : ZIt p h a t i) (e : ∀ o, h.get? a = some o → h'.get? a = some o) : ZIt p h' a t i := by
  cases p
  · exact Heap.IsListIter.at x e
  · exact Heap.IsTupleIter.at x e
theorem ZIt.obj {p : Bool} {h : Heap} {a t i} (x : ZIt p h a t i) : ∃ o, h.get? a = some o ∧ o.data = .fields #[.ref t, .int i 0] := by
  cases p
  · obtain ⟨o, e, _, d⟩ := x; exact ⟨o, e, d⟩
  · obtain ⟨o, e, _, d⟩ := x; exact ⟨o, e, d⟩
theorem ZIt.lt {p : Bool} {h : Heap} {a t i} (x : ZIt p h a t i) : a < h.objs.size := by
  obtain ⟨o, e, _⟩ := x.obj
  exact Heap.lt_size e
section
variable {prog : Program} {w : World} {A : Around} {E : Value → Shared → Prop} {s : Shared} {p q : Bool}
theorem zit_item {it l : Addr} {i : Nat} {items} {x : Value} {Q : Value → Shared → Prop} (hit : ZIt p s.heap it l i)
    (hl : ZSq p s.heap l items) (hx : items[i]? = some x) (hQ : ∀ h', ZIt p h' it l (i + 1) → Heap.SameBut it s.heap h' → Q x { s with heap := h' }) :
    wpAny (model prog w) A (Builtin.SmallTypes.nextOf (.ref it)) Q E s := by
  cases p
  · exact wpAny_nextOf_list_item hit hl hx hQ
  · exact nextOf_tuple_item hit hl hx hQ
theorem zit_end {it l : Addr} {i : Nat} {items} {Q : Value → Shared → Prop} (hh : A.handled = none) (hit : ZIt p s.heap it l i) (hl : ZSq p s.heap l items) (hx : items[i]? = none)
    (hE : ∀ h' e, Heap.ExtBut it s.heap h' → (∃ o, h'.get? e = some o ∧ o.cls = .type "StopIteration") → E (.ref e) { s with heap := h' }) : wpAny (model prog w) A (Builtin.SmallTypes.nextOf (.ref it)) Q E s := by
  cases p
  · exact wpAny_nextOf_list_end hh hit hl hx hE
  · exact nextOf_tuple_end hh hit hl hx hE
theorem zm_next_item {zz ti to j1 j2 m1 m2 : Addr} {n1 n2 : Nat} {us ws : Array Value} {x y a b : Value} {Q : Value → Shared → Prop} (dd : ZipApart zz ti to j1 j2 m1 m2)
    (gz : IsZip s.heap zz ti to .none) (gti : IsPair s.heap ti (.ref j1) (.ref j2)) (gto : IsPair s.heap to a b)
    (g1 : ZIt p s.heap j1 m1 n1) (g2 : ZIt q s.heap j2 m2 n2) (gl1 : ZSq p s.heap m1 us) (gl2 : ZSq q s.heap m2 ws) (gx : us[n1]? = some x) (gy : ws[n2]? = some y)
    (gQ : ∀ h', IsZip h' zz ti to (rawInt s.heap.objs.size) → IsPair h' to x y → ZIt p h' j1 m1 (n1 + 1) → ZIt q h' j2 m2 (n2 + 1) → IsPair h' s.heap.objs.size x y → h'.objs.size = s.heap.objs.size + 1 →
      (∀ c o, c ≠ zz → c ≠ to → c ≠ j1 → c ≠ j2 → s.heap.get? c = some o → h'.get? c = some o) → Q (.ref s.heap.objs.size) { s with heap := h' }) :
    wpAny (model prog w) A (Builtin.«zip.__next__» ⟨[.ref zz], []⟩) (fun fin s' => ∃ v, fin = .done (.ret v) ∧ Q v s') E s := by
  show wpAny _ _ (field (.ref zz) 2 >>= _) _ _ _
  refine wpAny_bind (wpAny_field gz rfl (x := .bool false) rfl ?_)
  show wpAny _ _ (field (.ref zz) 3 >>= _) _ _ _
  refine wpAny_bind (wpAny_field gz rfl (x := .ref ti) rfl ?_)
  refine wpAny_bind (wpAny_seqItems gti rfl ?_)
  show wpAny _ _ (Builtin.SmallTypes.ownedTupleIsFree (.ref zz) >>= _) _ _ _
  refine wpAny_bind ?_
  unfold Builtin.SmallTypes.ownedTupleIsFree
  refine wpAny_bind (wpAny_field gz rfl (x := .none) rfl (wpAny_pure ?_))
  simp only [if_true]
  refine wpAny_bind (wpAny_rule ?_)
  refine wpAny_bind (wpAny_field gz rfl (x := .ref to) rfl ?_)
  refine wpAny_bind (wpAny_setField_rec gz (by simp) fun h₁ gz₁ hs₁ => ?_)
  replace gz₁ : IsZip h₁ zz ti to .ellipsis := gz₁
  refine wpAny_bind ?_
  simp only [List.zipIdx_cons, List.zipIdx_nil, List.forIn_cons, List.forIn_nil]

  refine wpAny_bind (wpAny_bind (wpAny_onRaise ?_))
  show wpAny _ _ (Builtin.SmallTypes.nextOf (.ref j1) >>= _) _ _ _
  refine wpAny_bind (zit_item (g1.extBut hs₁.extBut dd.i1z) (gl1.extBut hs₁.extBut dd.l1z) gx fun h₂ g1₂ hs₂ => wpAny_pure ?_)
  have gto₂ : IsPair h₂ to a b := hs₂.extBut _ _ dd.TOi1 (hs₁.extBut _ _ dd.TOz gto)
  refine wpAny_bind (wpAny_seqItems gto₂ rfl ?_)
  refine wpAny_bind (wpAny_updateSeq_pair gto₂ fun h₃ gto₃ hs₃ => ?_)
  replace gto₃ : IsPair h₃ to x b := gto₃
  refine wpAny_bind (wpAny_letGo (wpAny_pure ?_))

  refine wpAny_bind (wpAny_bind (wpAny_onRaise ?_))
  show wpAny _ _ (Builtin.SmallTypes.nextOf (.ref j2) >>= _) _ _ _
  refine wpAny_bind (zit_item (((g2.extBut hs₁.extBut dd.i2z).extBut hs₂.extBut dd.i12.symm).extBut hs₃.extBut dd.TOi2.symm)
    (((gl2.extBut hs₁.extBut dd.l2z).extBut hs₂.extBut dd.l2i1).extBut hs₃.extBut dd.l2TO) gy fun h₄ g2₄ hs₄ => wpAny_pure ?_)
  have gto₄ : IsPair h₄ to x b := hs₄.extBut _ _ dd.TOi2 gto₃
  refine wpAny_bind (wpAny_seqItems gto₄ rfl ?_)
  refine wpAny_bind (wpAny_updateSeq_pair gto₄ fun h₅ gto₅ hs₅ => ?_)
  replace gto₅ : IsPair h₅ to x y := gto₅
  refine wpAny_bind (wpAny_letGo (wpAny_pure (wpAny_pure ?_)))

  refine wpAny_bind (wpAny_seqItems gto₅ rfl ?_)
  refine wpAny_bind (wpAny_newTuple ?_)
  have hsz : h₅.objs.size = s.heap.objs.size := by rw [hs₅.1, hs₄.1, hs₃.1, hs₂.1, hs₁.1]
  have gz₅ : IsZip h₅ zz ti to .ellipsis := hs₅.extBut _ _ dd.TOz.symm (hs₄.extBut _ _ dd.i2z.symm (hs₃.extBut _ _ dd.TOz.symm (hs₂.extBut _ _ dd.i1z.symm gz₁)))
  have hk₅ : ∀ c o, c ≠ zz → c ≠ to → c ≠ j1 → c ≠ j2 → s.heap.get? c = some o → h₅.get? c = some o := fun c o c1 c2 c3 c4 e =>
    hs₅.extBut _ _ c2 (hs₄.extBut _ _ c4 (hs₃.extBut _ _ c2 (hs₂.extBut _ _ c3 (hs₁.extBut _ _ c1 e))))
  have g1₅ : ZIt p h₅ j1 m1 (n1 + 1) := ((g1₂.extBut hs₃.extBut dd.TOi1.symm).extBut hs₄.extBut dd.i12).extBut hs₅.extBut dd.TOi1.symm
  have g2₅ : ZIt q h₅ j2 m2 (n2 + 1) := g2₄.extBut hs₅.extBut dd.TOi2.symm
  have hzlt : zz < h₅.objs.size := Heap.lt_size gz₅
  have hTOlt : to < h₅.objs.size := Heap.lt_size gto₅
  have hi1lt : j1 < h₅.objs.size := by exact g1₅.lt
  have hi2lt : j2 < h₅.objs.size := by exact g2₅.lt
  show wpAny _ _ (Builtin.SmallTypes.ownedTupleHandOut (.ref zz) (.ref h₅.objs.size) >>= _) _ _ _
  refine wpAny_bind ?_
  unfold Builtin.SmallTypes.ownedTupleHandOut
  have gz₆ : IsZip (h₅.push { cls := .type "tuple", data := .seq #[x, y] }) zz ti to .ellipsis := Heap.get?_push_of_some _ gz₅
  refine wpAny_bind (wpAny_setField_rec gz₆ (by simp) fun h₇ gz₇ hs₇ => ?_)
  replace gz₇ : IsZip h₇ zz ti to (rawInt h₅.objs.size) := gz₇
  refine wpAny_setField_rec gz₇ (by simp) fun h₈ gz₈ hs₈ => ?_
  replace gz₈ : IsZip h₈ zz ti to (rawInt h₅.objs.size) := gz₈
  have up : ∀ c o, c ≠ zz → h₅.get? c = some o → h₈.get? c = some o := fun c o c1 e => hs₈.extBut _ _ c1 (hs₇.extBut _ _ c1 (Heap.get?_push_of_some _ e))
  have hT₈ : IsPair h₈ h₅.objs.size x y := hs₈.extBut _ _ (Nat.ne_of_gt hzlt) (hs₇.extBut _ _ (Nat.ne_of_gt hzlt) (Heap.get?_push_size _ rfl))
  have hz8 : h₈.objs.size = h₅.objs.size + 1 := by rw [hs₈.1, hs₇.1, Heap.size_push]
  rw [hsz] at gz₈ hT₈ hz8
  refine wpAny_pure ⟨_, rfl, ?_⟩
  show Q (.ref h₅.objs.size) _
  rw [hsz]
  exact gQ h₈ gz₈ (up _ _ dd.TOz gto₅) (g1₅.at fun o e => up _ o dd.i1z e) (g2₅.at fun o e => up _ o dd.i2z e) hT₈ hz8 fun c o c1 c2 c3 c4 e => up c o c1 (hk₅ c o c1 c2 c3 c4 e)

theorem zm_next_end {zz ti to j1 j2 m1 m2 : Addr} {n1 n2 : Nat} {us ws : Array Value} {a b : Value} {Q : Fin → Shared → Prop} (gh : A.handled = none) (dd : ZipApart zz ti to j1 j2 m1 m2)
    (gz : IsZip s.heap zz ti to .none) (gti : IsPair s.heap ti (.ref j1) (.ref j2)) (gto : IsPair s.heap to a b)
    (g1 : ZIt p s.heap j1 m1 n1) (g2 : ZIt q s.heap j2 m2 n2) (gl1 : ZSq p s.heap m1 us) (gl2 : ZSq q s.heap m2 ws) (gend : us[n1]? = none ∨ ws[n2]? = none)
    (gE : ∀ h' e, (∀ c o, c ≠ zz → c ≠ to → c ≠ j1 → c ≠ j2 → s.heap.get? c = some o → h'.get? c = some o) → (∃ o, h'.get? e = some o ∧ o.cls = .type "StopIteration") → E (.ref e) { s with heap := h' }) :
    wpAny (model prog w) A (Builtin.«zip.__next__» ⟨[.ref zz], []⟩) Q E s := by
  show wpAny _ _ (field (.ref zz) 2 >>= _) _ _ _
  refine wpAny_bind (wpAny_field gz rfl (x := .bool false) rfl ?_)
  show wpAny _ _ (field (.ref zz) 3 >>= _) _ _ _
  refine wpAny_bind (wpAny_field gz rfl (x := .ref ti) rfl ?_)
  refine wpAny_bind (wpAny_seqItems gti rfl ?_)
  show wpAny _ _ (Builtin.SmallTypes.ownedTupleIsFree (.ref zz) >>= _) _ _ _
  refine wpAny_bind ?_
  unfold Builtin.SmallTypes.ownedTupleIsFree
  refine wpAny_bind (wpAny_field gz rfl (x := .none) rfl (wpAny_pure ?_))
  simp only [if_true]
  refine wpAny_bind (wpAny_rule ?_)
  refine wpAny_bind (wpAny_field gz rfl (x := .ref to) rfl ?_)
  refine wpAny_bind (wpAny_setField_rec gz (by simp) fun h₁ gz₁ hs₁ => ?_)
  replace gz₁ : IsZip h₁ zz ti to .ellipsis := gz₁
  refine wpAny_bind ?_
  simp only [List.zipIdx_cons, List.zipIdx_nil, List.forIn_cons, List.forIn_nil]
  refine wpAny_bind (wpAny_bind (wpAny_onRaise ?_))
  show wpAny _ _ (Builtin.SmallTypes.nextOf (.ref j1) >>= _) _ _ _
  cases gx : us[n1]? with
  | none =>
    refine wpAny_bind (zit_end gh (g1.extBut hs₁.extBut dd.i1z) (gl1.extBut hs₁.extBut dd.l1z) gx fun h₂ e hs₂ he => ?_)
    obtain ⟨oe, hoe, hce⟩ := he
    have gz₂ : IsZip h₂ zz ti to .ellipsis := hs₂ _ _ dd.i1z.symm gz₁
    have hez : e ≠ zz := fun x => by subst x; rw [gz₂] at hoe; cases hoe; simp at hce
    refine wpAny_setField_rec gz₂ (by simp) fun h₃ _ hs₃ => gE h₃ e (fun c o c1 _ c3 _ x => hs₃.extBut _ _ c1 (hs₂ _ _ c3 (hs₁.extBut _ _ c1 x))) ⟨oe, hs₃.extBut _ _ hez hoe, hce⟩
  | some x =>
    have gy : ws[n2]? = none := by rcases gend with h | h; rw [gx] at h; cases h; exact h
    refine wpAny_bind (zit_item (g1.extBut hs₁.extBut dd.i1z) (gl1.extBut hs₁.extBut dd.l1z) gx fun h₂ g1₂ hs₂ => wpAny_pure ?_)
    have gto₂ : IsPair h₂ to a b := hs₂.extBut _ _ dd.TOi1 (hs₁.extBut _ _ dd.TOz gto)
    refine wpAny_bind (wpAny_seqItems gto₂ rfl ?_)
    refine wpAny_bind (wpAny_updateSeq_pair gto₂ fun h₃ gto₃ hs₃ => ?_)
    refine wpAny_bind (wpAny_letGo (wpAny_pure ?_))
    refine wpAny_bind (wpAny_bind (wpAny_onRaise ?_))
    show wpAny _ _ (Builtin.SmallTypes.nextOf (.ref j2) >>= _) _ _ _
    refine wpAny_bind (zit_end gh (((g2.extBut hs₁.extBut dd.i2z).extBut hs₂.extBut dd.i12.symm).extBut hs₃.extBut dd.TOi2.symm)
      (((gl2.extBut hs₁.extBut dd.l2z).extBut hs₂.extBut dd.l2i1).extBut hs₃.extBut dd.l2TO) gy fun h₄ e hs₄ he => ?_)
    obtain ⟨oe, hoe, hce⟩ := he
    have gz₄ : IsZip h₄ zz ti to .ellipsis := hs₄ _ _ dd.i2z.symm (hs₃.extBut _ _ dd.TOz.symm (hs₂.extBut _ _ dd.i1z.symm gz₁))
    have hez : e ≠ zz := fun x => by subst x; rw [gz₄] at hoe; cases hoe; simp at hce
    refine wpAny_setField_rec gz₄ (by simp) fun h₅ _ hs₅ => gE h₅ e (fun c o c1 c2 c3 c4 x => hs₅.extBut _ _ c1 (hs₄ _ _ c4 (hs₃.extBut _ _ c2 (hs₂.extBut _ _ c3 (hs₁.extBut _ _ c1 x))))) ⟨oe, hs₅.extBut _ _ hez hoe, hce⟩

theorem zm_py_item {zz ti to j1 j2 m1 m2 : Addr} {n1 n2 : Nat} {us ws : Array Value} {x y a b : Value} {Q : Option Value → Shared → Prop} (dd : ZipApart zz ti to j1 j2 m1 m2)
    (gz : IsZip s.heap zz ti to .none) (gti : IsPair s.heap ti (.ref j1) (.ref j2)) (gto : IsPair s.heap to a b)
    (g1 : ZIt p s.heap j1 m1 n1) (g2 : ZIt q s.heap j2 m2 n2) (gl1 : ZSq p s.heap m1 us) (gl2 : ZSq q s.heap m2 ws) (gx : us[n1]? = some x) (gy : ws[n2]? = some y)
    (gQ : ∀ h', IsZip h' zz ti to (rawInt s.heap.objs.size) → IsPair h' to x y → ZIt p h' j1 m1 (n1 + 1) → ZIt q h' j2 m2 (n2 + 1) → IsPair h' s.heap.objs.size x y → h'.objs.size = s.heap.objs.size + 1 →
      (∀ c o, c ≠ zz → c ≠ to → c ≠ j1 → c ≠ j2 → s.heap.get? c = some o → h'.get? c = some o) → Q (some (.ref s.heap.objs.size)) { s with heap := h' }) :
    wpAny (model prog w) A (pyNext (.ref zz)) Q E s := by
  have hT : s.TypeIs (.ref zz) "zip" := ⟨_, gz, rfl⟩
  unfold pyNext
  exact wpAny_bind (wpAny_attempt (wpAny_callSpecial?_slot (name := Str.ofString "__next__") hT F.slot_zip_next
    (wpAny_call_entry F.slot_zip_next hT F.entry_zip_next
      (zm_next_item dd gz gti gto g1 g2 gl1 gl2 gx gy fun h' a1 a2 a3 a4 a5 a6 a7 => wpAny_pure (gQ h' a1 a2 a3 a4 a5 a6 a7)) (F.args_zip_next_1 _))))

theorem zm_py_end {zz ti to j1 j2 m1 m2 : Addr} {n1 n2 : Nat} {us ws : Array Value} {a b : Value} {Q : Option Value → Shared → Prop} (gh : A.handled = none) (dd : ZipApart zz ti to j1 j2 m1 m2)
    (gz : IsZip s.heap zz ti to .none) (gti : IsPair s.heap ti (.ref j1) (.ref j2)) (gto : IsPair s.heap to a b)
    (g1 : ZIt p s.heap j1 m1 n1) (g2 : ZIt q s.heap j2 m2 n2) (gl1 : ZSq p s.heap m1 us) (gl2 : ZSq q s.heap m2 ws) (gend : us[n1]? = none ∨ ws[n2]? = none)
    (gQ : ∀ h', (∀ c o, c ≠ zz → c ≠ to → c ≠ j1 → c ≠ j2 → s.heap.get? c = some o → h'.get? c = some o) → Q none { s with heap := h' }) : wpAny (model prog w) A (pyNext (.ref zz)) Q E s := by
  have hT : s.TypeIs (.ref zz) "zip" := ⟨_, gz, rfl⟩
  unfold pyNext
  refine wpAny_bind (wpAny_attempt (wpAny_callSpecial?_slot (name := Str.ofString "__next__") hT F.slot_zip_next
    (wpAny_call_entry F.slot_zip_next hT F.entry_zip_next (zm_next_end gh dd gz gti gto g1 g2 gl1 gl2 gend fun h' e hk he => ?_) (F.args_zip_next_1 _))))
  obtain ⟨o, ho, hc⟩ := he
  refine wpAny_bind (wpAny_isInstance (T := "StopIteration") (b := true) ⟨o, ho, hc⟩ isSubtype_stop ?_)
  exact wpAny_pure (gQ _ hk)
def icls (p : Bool) : String := if p then "tuple_iterator" else "list_iterator"
abbrev zmA (p : Bool) (h : Heap) (a : Addr) : Heap := h.push { cls := .type (icls p), data := .fields #[.ref a, .int 0 0] }
abbrev zmB (p q : Bool) (h : Heap) (a b : Addr) : Heap := (zmA p h a).push { cls := .type (icls q), data := .fields #[.ref b, .int 0 0] }
abbrev zmC (p q : Bool) (h : Heap) (a b : Addr) : Heap := (zmB p q h a b).push { cls := .type "tuple", data := .seq #[.ref h.objs.size, .ref (zmA p h a).objs.size] }
abbrev zmD (p q : Bool) (h : Heap) (a b : Addr) : Heap := (zmC p q h a b).push { cls := .type "tuple", data := .seq #[.none, .none] }
abbrev zmE (p q : Bool) (h : Heap) (a b : Addr) : Heap := (zmD p q h a b).push { cls := .type "zip", data := .fields #[.none, .bool false, .bool false, .ref (zmB p q h a b).objs.size, .ref (zmC p q h a b).objs.size] }
theorem meets_lt (a b : Addr) (us ws : Array Value) : Meets (Builtin.«zip.__new__» ⟨[.type "zip", .ref a, .ref b], []⟩) (fun _ R s => ZSq false s.heap a us ∧ ZSq true s.heap b ws ∧
      R (.ok (.ret (.ref (zmD false true s.heap a b).objs.size))) { s with heap := zmE false true s.heap a b }) :=
  .of_wp fun prog w A R s h => by
    obtain ⟨hp, g, d, tk, os⟩ := s
    obtain ⟨ha, hb, h⟩ := h
    have hsub := sub_zip
    have la : Heap.IsList (Shared.heap ⟨hp, g, d, tk, os⟩) a us := ha
    have lb : Heap.IsTuple (Shared.heap ⟨hp.push { cls := .type "list_iterator", data := .fields #[.ref a, .int 0 0] }, g, d, tk, os⟩) b ws := Heap.IsTuple.push hb _
    wp_walk using wpAny_pyIter_list la, wpAny_pyIter_tuple lb
    exact ⟨_, rfl, h⟩
theorem meets_tl (a b : Addr) (us ws : Array Value) : Meets (Builtin.«zip.__new__» ⟨[.type "zip", .ref a, .ref b], []⟩) (fun _ R s => ZSq true s.heap a us ∧ ZSq false s.heap b ws ∧
      R (.ok (.ret (.ref (zmD true false s.heap a b).objs.size))) { s with heap := zmE true false s.heap a b }) :=
  .of_wp fun prog w A R s h => by
    obtain ⟨hp, g, d, tk, os⟩ := s
    obtain ⟨ha, hb, h⟩ := h
    have hsub := sub_zip
    have la : Heap.IsTuple (Shared.heap ⟨hp, g, d, tk, os⟩) a us := ha
    have lb : Heap.IsList (Shared.heap ⟨hp.push { cls := .type "tuple_iterator", data := .fields #[.ref a, .int 0 0] }, g, d, tk, os⟩) b ws := Heap.IsList.push hb _
    wp_walk using wpAny_pyIter_tuple la, wpAny_pyIter_list lb
    exact ⟨_, rfl, h⟩
theorem meets_zm (p q : Bool) (a b : Addr) (us ws : Array Value) : Meets (Builtin.«zip.__new__» ⟨[.type "zip", .ref a, .ref b], []⟩) (fun _ R s => ZSq p s.heap a us ∧ ZSq q s.heap b ws ∧
      R (.ok (.ret (.ref (zmD p q s.heap a b).objs.size))) { s with heap := zmE p q s.heap a b }) := by
  cases p
  · cases q
    · exact meets_zip_new a b us ws
    · exact meets_lt a b us ws
  · cases q
    · exact meets_tl a b us ws
    · exact meets_zipT_new a b us ws
theorem ZIt.mk {p : Bool} {h : Heap} {a t : Addr} (e : h.get? a = some { cls := .type (icls p), data := .fields #[.ref t, .int 0 0] }) : ZIt p h a t 0 := by
  cases p
  · exact ⟨_, e, rfl, rfl⟩
  · exact ⟨_, e, rfl, rfl⟩
theorem call_zm {a b : Addr} {us ws : Array Value} {Q : Value → Shared → Prop} (ha : ZSq p s.heap a us) (hb : ZSq q s.heap b ws)
    (h : ∀ h', IsZip h' (s.heap.objs.size + 4) (s.heap.objs.size + 2) (s.heap.objs.size + 3) .none → IsPair h' (s.heap.objs.size + 2) (.ref s.heap.objs.size) (.ref (s.heap.objs.size + 1)) →
      IsPair h' (s.heap.objs.size + 3) .none .none → ZIt p h' s.heap.objs.size a 0 → ZIt q h' (s.heap.objs.size + 1) b 0 → h'.objs.size = s.heap.objs.size + 5 →
      (∀ c o, s.heap.get? c = some o → h'.get? c = some o) → Q (.ref (s.heap.objs.size + 4)) { s with heap := h' }) : wpAny (model prog w) A (call (.type "zip") [.ref a, .ref b]) Q E s := by
  refine callType_new F.called_zip (by decide) (F.typeCall_zip_2 _ _) (F.newCall_zip_2 _ _) (fun obj => F.args_object_init_3 obj _ _) F.entry_zip_new (meets_zm p q a b us ws) ⟨ha, hb, ?_⟩
  have y1 : (zmA p s.heap a).objs.size = s.heap.objs.size + 1 := Heap.size_push ..
  have y2 : (zmB p q s.heap a b).objs.size = s.heap.objs.size + 2 := by rw [Heap.size_push, y1]
  have y3 : (zmC p q s.heap a b).objs.size = s.heap.objs.size + 3 := by rw [Heap.size_push, y2]
  have y4 : (zmD p q s.heap a b).objs.size = s.heap.objs.size + 4 := by rw [Heap.size_push, y3]
  have y5 : (zmE p q s.heap a b).objs.size = s.heap.objs.size + 5 := by rw [Heap.size_push, y4]
  have k5 : (zmE p q s.heap a b).get? (zmD p q s.heap a b).objs.size = some _ := Heap.get?_push_size _ rfl
  have k4 : (zmE p q s.heap a b).get? (zmC p q s.heap a b).objs.size = some _ := Heap.get?_push_of_some _ (Heap.get?_push_size _ rfl)
  have k3 : (zmE p q s.heap a b).get? (zmB p q s.heap a b).objs.size = some _ := Heap.get?_push_of_some _ (Heap.get?_push_of_some _ (Heap.get?_push_size _ rfl))
  have k2 : (zmE p q s.heap a b).get? (zmA p s.heap a).objs.size = some _ := Heap.get?_push_of_some _ (Heap.get?_push_of_some _ (Heap.get?_push_of_some _ (Heap.get?_push_size _ rfl)))
  have k1 : (zmE p q s.heap a b).get? s.heap.objs.size = some _ := Heap.get?_push_of_some _ (Heap.get?_push_of_some _ (Heap.get?_push_of_some _ (Heap.get?_push_of_some _ (Heap.get?_push_size _ rfl))))
  show _ ∧ _
  rw [y2, y3, y4] at k5
  rw [y1, y2] at k3
  rw [y3] at k4
  rw [y1] at k2
  rw [y4]
  exact ⟨⟨_, k5, rfl⟩, h _ k5 k3 k4 (.mk k1) (.mk k2) y5 fun c o x =>
    Heap.get?_push_of_some _ (Heap.get?_push_of_some _ (Heap.get?_push_of_some _ (Heap.get?_push_of_some _ (Heap.get?_push_of_some _ x))))⟩
end
def SqP (p : Bool) (K : PySem.W.Frag) (H : Hp) (a : Addr) (xs : List V) : Prop := if p then SqT K H a xs else SqL K H a xs
section
variable {X : Cx} {pins : List (Addr × Obj)} {σ : L2.St} {H : Hp} {s : Shared} {p : Bool} {a : Addr} {xs ys : List V}
theorem _root_.L2.Inv.sqp (I : Inv X pins σ H s) (h : SqP p X.K H a xs) : ∃ its : List Value, Vals xs its ∧ ZSq p s.heap a its.toArray ∧ xs.length ≤ sizeLine := by
  cases p
  · obtain ⟨its, r, e, z⟩ := I.list h
    exact ⟨its, r, e.isList, z⟩
  · exact I.tuple h
theorem _root_.L2.Inv.sqp_inj (I : Inv X pins σ H s) (h : SqP p X.K H a xs) (h' : SqP p X.K H a ys) : xs = ys := by
  cases p
  · exact I.list_inj h h'
  · exact I.tuple_inj h h'
theorem ZSq.lt {h : Heap} {a : Addr} {us} (x : ZSq p h a us) : a < h.objs.size := by
  cases p
  · obtain ⟨o, e, _⟩ := id x; exact Heap.lt_size e
  · obtain ⟨o, e, _⟩ := id x; exact Heap.lt_size e
end
def ItzG (pa pb : Bool) (K : PySem.W.Frag) (a b : Addr) : It :=
  ⟨fun i H => ∃ (xs ys : List V) (x y : V), SqP pa K H a xs ∧ SqP pb K H b ys ∧ xs[i]? = some x ∧ ys[i]? = some y,
    fun i H v H' => ∃ T x y, v = .ref T ∧ H T = none ∧ H' = upd H T (.tup [x, y]) ∧ (∀ xs, SqP pa K H a xs → xs[i]? = some x) ∧ ∀ ys, SqP pb K H b ys → ys[i]? = some y,
    fun i H => ∃ xs ys : List V, SqP pa K H a xs ∧ SqP pb K H b ys ∧ (xs.length ≤ i ∨ ys.length ≤ i)⟩
theorem turn_zm {pa pb : Bool} {P : Program} {w : World} {K : PySem.W.Frag} {elts : List Expr} {kk : Nat} {tpos : Pos} {a b zz ti to j1 j2 : Addr} (dd : ZipApart zz ti to j1 j2 a b) :
    Turn P w K (.Tuple elts kk tpos) (ItzG pa pb K a b) [zz, ti, to, j1, j2] zz (fun i h => IsZip h zz ti to .none ∧ IsPair h ti (.ref j1) (.ref j2) ∧ (∃ x y, IsPair h to x y) ∧ ZIt pa h j1 a i ∧ ZIt pb h j2 b i) where
  mem := by simp
  obj := fun i h st c hc => by
    obtain ⟨gz, gti, ⟨x, y, gto⟩, hh1, hh2⟩ := st
    obtain ⟨o1, e1, d1⟩ := hh1.obj
    obtain ⟨o2, e2, d2⟩ := hh2.obj
    have e' : c = zz ∨ c = ti ∨ c = to ∨ c = j1 ∨ c = j2 := by simpa using hc
    rcases e' with q | q | q | q | q
    · rw [q]; exact ⟨_, gz, fun v q => nomatch q⟩
    · rw [q]; exact ⟨_, gti, fun v q => nomatch q⟩
    · rw [q]; exact ⟨_, gto, fun v q => nomatch q⟩
    · rw [q]; exact ⟨o1, e1, fun v q => by rw [d1] at q; cases q⟩
    · rw [q]; exact ⟨o2, e2, fun v q => by rw [d2] at q; cases q⟩
  keep := fun i h h' st k => by
    obtain ⟨gz, gti, ⟨x, y, gto⟩, h1, h2⟩ := st
    exact ⟨k zz (by simp) _ gz, k ti (by simp) _ gti, ⟨x, y, k to (by simp) _ gto⟩, h1.at fun o q => k j1 (by simp) o q, h2.at fun o q => k j2 (by simp) o q⟩
  item := by
    intro X hP hw hK hc i pins s σ H E I hf st hg
    subst hP hw hK
    obtain ⟨gz, gti, ⟨x0, y0, gto⟩, h1, h2⟩ := st
    obtain ⟨xs, ys, x, y, gx, gy, hx, hy⟩ := hg
    obtain ⟨ux, rx, p, _⟩ := I.sqp gx
    obtain ⟨uy, ry, py, _⟩ := I.sqp gy
    obtain ⟨u, hu, ru⟩ := rx.get hx
    obtain ⟨u2, hu2, ru2⟩ := ry.get hy
    have hzl : zz < s.heap.objs.size := Heap.lt_size gz
    refine zm_py_item dd gz gti gto h1 h2 p py (x := u) (y := u2) (by simpa using hu) (by simpa using hu2) fun h' z' TO' h1' h2' hT hsz hk => ?_
    refine ⟨_, rfl, wpAny_letOwnedTupleGo_zip (s := { s with heap := h' }) z' fun h'' z'' sb => ?_⟩
    have hT2 : h''.get? s.heap.objs.size = some { cls := .type "tuple", data := .seq #[u, u2] } := (sb.2 _ (Nat.ne_of_gt hzl)).trans hT
    have new : ObjOk X.prog X.w (upd H s.heap.objs.size (.tup [x, y])) h'' s.heap.objs.size (.tup [x, y]) :=
      ⟨by show 2 ≤ sizeLine; decide, [u, u2], .cons ru (.cons ru2 .nil), ⟨_, hT2, rfl, _, rfl⟩⟩
    have I1 : Inv X pins σ (upd H s.heap.objs.size (.tup [x, y])) { s with heap := h'' } :=
      I.turnedNew (t' := s.toks) (ch := [zz, ti, to, j1, j2]) (fun c o hb q => (sb.2 c (fun q' => hb (by simp [q']))).trans (hk c o (fun q' => hb (by simp [q'])) (fun q' => hb (by simp [q'])) (fun q' => hb (by simp [q'])) (fun q' => hb (by simp [q'])) q)) hf (Nat.le_refl _) new
    refine ⟨.ref s.heap.objs.size, _, I1, rfl, ⟨_, x, y, rfl, I.hok.fresh (Nat.le_refl _), rfl, fun l hl => by rw [I.sqp_inj hl gx]; exact hx, fun l hl => by rw [I.sqp_inj hl gy]; exact hy⟩, ⟨z'', ?_, ⟨u, u2, ?_⟩, ?_, ?_⟩, fun c gm => ?_⟩
    · exact (sb.2 _ dd.TIz).trans (hk _ _ dd.TIz dd.TITO dd.TIi1 dd.TIi2 gti)
    · exact (sb.2 _ dd.TOz).trans TO'
    · exact h1'.at fun o q => (sb.2 _ dd.i1z).trans q
    · exact h2'.at fun o q => (sb.2 _ dd.i2z).trans q
    · have hlt : c < s.heap.objs.size := by
        have e' : c = zz ∨ c = ti ∨ c = to ∨ c = j1 ∨ c = j2 := by simpa using gm
        rcases e' with q | q | q | q | q
        · rw [q]; exact hzl
        · rw [q]; exact Heap.lt_size gti
        · rw [q]; exact Heap.lt_size gto
        · rw [q]; exact h1.lt
        · rw [q]; exact h2.lt
      rw [upd_ne (Nat.ne_of_lt hlt)]
      exact (hf c gm).1
  done := by
    intro X hP hw hK hc i pins s σ H E I hf st hg
    subst hP hw hK
    obtain ⟨gz, gti, ⟨x0, y0, gto⟩, h1, h2⟩ := st
    obtain ⟨xs, ys, gx, gy, hend⟩ := hg
    obtain ⟨ux, rx, p, _⟩ := I.sqp gx
    obtain ⟨uy, ry, py, _⟩ := I.sqp gy
    have l1 := rx.length
    have l2 := ry.length
    have he : ux.toArray[i]? = none ∨ uy.toArray[i]? = none := by
      rcases hend with q | q
      · exact .inl (by simp; omega)
      · exact .inr (by simp; omega)
    exact zm_py_end (I.ok.hd hc) dd gz gti gto h1 h2 p py he fun h' hk => ⟨rfl, I.turnedL (t' := s.toks) (ch := [zz, ti, to, j1, j2]) (fun c o hb q =>
      hk c o (fun q' => hb (by simp [q'])) (fun q' => hb (by simp [q'])) (fun q' => hb (by simp [q'])) (fun q' => hb (by simp [q'])) q) hf⟩
  self := fun A i s Q E st h => wpAny_pyIter_zip st.1 h

def iZm (K : PySem.W.Frag) (ta : TA) : TI := fun σ H R => ta σ H fun vs H1 => ∃ pa pb a b xs ys, vs = [.ref a, .ref b] ∧ SqP pa K H1 a xs ∧ SqP pb K H1 b ys ∧ R (ItzG pa pb K a b) H1
theorem pi_zm {X : Cx} {e e2 : Expr} {ta : TA} {p pos tpos : Pos} {elts : List Expr} {kk : Nat} (hg : Gl X "zip") (hm : X.mg "zip" = none) (ha : PA X [e, e2] ta)
    (hs : starEach [e, e2] X.env = (false, eval e X.env) :: starEach [e2] X.env := by rfl) (hpl : (backTo pos (starEach [e2] X.env)).any (·.1) = false := by rfl) : PI X (.Tuple elts kk tpos) (.Call (.Name "zip" p) [e, e2] [] pos) (iZm X.K ta) := by
  refine ⟨fun pins s σ H R I h => ?_⟩
  refine Call_ (ld_blt I hg hm PyProof.Rows.boot_zip (PyProof.Rows.callWith_type1 (thn (ha.run pos pins s σ H _ I h) fun us t ⟨vs, H1, I1, r1, q1⟩ => ?_) hs hpl))
  obtain ⟨pa, pb, a, b, xs, ys, rfl, gx, gy, q⟩ := q1
  cases r1 with
  | cons r rr =>
    cases rr with
    | cons r' rr =>
      cases rr
      cases r
      cases r'
      have new5 : ∀ c, c ∈ [t.heap.objs.size + 4, t.heap.objs.size + 2, t.heap.objs.size + 3, t.heap.objs.size, t.heap.objs.size + 1] → FpOk X pins H1 c := fun c gm => by
        have hle : t.heap.objs.size ≤ c := by
          simp only [List.mem_cons, List.not_mem_nil, or_false] at gm
          rcases gm with e | e | e | e | e <;> rw [e] <;> omega
        exact I1.fpOk hle (I1.hok.fresh hle)
      obtain ⟨ux, rx, px, _⟩ := I1.sqp gx
      obtain ⟨uy, ry, py, _⟩ := I1.sqp gy
      refine call_zm px py fun h' gz gti gto h1 h2 hsz hk => wpAny_pyIter_zip gz ?_
      have I2 : Inv X pins σ H1 { t with heap := h' } := I1.kept (t' := t.toks) hk
      exact ⟨t.heap.objs.size + 4, [t.heap.objs.size + 4, t.heap.objs.size + 2, t.heap.objs.size + 3, t.heap.objs.size, t.heap.objs.size + 1], _, _, H1, rfl, I2, turn_zm (PySem.W.ktu_apart t.heap.objs.size a b px.lt py.lt), ⟨gz, gti, ⟨_, _, gto⟩, h1, h2⟩, new5, q⟩
section
variable {X : Cx} {C : Nat → Addr} {W : WX} {a b : Expr} {l : DL} {p pos : Pos}
/-- zip of any two sequences -/
def iZ (l : DL) : DI := fun ρ S => (l ρ S).bd fun ds S1 => match ds with
  | [d, e] => match seqOf S1 d, seqOf S1 e with
    | some _, some _ => .ok (itZip d e) S1
    | _, _ => .stuck
  | _ => .stuck
theorem seq_sqp {K : PySem.W.Frag} {H : Hp} {μ : List Addr} {S : Sto} (sr : SR K C μ S H) {d : Dv} {v : V} {ds : List Dv} (e : seqOf S d = some ds) (h : VR K H μ d v) : ∃ a vs, v = .ref a ∧ SqP (isTup d) K H a vs ∧ VRs K H μ ds vs := by
  cases d with
  | tup es =>
    cases e
    obtain ⟨a, vs, rfl, h1, h2⟩ := VR_tup.mp h
    exact ⟨a, vs, rfl, h1, h2⟩
  | fz es =>
    obtain ⟨a, vs, rfl, h1, h2⟩ := listOf_sq (d := .fz es) sr e h
    exact ⟨a, vs, rfl, h1, h2⟩
  | ref n =>
    obtain ⟨a, vs, rfl, h1, h2⟩ := listOf_sq (d := .ref n) sr e h
    exact ⟨a, vs, rfl, h1, h2⟩
  | _ => cases e
theorem jm_zm {μ : List Addr} {H : Hp} {d e : Dv} {ad bd : Addr} (vd : VR X.K H μ d (.ref ad)) (ve : VR X.K H μ e (.ref bd)) : Jm X.K C μ H (itZip d e) (ItzG (isTup d) (isTup e) X.K ad bd) := by
  intro μ1 S1 H1 af sr i
  simp only [itZip]
  cases e1 : seqOf S1 d with
  | none => trivial
  | some ds =>
    cases e2 : seqOf S1 e with
    | none => trivial
    | some es =>
      obtain ⟨a', vs, q1, hq, h2⟩ := seq_sqp sr e1 (vd.mono af)
      cases q1
      obtain ⟨b', ws, q2, hq', h2'⟩ := seq_sqp sr e2 (ve.mono af)
      cases q2
      simp only
      cases e3 : ds[i]? with
      | none => exact ⟨vs, ws, hq, hq', .inl (by rw [← h2.length]; exact List.getElem?_eq_none_iff.mp e3)⟩
      | some x =>
        cases e4 : es[i]? with
        | none => exact ⟨vs, ws, hq, hq', .inr (by rw [← h2'.length]; exact List.getElem?_eq_none_iff.mp e4)⟩
        | some y =>
          obtain ⟨v, h3, h4⟩ := h2.get e3
          obtain ⟨w, h5, h6⟩ := h2'.get e4
          refine ⟨⟨vs, ws, v, w, hq, hq', h3, h5⟩, fun z H' yy => ?_⟩
          obtain ⟨T, x', y', rfl, hT, rfl, g1, g2⟩ := yy
          have g1' := g1 vs hq
          have g2' := g2 ws hq'
          rw [h3] at g1'
          rw [h5] at g2'
          cases g1'
          cases g2'
          exact new_pair sr hT h4 h6
theorem si_z {elts : List Expr} {kk : Nat} {tpos : Pos} (hm : X.mg "zip" = none) (ha : SL X C W [a, b] l) (hg : Gl X "zip" := by rfl) (hs : starEach [a, b] X.env = (false, eval a X.env) :: starEach [b] X.env := by rfl) (hpl : (backTo pos (starEach [b] X.env)).any (·.1) = false := by rfl) :
    SI X C W (.Tuple elts kk tpos) (.Call (.Name "zip" p) [a, b] [] pos) (iZ l) := by
  refine ⟨pi_imp (pi_zm hg hm ha.pa hs hpl) fun σ H R q => ?_⟩
  obtain ⟨μ, ρ, S, rl, q⟩ := q
  refine ⟨μ, ρ, S, rl, (tR.bd q).imp fun v H1 q1 => ?_⟩
  obtain ⟨μ1, S1, dl, a1, s1, vr, q1⟩ := q1
  split at q1
  · rename_i d e
    split at q1
    · rename_i ds es e1 e2
      obtain ⟨z, t, rfl, h1, h2⟩ := VRs_cons.mp vr
      obtain ⟨z2, t2, rfl, h3, h4⟩ := VRs_cons.mp h2
      cases VRs_nil.mp h4
      obtain ⟨ad, vs, rfl, hq, _⟩ := seq_sqp s1 e1 h1
      obtain ⟨bd, ws, rfl, hq2, _⟩ := seq_sqp s1 e2 h3
      exact ⟨_, _, ad, bd, vs, ws, rfl, hq, hq2, q1 μ1 H1 _ Aft.refl s1 (jm_zm h1 h3)⟩
    · exact q1.elim
  · exact q1.elim
end
end Fc

/-! FcLaw: the law's own call, from its denotation. -/
namespace Fc
open PySem L2
/-- the law's denotation says True of every script -/
def Says (den : Den) : Prop := ∀ ns : List Int, ns.length ≤ 63 → ∃ S', den [.fz (ns.map Dv.int)] [] = .ok (.bl true) S'
section
variable {P : Program} {w : World} {K : PySem.W.Frag} {mg mb : Str → Option Value} {C : Nat → Addr} {k : Nat} {den : Den}
theorem law_at {fa a : Addr} {s1 : Shared} {vs : List Value} {ns : List Int} {H : Hp} (hD : ∀ base : Heap, K.In base → base.Ns mainGlobals mg → Df P w K mg base C "law" 1 k den) (hfa : mg "law" = some (.ref fa)) (hr : Room k callerA)
    (inK : K.In (hidT s1.heap H)) (hmod : Mod K mg (hidT s1.heap H)) (hok : HOk P w H s1.heap) (hgen : s1.gens = #[]) (hS : Fzl K H a (ns.map V.int)) (hden : ∃ S', den [.fz (ns.map Dv.int)] [] = .ok (.bl true) S')
    (only : ∀ b, H b = none ∨ ∃ o xs, H b = some (.frz o (.lst xs))) :
    codeAny (model P w) callerA (.call (.ref fa) ⟨[.ref a], []⟩) (fun r s' => r = .ok (.ret (.bool true)) ∧ OldK s1.heap s'.heap ∧ s'.os = s1.os ∧ PyProof.Rows.AllBare s'.gens) s1 := by
  obtain ⟨f, fd, ps, h1, h2, h3, h4, F⟩ := (hD _ inK hmod.glob).ex
  have ef : f = fa := by
    have := h1.symm.trans hfa
    injection this with this
    injection this
  subst ef
  have e0 : Env0 P w K mg (hidT s1.heap H) callerA [] s1 H := ⟨rfl, hmod, fun b o e => of_hidT e, Nat.le_of_eq (hidT_size _ _), trivial, fun b hb => absurd hb (by simp [frs]), hok, PyProof.Rows.AllBare.of_eq hgen⟩
  have hbind := h3 s1 [.ref a] (hmod.kin.keeps fun b o e => (of_hidT e).1) (by simp [h4])
  rw [List.append_nil] at hbind
  obtain ⟨S', eden⟩ := hden
  have hsp : spG K C ps.length den [.ref a] H (fun v _ => v = .bl true) (fun _ _ _ => False) := by
    refine ⟨by simp [h4], [], [], [.fz (ns.map Dv.int)], ⟨rfl, List.nodup_nil, fun n o x e _ => by simp at e⟩, VRs_cons.mpr ⟨.ref a, [], rfl, VR_fz.mpr ⟨a, _, rfl, hS, VRs.ints.mpr rfl⟩, VRs_nil.mpr rfl⟩, ?_⟩
    rw [eden]
    exact fun μ' H' v _ _ z => VR_bl.mp z
  refine codeAny_mono (F.run callerA [] s1 H ⟨[.ref a], []⟩ [.ref a] [.ref a] _ _ hr rfl e0 hbind (.cons rfl .nil) hsp) fun r s' h => ?_
  match r, h with
  | .error e, h => obtain ⟨_, _, _, _, _, _, _, _, _, _, _, _, z⟩ := h; exact z.elim
  | .ok .next, h => exact False.elim h
  | .ok .brk, h => exact False.elim h
  | .ok .cont, h => exact False.elim h
  | .ok (.ret u), h =>
    obtain ⟨v, H', os, bare, un, hok', r', q⟩ := h
    cases (show v = .bl true from q)
    cases (show u = Value.bool true from r')
    refine ⟨rfl, OldK.of_keep fun b o e => ?_, os, bare⟩
    rcases only b with z | ⟨ob, xs, z⟩
    · exact un.keep b o e z (by simp [frs]) (by simp)
    · have z2 := un.frzs b ob _ z
      have g1 := (hok b _ z).1
      have g2 := (hok' b _ z2).1
      rw [e] at g1
      cases g1
      exact g2
theorem law_code {fa a : Addr} {s1 : Shared} {vs : List Value} {ns : List Int} (inK : K.In s1.heap) (hns : s1.heap.Ns mainGlobals mg) (hb : s1.heap.Ns builtinsNs mb) (hbb : ∀ x : Str, x ≠ "__name__" → mb x = bootBuiltins x) (hlim : s1.heap.NoLimit) (hgen : s1.gens = #[])
    (ha : s1.heap.get? a = some { cls := .type "list", data := .seq vs.toArray }) (hi : PyProof.Rows.IntsAre vs ns) (hl : ns.length ≤ sizeLine) (hr : Room k callerA)
    (hD : ∀ base : Heap, K.In base → base.Ns mainGlobals mg → Df P w K mg base C "law" 1 k den) (hfa : mg "law" = some (.ref fa)) (hden : ∃ S', den [.fz (ns.map Dv.int)] [] = .ok (.bl true) S') :
    codeAny (model P w) callerA (.call (.ref fa) ⟨[.ref a], []⟩) (fun r s' => r = .ok (.ret (.bool true)) ∧ OldK s1.heap s'.heap ∧ s'.os = s1.os ∧ PyProof.Rows.AllBare s'.gens) s1 := by
  have rv := vals_ints hi
  -- the written part is seen where nothing but a may be hidden
  have modOf : ∀ H : Hp, (∀ b, H b ≠ none → b = a) → (H a ≠ none → K.lookup a = none) → Mod K mg (hidT s1.heap H) := fun H hA hK => by
    have dict_free : ∀ {b : Addr} {o : Obj} {es : Array DictEntry} {ep : Nat}, s1.heap.get? b = some o → o.data = .dict es ep → H b = none := fun {b o es ep} e d => by
      by_cases hn : H b = none
      · exact hn
      · have eb := hA b hn
        subst eb
        rw [ha] at e
        cases e
        cases d
    have ns_at : ∀ {b : Addr} {m : Str → Option Value}, s1.heap.Ns b m → (hidT s1.heap H).Ns b m := fun {b m} z => by
      obtain ⟨o, es, ep, e, d, r⟩ := z
      exact ⟨o, es, ep, hidT_get e (dict_free e d), d, r⟩
    refine ⟨fun b o e => hidT_get (inK b o e) ?_, ns_at hns, ⟨mb, ns_at hb, hbb⟩, ?_⟩
    · by_cases hn : H b = none
      · exact hn
      · have eb := hA b hn
        subst eb
        rw [hK hn] at e
        cases e
    · obtain ⟨mc, g1, g2⟩ := hlim
      exact ⟨mc, ns_at g1, g2⟩
  cases hk : K.lookup a with
  | some o =>
    have e := inK a o hk
    rw [ha] at e
    cases e
    have M := modOf (fun _ => none) (fun b z => absurd rfl z) fun z => absurd rfl z
    refine law_at (H := fun _ => none) (vs := vs) hD hfa hr M.kin M (fun b u z => by cases z) hgen (.inr (.inr ⟨_, vs.toArray, _, hk, rfl, rfl, rfl, ?_, by simpa using rv⟩)) hden fun _ => .inl rfl
    have := hi.length
    rw [List.size_toArray]
    omega
  | none =>
    let H : Hp := fun b => if b = a then some (.frz { cls := .type "list", data := .seq vs.toArray } (.lst (ns.map V.int))) else none
    have hH : ∀ b, b ≠ a → H b = none := fun b hb => if_neg hb
    have hHa : H a = some (.frz { cls := .type "list", data := .seq vs.toArray } (.lst (ns.map V.int))) := if_pos rfl
    have M := modOf H (fun b z => by
      by_cases hb : b = a
      · exact hb
      · exact absurd (hH b hb) z) fun _ => hk
    refine law_at (H := H) (vs := vs) hD hfa hr M.kin M (fun b u z => ?_) hgen (.inl ⟨_, hHa⟩) hden fun b => ?_
    · by_cases hb : b = a
      · subst hb
        rw [hHa] at z
        cases z
        exact ⟨ha, by rw [List.length_map]; exact hl, vs, _, rv, ha⟩
      · rw [hH b hb] at z
        cases z
    · by_cases hb : b = a
      · subst hb
        exact .inr ⟨_, _, hHa⟩
      · exact .inl (hH b hb)
end
/-- what k_head leaves, from the law's denotation -/
theorem walk_den {l : PySem.W.OpenLaw} {q : Program} {loose : List Str} {XP : (Str → Option Value) → Heap → Prop} {YP : World → Heap → Prop} {d : DefRec} {K : Params → PySem.W.Frag} {k : Nat} {den : Den}
    (hn : l.most = some 63) (hdf : d.params.defaults = []) (hname : d.name = "law") (hr : Room k callerA) (hY : ∀ (w : World) (h : Heap), YP w h → (K w.params).In h)
    (F : ∀ (w : World) (mg : Str → Option Value) (h : Heap), (K w.params).In h → h.Ns mainGlobals mg → ∃ C, ∀ base : Heap, (K w.params).In base → base.Ns mainGlobals mg → Df l.prog w (K w.params) mg base C "law" 1 k den)
    (hden : Says den) : PySem.W.WalkO q loose XP YP l.row.toRowW d [] (fun f vs => PySem.call f vs) := by
  refine Att.attach_call hn hdf fun w s0 s1 mg mb fa o pm cd doc a vs ns G Y ho hd hcd hmg hobj hints hlen hg => ?_
  have inK := hY w _ Y
  obtain ⟨C, hD⟩ := F w mg _ inK G.T.g
  rw [hname] at hmg
  exact law_code inK G.T.g G.T.b G.T.builtins G.T.nolimit hg hobj hints (Nat.le_trans hlen (by decide)) hr hD hmg (hden ns hlen)
end Fc

/-! FcKit: small words for the printed derivations. -/
namespace Fc
open PySem L2
section
variable {X : Cx} {C : Nat → Addr} {W : WX} {k : Nat}
theorem Ctx.blk (c : Ctx X W k) {s : Shared} {H : Hp} {scope : Scope} {cenv : Env} {fp : List Addr} : Ctx (X.blk s H scope cenv fp) W0 k := ⟨c.calm, c.room, c.gd, takes0, PassesOwn.never, c.nd⟩
theorem Ctx.h64 (c : Ctx X W k) : X.A.units + 64 < cLine := by have := c.room.un; omega
theorem Ctx.h65 (c : Ctx X W k) : X.A.units + 65 < cLine := by have := c.room.un; omega
theorem Ctx.h100 (c : Ctx X W k) : X.A.units + 100 < cLine := by have := c.room.un; omega
def opIadd : Op2 := opInt2 fun i j => i + j
where opInt2 (p : Int → Int → Int) : Op2 := fun x y S => match x, y with
  | .int i, .int j => some (.int (p i j), S)
  | _, _ => none
theorem ips_add : IpS X C .Add opIadd := by
  intro pins s σ H x y v u Q I rx ry h
  obtain ⟨μ, S, dx, dy, sr, vx, vy, q⟩ := h
  cases dx with
  | int i =>
    cases dy with
    | int j =>
      cases VR_int.mp vx
      cases VR_int.mp vy
      exact ip_add pins s σ H _ _ v u Q I rx ry ⟨i, j, rfl, rfl, old_val sr (VR_int.mpr rfl) q⟩
    | _ => exact q.elim
  | _ => exact q.elim
end
/-- a module's int; a module's tuple -/
theorem gc_int {K : PySem.W.Frag} {mg : Str → Option Value} {x : Str} {i : Int} {t : Tok} (h : mg x = some (.int i t)) : GC K mg x (.int i) := ⟨_, .int i, h, ⟨t, rfl⟩, fun _ _ => VR_int.mpr rfl⟩
theorem gc_str {K : PySem.W.Frag} {mg : Str → Option Value} {x y : Str} {t : Tok} (h : mg x = some (.str y t)) : GC K mg x (.str y) := ⟨_, .str y, h, ⟨t, rfl⟩, fun _ _ => VR_str.mpr rfl⟩
theorem gc_fr {K : PySem.W.Frag} {mg : Str → Option Value} {x : Str} {a : Addr} {i j : Int} {t u : Tok} {dd : Option Addr} {n : Nat} {sl : Array (Option Value)} (h : mg x = some (.ref a)) (hl : K.lookup a = some ⟨.type "tuple", dd, .seq #[.int i t, .int j u] n, sl⟩) :
    GC K mg x (.tup [.int i, .int j]) :=
  ⟨_, .ref a, h, rfl, fun H μ => VR_tup.mpr ⟨a, [.int i, .int j], rfl, .inr ⟨_, _, n, hl, rfl, rfl, by simp [sizeLine_eq], .cons ⟨t, rfl⟩ (.cons ⟨u, rfl⟩ .nil)⟩, VRs.ints (ns := [i, j]) |>.mpr rfl⟩⟩
/-- an own class of errors -/
structure XC (K : PySem.W.Frag) (mg : Str → Option Value) (x : Str) (a : Addr) : Prop where
  g : mg x = some (.ref a)
  k : PySem.W.keepIn K (.ref a) = true
  b : PySem.W.subIn K (.ref a) (.type "BaseException") = some true
  t : PySem.W.typeIn K (.ref a) = some (.type "type")
  q : PySem.W.excIn K a [.type "ValueError", .type "Exception", .type "BaseException", .type "object"] "ValueError.__new__" = true
theorem ss_raiseX {X : Cx} {C : Nat → Addr} {W : WX} {k n : Nat} {x m : Str} {jj : Nat} {pos pos' p2 pos3 : Pos} (c : Ctx X W k) (F : XC X.K X.mg x (C n)) (hg : Gl X x := by rfl) (hdb : (x == ("__debug__" : Str)) = false := by decide) :
    SS X C W (.Raise (some (.Call (.Name x pos') [.Constant (.str m) jj p2] [] pos)) none pos3) (cRaise n) :=
  ss_raise c PySem.F.excBase_ValueError F.q F.g F.k (raises_own F.b F.t) hg hdb
theorem fact_mk {K : PySem.W.Frag} {h : Heap} {mg : Str → Option Value} {x : Str} {st : Stmt} {f : Addr} {oc kV doc pm cdv ct : Value} {od an : Option Addr} {osl : Array (Option Value)} (Xh : K.In h) (G : h.Ns mainGlobals mg) (a : PySem.W.nsIn K mainGlobals x = some (some (.ref f)))
    (l : K.lookup f = some ⟨oc, od, .func (PySem.W.fnOf x x (defArgs st) (defBody st) (defScope st) .none kV doc pm an cdv ct), osl⟩) (c : PySem.W.codeIn K cdv x = true) (k : PySem.W.keepIn K (.ref f) = true) : Fact K mg x st :=
  ⟨f, _, PySem.W.mg_of Xh G a, fun_mk l c k⟩
end Fc

/-! FcRun: loops and comprehensions by invariants, on the abstract machine. -/
namespace Fc
open PySem L2
theorem whileL_run {t : DT} {b : DS} (Inv : Nat → Ev → Sto → Prop) {ρ : Ev} {S : Sto} {m : Nat} (h0 : Inv m ρ S) (P : Out → Sto → Prop)
    (step : ∀ m ρ S, Inv m ρ S → ∃ c S1, t ρ S = .ok c S1 ∧ (c = false → P (.nx ρ) S1) ∧ (c = true → ∃ o S2, b ρ S1 = .ok o S2 ∧ (match o with
      | .nx ρ2 => ∃ m', m' < m ∧ Inv m' ρ2 S2
      | .ct ρ2 => ∃ m', m' < m ∧ Inv m' ρ2 S2
      | .bk ρ2 => P (.nx ρ2) S2
      | o => P o S2))) : ∀ f, m < f → ∃ o S', whileL t b f ρ S = .ok o S' ∧ P o S' := by
  intro f
  induction f generalizing m ρ S with
  | zero => intro h; omega
  | succ f ih =>
    intro h
    obtain ⟨c, S1, e1, hf, ht⟩ := step m ρ S h0
    unfold whileL
    rw [e1, toS_ok]
    cases c with
    | false => exact ⟨_, _, rfl, hf rfl⟩
    | true =>
      rw [if_pos rfl]
      obtain ⟨o, S2, e2, ho⟩ := ht rfl
      rw [e2]
      cases o with
      | nx ρ2 => obtain ⟨m', hm, hi⟩ := ho; exact ih hi (by omega)
      | ct ρ2 => obtain ⟨m', hm, hi⟩ := ho; exact ih hi (by omega)
      | bk ρ2 => exact ⟨_, _, rfl, ho⟩
      | rt d => exact ⟨_, _, rfl, ho⟩
      | ex c d => exact ⟨_, _, rfl, ho⟩
theorem forL_run {it : Itf} {tg : Tg} {b : DS} {N : Nat} (Inv : Nat → Ev → Sto → Prop) (P : Out → Sto → Prop)
    (step : ∀ i ρ S, i < N → Inv i ρ S → ∃ x ρ1, it S i = some (some x) ∧ tg.asg x ρ = some ρ1 ∧ ∃ o S2, b ρ1 S = .ok o S2 ∧ (match o with
      | .nx ρ2 => Inv (i + 1) ρ2 S2
      | .ct ρ2 => Inv (i + 1) ρ2 S2
      | .bk ρ2 => P (.nx ρ2) S2
      | o => P o S2))
    (hend : ∀ ρ S, Inv N ρ S → it S N = some none ∧ P (.nx ρ) S) : ∀ (f i : Nat) (ρ : Ev) (S : Sto), i ≤ N → N - i < f → Inv i ρ S → ∃ o S', forL it tg b f i ρ S = .ok o S' ∧ P o S' := by
  intro f
  induction f with
  | zero => intro i ρ S _ h; omega
  | succ f ih =>
    intro i ρ S hi hf h
    unfold forL
    by_cases e : i = N
    · subst e
      obtain ⟨e1, p⟩ := hend ρ S h
      rw [e1]
      exact ⟨_, _, rfl, p⟩
    · obtain ⟨x, ρ1, e1, e2, o, S2, e3, ho⟩ := step i ρ S (by omega) h
      rw [e1]
      simp only [e2]
      rw [e3]
      cases o with
      | nx ρ2 => exact ih (i + 1) ρ2 S2 (by omega) (by omega) ho
      | ct ρ2 => exact ih (i + 1) ρ2 S2 (by omega) (by omega) ho
      | bk ρ2 => exact ⟨_, _, rfl, ho⟩
      | rt d => exact ⟨_, _, rfl, ho⟩
      | ex c d => exact ⟨_, _, rfl, ho⟩
/-- a loop that leaves the store as it is and only turns its locals -/
theorem forL_pure {it : Itf} {tg : Tg} {b : DS} {S : Sto} (ds : List Dv) (hit : ∀ i, it S i = some ds[i]?) (hl : ds.length < big) (f : Ev → Dv → Option Ev)
    (hb : ∀ ρ x ρ2, x ∈ ds → f ρ x = some ρ2 → ∃ ρ1, tg.asg x ρ = some ρ1 ∧ b ρ1 S = .ok (.nx ρ2) S) {ρ ρ' : Ev} (hf : ds.foldlM f ρ = some ρ') : forL it tg b big 0 ρ S = .ok (.nx ρ') S := by
  have pre : ∀ (i : Nat), i ≤ ds.length → ∃ ρi, (ds.take i).foldlM f ρ = some ρi := fun i hi => by
    have e := hf
    rw [← List.take_append_drop i ds, List.foldlM_append] at e
    obtain ⟨ρi, e1, _⟩ := Option.bind_eq_some_iff.mp e
    exact ⟨ρi, e1⟩
  obtain ⟨o, S', e, ρ2, rfl, rfl, e2⟩ := forL_run (it := it) (tg := tg) (b := b) (N := ds.length) (fun i ρi S1 => S1 = S ∧ (ds.take i).foldlM f ρ = some ρi) (fun o S1 => ∃ ρ2, o = .nx ρ2 ∧ S1 = S ∧ ds.foldlM f ρ = some ρ2)
    (fun i ρi S1 hi hh => by
      obtain ⟨rfl, hh⟩ := hh
      obtain ⟨ρn, hn⟩ := pre (i + 1) hi
      have hx : ds[i]? = some ds[i] := List.getElem?_eq_getElem hi
      rw [List.take_add_one, hx, List.foldlM_append, hh] at hn
      have hn' : f ρi ds[i] = some ρn := by simpa using hn
      obtain ⟨ρ1, h1, h2⟩ := hb ρi ds[i] ρn (List.getElem_mem hi) hn'
      refine ⟨ds[i], ρ1, by rw [hit, hx], h1, _, _, h2, rfl, ?_⟩
      rw [List.take_add_one, hx, List.foldlM_append, hh]
      simpa using hn')
    (fun ρi S1 hh => by
      obtain ⟨rfl, hh⟩ := hh
      rw [List.take_length] at hh
      exact ⟨by rw [hit, List.getElem?_eq_none (Nat.le_refl _)], ρi, rfl, rfl, hh⟩)
    big 0 ρ S (Nat.zero_le _) (by omega) ⟨rfl, rfl⟩
  rw [hf] at e2
  cases e2
  exact e
theorem lcL_run {it : Itf} {tg : Tg} {cond : DT} {elt : DE} {ρ : Ev} {n N : Nat} (Inv : Nat → List Dv → Sto → Prop)
    (step : ∀ i acc S, i < N → Inv i acc S → ∃ x ρ2, it S i = some (some x) ∧ tg.asg x ρ = some ρ2 ∧ ∃ c S1, cond ρ2 S = .ok c S1 ∧ (c = false → Inv (i + 1) acc S1) ∧
      (c = true → ∃ y S2, elt ρ2 S1 = .ok y S2 ∧ S2[n]? = some (.lst acc) ∧ acc.length < lim ∧ Inv (i + 1) (acc ++ [y]) (S2.set n (.lst (acc ++ [y])))))
    (hend : ∀ acc S, Inv N acc S → it S N = some none) : ∀ (f i : Nat) (acc : List Dv) (S : Sto), i ≤ N → N - i < f → Inv i acc S → ∃ acc' S', lcL it tg cond elt ρ n f i S = .ok (.ref n) S' ∧ Inv N acc' S' := by
  intro f
  induction f with
  | zero => intro i acc S _ h; omega
  | succ f ih =>
    intro i acc S hi hf h
    unfold lcL
    by_cases e : i = N
    · subst e
      rw [hend acc S h]
      exact ⟨acc, S, rfl, h⟩
    · obtain ⟨x, ρ2, e1, e2, c, S1, e3, h1, h2⟩ := step i acc S (by omega) h
      rw [e1]
      simp only [e2, e3, Res.bdN_ok]
      cases c with
      | false =>
        rw [if_neg Bool.false_ne_true]
        exact ih (i + 1) acc S1 (by omega) (by omega) (h1 rfl)
      | true =>
        rw [if_pos rfl]
        obtain ⟨y, S2, e4, e5, e6, h3⟩ := h2 rfl
        rw [e4, Res.bdN_ok, e5]
        simp only [if_pos e6]
        exact ih (i + 1) _ _ (by omega) (by omega) h3
/-- a comprehension whose parts leave the store as it is -/
theorem lc_pure {it : Itf} {tg : Tg} {cond : DT} {elt : DE} {ρ : Ev} {S : Sto} (xs : List Dv) (c : Dv → Bool) (h : Dv → Dv) (hl : xs.length ≤ lim)
    (hit : ∀ acc i, it (S ++ [.lst acc]) i = some xs[i]?)
    (hx : ∀ x ∈ xs, ∀ acc, ∃ ρ2, tg.asg x ρ = some ρ2 ∧ cond ρ2 (S ++ [.lst acc]) = .ok (c x) (S ++ [.lst acc]) ∧ (c x = true → elt ρ2 (S ++ [.lst acc]) = .ok (h x) (S ++ [.lst acc]))) :
    lcL it tg cond elt ρ S.length big 0 (S ++ [.lst []]) = .ok (.ref S.length) (S ++ [.lst ((xs.filter c).map h)]) := by
  obtain ⟨acc', S', e, rfl, rfl⟩ := lcL_run (it := it) (tg := tg) (cond := cond) (elt := elt) (ρ := ρ) (n := S.length) (N := xs.length) (fun i acc S1 => acc = ((xs.take i).filter c).map h ∧ S1 = S ++ [.lst acc])
    (fun i acc S1 hi hh => by
      obtain ⟨ha, rfl⟩ := hh
      have hxi : xs[i]? = some xs[i] := List.getElem?_eq_getElem hi
      obtain ⟨ρ2, e1, e2, e3⟩ := hx xs[i] (List.getElem_mem hi) acc
      have tk : xs.take (i + 1) = xs.take i ++ [xs[i]] := by
        rw [List.take_add_one, hxi]
        rfl
      refine ⟨xs[i], ρ2, by rw [hit, hxi], e1, _, _, e2, fun hc => ⟨?_, rfl⟩, fun hc => ⟨_, _, e3 hc, by simp, ?_, ?_, ?_⟩⟩
      · rw [ha, tk, List.filter_append, List.map_append, List.filter_cons_of_neg (by rw [hc]; simp), List.filter_nil, List.map_nil, List.append_nil]
      · rw [ha, List.length_map]
        have h1 := List.length_filter_le c (xs.take i)
        have h2 : (xs.take i).length ≤ i := by simp; omega
        omega
      · rw [ha, tk, List.filter_append, List.map_append, List.filter_cons_of_pos hc, List.filter_nil, List.map_cons, List.map_nil]
      · simp)
    (fun acc S1 hh => by
      obtain ⟨_, rfl⟩ := hh
      rw [hit, List.getElem?_eq_none (Nat.le_refl _)])
    big 0 [] _ (Nat.zero_le _) (by rw [big_eq]; have := lim_eq; omega) ⟨by simp, rfl⟩
  rw [List.take_length] at e
  exact e
/-- .. without a test -/
theorem lc_map {it : Itf} {tg : Tg} {elt : DE} {ρ : Ev} {S : Sto} (xs : List Dv) (h : Dv → Dv) (hl : xs.length ≤ lim) (hit : ∀ acc i, it (S ++ [.lst acc]) i = some xs[i]?)
    (hx : ∀ x ∈ xs, ∀ acc, ∃ ρ2, tg.asg x ρ = some ρ2 ∧ elt ρ2 (S ++ [.lst acc]) = .ok (h x) (S ++ [.lst acc])) :
    lcL it tg tTrue elt ρ S.length big 0 (S ++ [.lst []]) = .ok (.ref S.length) (S ++ [.lst (xs.map h)]) := by
  have e := lc_pure (it := it) (tg := tg) (cond := tTrue) (elt := elt) (ρ := ρ) (S := S) xs (fun _ => true) h hl hit fun x hm acc => by
    obtain ⟨ρ2, e1, e2⟩ := hx x hm acc
    exact ⟨ρ2, e1, rfl, fun _ => e2⟩
  rwa [List.filter_eq_self.mpr fun _ _ => rfl] at e
/-! ### statement by statement -/
section
variable {f g : DS} {t : DT} {ρ ρ0 ρ1 : Ev} {S S1 S2 : Sto} {r : Res Out} {d : Dv} {c n : Nat} {args : List Dv}
theorem seq_go (h1 : f ρ S = .ok (.nx ρ1) S1) (h2 : g ρ1 S1 = r) : cSeq f g ρ S = r := by simp only [cSeq, h1, h2]
theorem seq_rt (h1 : f ρ S = .ok (.rt d) S1) : cSeq f g ρ S = .ok (.rt d) S1 := by simp only [cSeq, h1]
theorem seq_ex (h1 : f ρ S = .ok (.ex c ρ1) S1) : cSeq f g ρ S = .ok (.ex c ρ1) S1 := by simp only [cSeq, h1]
theorem seq_bk (h1 : f ρ S = .ok (.bk ρ1) S1) : cSeq f g ρ S = .ok (.bk ρ1) S1 := by simp only [cSeq, h1]
theorem seq_ct (h1 : f ρ S = .ok (.ct ρ1) S1) : cSeq f g ρ S = .ok (.ct ρ1) S1 := by simp only [cSeq, h1]
theorem nil_go : cNil ρ S = .ok (.nx ρ) S := rfl
theorem if_t (h1 : t ρ S = .ok true S1) (h2 : f ρ S1 = r) : cIf t f g ρ S = r := by simp only [cIf, h1, toS_ok, if_true, h2]
theorem if_f (h1 : t ρ S = .ok false S1) (h2 : g ρ S1 = r) : cIf t f g ρ S = r := by simp [cIf, h1, h2]
theorem for_go {fi : DI} {tg : Tg} {it : Itf} (h1 : fi ρ S = .ok it S1) (h2 : forL it tg f big 0 ρ S1 = r) : cFor fi tg f ρ S = r := by simp only [cFor, h1, toS_ok, h2]
theorem set_go {e : DE} {i : Nat} (h1 : e ρ S = .ok d S1) : cSet i e ρ S = .ok (.nx (ρ.set i (some d))) S1 := by simp only [cSet, h1, toS_ok]
theorem expr_go {e : DE} (h1 : e ρ S = .ok d S1) : cExpr e ρ S = .ok (.nx ρ) S1 := by simp only [cExpr, h1, toS_ok]
theorem ret_go {e : DE} (h1 : e ρ S = .ok d S1) : cRet e ρ S = .ok (.rt d) S1 := by simp only [cRet, h1, toS_ok]
theorem run_rt {b : DS} (he : args.map some ++ List.replicate (n - args.length) none = ρ0) (h : b ρ0 S = .ok (.rt d) S1) : runB n b args S = .ok d S1 := by simp only [runB, he, h]
theorem run_nx {b : DS} (he : args.map some ++ List.replicate (n - args.length) none = ρ0) (h : b ρ0 S = .ok (.nx ρ1) S1) : runB n b args S = .ok .non S1 := by simp only [runB, he, h]
theorem run_ex {b : DS} (he : args.map some ++ List.replicate (n - args.length) none = ρ0) (h : b ρ0 S = .ok (.ex c ρ1) S1) : runB n b args S = .exn c S1 := by simp only [runB, he, h]
theorem run_stuck {b : DS} (he : args.map some ++ List.replicate (n - args.length) none = ρ0) (h : b ρ0 S = .stuck) : runB n b args S = .stuck := by simp only [runB, he, h]
end
def dNeg : Dv → Option Dv := fun d => match d with
  | .int i => some (.int (-i))
  | _ => none
theorem se_neg2 {X : Cx} {C : Nat → Addr} {W : WX} {e : Expr} {f : DE} {pos : Pos} (h1 : SE X C W e f) : SE X C W (.UnaryOp .USub e pos) (eUn dNeg f) := se_neg h1
theorem neg_int (i : Int) : dNeg (.int i) = some (.int (-i)) := rfl
theorem at_last {α : Type} (xs : List α) (v : α) : atI (xs ++ [v]) (-1) = some v := by
  have h : ixN (xs ++ [v]).length (-1) = some xs.length := by
    unfold ixN
    have : ¬ (0 : Int) ≤ -1 := by decide
    rw [if_neg this]
    simp only [List.length_append, List.length_cons, List.length_nil]
    have h2 : (0 : Int) ≤ -1 + (xs.length + (0 + 1) : Nat) := by omega
    first
      | rw [if_pos h2]; congr 1; omega
      | (simp; try omega)
  unfold atI
  rw [h]
  simp
/-- what stays: a tuple's, a range's walk; a list's below a new object -/
theorem it_tup (ds : List Dv) (S : Sto) (i : Nat) : itSeq (.tup ds) S i = some ds[i]? := rfl
theorem it_fz (ds : List Dv) (S : Sto) (i : Nat) : itSeq (.fz ds) S i = some ds[i]? := rfl
theorem getElem?_grow {S : Sto} {n : Nat} {o : Ob} (h : S[n]? = some o) (G : Sto) : (S ++ G)[n]? = some o := by
  rw [List.getElem?_append_left (List.getElem?_eq_some_iff.mp h).1]
  exact h
theorem listOf_grow {S : Sto} {d : Dv} {ds : List Dv} (h : listOf S d = some ds) (G : Sto) : listOf (S ++ G) d = some ds := by
  cases d with
  | fz es => exact h
  | ref n =>
    simp only [listOf] at h ⊢
    split at h
    · rename_i es e1
      cases h
      rw [getElem?_grow e1 G]
    · cases h
  | _ => cases h
theorem seqOf_grow {S : Sto} {d : Dv} {ds : List Dv} (h : seqOf S d = some ds) (G : Sto) : seqOf (S ++ G) d = some ds := by
  cases d with
  | tup es => exact h
  | fz es => exact listOf_grow (S := S) (d := .fz es) h G
  | ref n => exact listOf_grow (S := S) (d := .ref n) h G
  | _ => cases h
theorem it_seq {S : Sto} {d : Dv} {ds : List Dv} (h : seqOf S d = some ds) (G : Sto) (i : Nat) : itSeq d (S ++ G) i = some ds[i]? := by
  simp only [itSeq, seqOf_grow h G, Option.map_some]
def rngD (lo : Int) (n : Nat) : List Dv := (List.range n).map fun i => .int (lo + (i : Nat))
theorem it_rng (lo : Int) (n : Nat) (S : Sto) (i : Nat) : itRange lo n S i = some (rngD lo n)[i]? := by
  simp only [itRange, rngD, List.getElem?_map]
  by_cases h : i < n
  · rw [if_pos h, List.getElem?_range h]
    rfl
  · rw [if_neg h, List.getElem?_eq_none (by simpa using Nat.le_of_not_lt h)]
    rfl
end Fc

/-! FcSpecA: what the ratios' defs are worth. -/
namespace Fc
open PySem L2
section
variable {S : Sto} {ds : List Dv}
theorem ty_non : tyD S .non = some .non := rfl
theorem ty_bl {b : Bool} : tyD S (.bl b) = some .bl := rfl
theorem ty_int {i : Int} : tyD S (.int i) = some .int := rfl
theorem ty_str {x : Str} : tyD S (.str x) = some .str := rfl
theorem ty_tup : tyD S (.tup ds) = some .tup := rfl
theorem ty_fz : tyD S (.fz ds) = some .lst := rfl
theorem seq_tup : seqOf S (.tup ds) = some ds := rfl
theorem seq_fz : seqOf S (.fz ds) = some ds := rfl
theorem list_fz : listOf S (.fz ds) = some ds := rfl
theorem len_tup : fLen [.tup ds] S = some (.int (ds.length : Nat), S) := rfl
end
theorem at_newk (S G : Sto) (k : Nat) : (S ++ G)[S.length + k]? = G[k]? := by
  rw [List.getElem?_append_right (by omega)]
  congr 1
  omega
theorem asg_nm (i : Nat) (d : Dv) (ρ : Ev) : (Tg.nm i).asg d ρ = some (ρ.set i (some d)) := by simp [Tg.asg]
theorem asg_tp (ts : List Tg) (ds : List Dv) (ρ : Ev) : (Tg.tp ts).asg (.tup ds) ρ = Tg.asgs ts ds ρ := by simp [Tg.asg]
theorem asgs_nil (ρ : Ev) : Tg.asgs [] [] ρ = some ρ := by simp [Tg.asgs]
theorem asgs_cons (t : Tg) (ts : List Tg) (d : Dv) (ds : List Dv) (ρ : Ev) : Tg.asgs (t :: ts) (d :: ds) ρ = (t.asg d ρ).bind fun ρ1 => Tg.asgs ts ds ρ1 := by simp [Tg.asgs]
theorem lm0 : (0 ≤ lim) = True := by simp [lim]
theorem lm1 : (1 ≤ lim) = True := by simp [lim]
theorem lm2 : (2 ≤ lim) = True := by simp [lim]
theorem lm3 : (3 ≤ lim) = True := by simp [lim]
theorem lm4 : (4 ≤ lim) = True := by simp [lim]
theorem lm5 : (5 ≤ lim) = True := by simp [lim]
theorem lm6 : (6 ≤ lim) = True := by simp [lim]
theorem lm7 : (7 ≤ lim) = True := by simp [lim]
theorem lm8 : (8 ≤ lim) = True := by simp [lim]
theorem lm9 : (9 ≤ lim) = True := by simp [lim]
theorem set_newk (S G : Sto) (k : Nat) (o : Ob) : (S ++ G).set (S.length + k) o = S ++ G.set k o := by
  rw [List.set_append_right _ _ (by omega)]
  congr 2
  omega
theorem set_new0 (S G : Sto) (o : Ob) : (S ++ G).set S.length o = S ++ G.set 0 o := set_newk S G 0 o
theorem at_new (S G : Sto) : (S ++ G)[S.length]? = G[0]? := at_newk S G 0
section
variable {S : Sto} {i j : Int}
theorem zAdd : opAdd (.int i) (.int j) S = some (.int (i + j), S) := rfl
theorem zSub : opSub (.int i) (.int j) S = some (.int (i - j), S) := rfl
theorem zMul (h : mulOk i j = true) : opMul (.int i) (.int j) S = some (.int (i * j), S) := if_pos h
theorem zDiv (h : divOk j = true) : opDiv (.int i) (.int j) S = some (.int (i / j), S) := if_pos h
theorem zMod (h : 0 < j) : opMod (.int i) (.int j) S = some (.int (i % j), S) := if_pos h
theorem zIxL {n : Nat} {ds : List Dv} {v : Dv} (h : S[n]? = some (.lst ds)) (h2 : atI ds i = some v) : opIx (.ref n) (.int i) S = some (v, S) := by simp [opIx, seqOf, listOf, h, h2]
end
section
variable {S : Sto} {n m : Nat} {i : Int} {ds : List Dv}
theorem add_rr : opAdd (.ref n) (.ref m) S = (match S[n]?, S[m]? with
    | some (.lst ds), some (.lst es) => if ds.length + es.length ≤ lim then some (.ref S.length, S ++ [.lst (ds ++ es)]) else none
    | _, _ => none) := rfl
theorem list_ref : listOf S (.ref n) = (match S[n]? with
    | some (.lst ds) => some ds
    | _ => none) := rfl
theorem seq_ref : seqOf S (.ref n) = (match S[n]? with
    | some (.lst ds) => some ds
    | _ => none) := rfl
theorem ix_ref : opIx (.ref n) (.int i) S = (match S[n]? with
    | some (.lst ds) => (match atI ds i with
      | some d => some (d, S)
      | none => none)
    | _ => none) := by
  simp only [opIx, seq_ref]
  rcases S[n]? with _ | _ | _ | _ | _ <;> rfl
theorem ix_tup : opIx (.tup ds) (.int i) S = (match atI ds i with
      | some d => some (d, S)
      | none => none) := rfl
theorem ix_fz : opIx (.fz ds) (.int i) S = (match atI ds i with
      | some d => some (d, S)
      | none => none) := rfl
theorem app_ref {y : Dv} : mAppend (.ref n) [y] S = (match S[n]? with
    | some (.lst es) => if es.length < lim then some (.non, S.set n (.lst (es ++ [y]))) else none
    | _ => none) := rfl
theorem len_ref : fLen [.ref n] S = (match S[n]? with
    | some (.lst ds) => some (.int (ds.length : Nat), S)
    | _ => none) := by
  simp only [fLen, seq_ref]
  rcases S[n]? with _ | _ | _ | _ | _ <;> rfl
end
theorem eqD_int (i j : Int) (S : Sto) : eqD (.int i) (.int j) S = some (decide (i = j)) := by
  simp [eqD]
local macro_rules | `(tactic| walk_at "fc") => `(tactic| try simp only [runB, cSeq, cNil, cRet, cExpr, cIf, cSet, cAsg, cPar, cAug, cRaise, cStore, cPass, toS_ok, toS_exn, toS_stuck, Res.bd_ok, Res.bd_exn, Res.bd_stuck, Res.bdN_ok, Res.bdN_exn, Res.bdN_stuck,
  eVar, eC, eTup, eLst, eOp, eChain, eUn, eAnd, eOr, eNot, eIf, tTs, tAnd2, tOr2, tNot2, tTrue, eCall, eBi, eIsi, eMtL, eSl, oNo, oSo, lNil, lCons, iSeq, iRange1, iRange2, zAdd, zSub, zMul, zDiv, zMod, ofO, opInt, opIn, opNotIn, opEq, opNe, opIs, opIsnt,
  List.map_cons, List.map_nil, List.length_cons, List.length_nil, List.replicate, List.append_nil, List.nil_append, List.cons_append, List.getElem?_cons_zero, List.getElem?_cons_succ, List.getElem?_nil, List.set_cons_zero, List.set_cons_succ, List.set_nil, lm0, lm1, lm2, lm3, lm4, lm5, lm6, lm7, lm8, lm9, asg_nm, asg_tp, asgs_nil, asgs_cons, Option.bind_some, Option.bind_none, Option.map_some, Option.map_none,
  Nat.reduceSub, Nat.reduceAdd, Nat.zero_add, Nat.add_zero, Nat.sub_self, if_true, if_false, reduceIte, Bool.false_eq_true, Bool.true_eq_false, reduceCtorEq])
local macro_rules | `(tactic| walk_at "fo") => `(tactic| try simp only [*, runB, cSeq, cNil, cRet, cExpr, cIf, cSet, cAsg, cPar, cAug, cRaise, cStore, cPass, toS_ok, toS_exn, toS_stuck, Res.bd_ok, Res.bd_exn, Res.bd_stuck, Res.bdN_ok, Res.bdN_exn, Res.bdN_stuck,
  eVar, eC, eTup, eLst, eOp, eChain, eUn, eAnd, eOr, eNot, eIf, tTs, tAnd2, tOr2, tNot2, tTrue, eCall, eBi, eIsi, eMtL, eSl, oNo, oSo, lNil, lCons, iSeq, iRange1, iRange2, zAdd, zSub, zMul, zDiv, zMod, ofO, opInt, opIn, opNotIn, opEq, opNe, opIs, opIsnt,
  List.map_cons, List.map_nil, List.length_cons, List.length_nil, List.replicate, List.append_nil, List.nil_append, List.cons_append, List.getElem?_cons_zero, List.getElem?_cons_succ, List.getElem?_nil, List.set_cons_zero, List.set_cons_succ, List.set_nil, lm0, lm1, lm2, lm3, lm4, lm5, lm6, lm7, lm8, lm9, asg_nm, asg_tp, asgs_nil, asgs_cons, Option.bind_some, Option.bind_none, Option.map_some, Option.map_none,
  Nat.reduceSub, Nat.reduceAdd, Nat.zero_add, Nat.add_zero, Nat.sub_self, if_true, if_false, reduceIte, Bool.false_eq_true, Bool.true_eq_false, reduceCtorEq, and_self, Bool.and_self, decide_true, decide_false])
local macro_rules | `(tactic| walk_at "fg") => `(tactic| try simp only [*, runB, cSeq, cNil, cRet, cExpr, cIf, cSet, cAsg, cPar, cAug, cRaise, cStore, cPass, toS_ok, toS_exn, toS_stuck, Res.bd_ok, Res.bd_exn, Res.bd_stuck, Res.bdN_ok, Res.bdN_exn, Res.bdN_stuck,
  eVar, eC, eTup, eLst, eOp, eChain, eUn, eAnd, eOr, eNot, eIf, tTs, tAnd2, tOr2, tNot2, tTrue, eCall, eBi, eIsi, eMtL, eSl, oNo, oSo, lNil, lCons, iSeq, iRange1, iRange2, zAdd, zSub, zMul, zDiv, zMod, ofO, opInt, opIn, opNotIn, opEq, opNe, opIs, opIsnt,
  List.map_cons, List.map_nil, List.length_cons, List.length_nil, List.replicate, List.append_nil, List.nil_append, List.cons_append, List.getElem?_cons_zero, List.getElem?_cons_succ, List.getElem?_nil, List.set_cons_zero, List.set_cons_succ, List.set_nil, lm0, lm1, lm2, lm3, lm4, lm5, lm6, lm7, lm8, lm9, asg_nm, asg_tp, asgs_nil, asgs_cons, Option.bind_some, Option.bind_none, Option.map_some, Option.map_none,
  Nat.reduceSub, Nat.reduceAdd, Nat.zero_add, Nat.add_zero, Nat.sub_self, if_true, if_false, reduceIte, Bool.false_eq_true, Bool.true_eq_false, reduceCtorEq, and_self, Bool.and_self, decide_true, decide_false, List.append_assoc, List.length_append, Nat.add_assoc, at_new, at_newk, add_rr, ix_ref, seq_ref, list_ref, seq_tup, seq_fz, list_fz, ix_tup, ix_fz, neg_int, app_ref, set_newk, set_new0, iZ, slD, eLc, len_tup, len_ref])
local macro_rules | `(tactic| walk_at "fs") => `(tactic| try simp [runB, cSeq, cNil, cRet, cExpr, cIf, cSet, cAsg, cPar, cAug, cRaise, cStore, cPass, toS_ok, toS_exn, toS_stuck, Res.bd_ok, Res.bd_exn, Res.bd_stuck, Res.bdN_ok, Res.bdN_exn, Res.bdN_stuck,
  eVar, eC, eTup, eLst, eOp, eChain, eUn, eAnd, eOr, eNot, eIf, tTs, tAnd2, tOr2, tNot2, tTrue, eCall, eBi, eIsi, eMtL, eSl, oNo, oSo, lNil, lCons, iSeq, iRange1, iRange2, zAdd, zSub, zMul, zDiv, zMod, ofO, opInt, opIn, opNotIn, opEq, opNe, opIs, opIsnt,
  List.map_cons, List.map_nil, List.length_cons, List.length_nil, List.replicate, List.append_nil, List.nil_append, List.cons_append, List.getElem?_cons_zero, List.getElem?_cons_succ, List.getElem?_nil, List.set_cons_zero, List.set_cons_succ, List.set_nil, lm0, lm1, lm2, lm3, lm4, lm5, lm6, lm7, lm8, lm9, asg_nm, asg_tp, asgs_nil, asgs_cons, Option.bind_some, Option.bind_none, Option.map_some, Option.map_none,
  Nat.reduceSub, Nat.reduceAdd, Nat.zero_add, Nat.add_zero, Nat.sub_self, if_true, if_false, reduceIte, Bool.false_eq_true, Bool.true_eq_false, reduceCtorEq, len_tup, ty_non, ty_bl, ty_int, ty_str, ty_tup, ty_fz, isT, eqD_int, seq_tup, seq_fz, list_fz])
/-! ### ints -/
noncomputable def b_is_integer : DS :=
 (cSeq (cRet (eAnd (eIsi .int (eVar 0)) (eNot (eIsi .bl (eVar 0)))))
 cNil)
noncomputable abbrev r_is_integer : Den := runB 1 b_is_integer
def s_is_integer : Den := fun ds S => match ds with
  | [d] => match tyD S d with
    | some t => .ok (.bl (decide (t = .int))) S
    | none => .stuck
  | _ => .stuck
theorem le_is_integer : ∀ ds S, ds.length = 1 → Le S (s_is_integer ds S) (r_is_integer ds S) := by
  intro ds S h
  unfold s_is_integer
  split
  · rename_i d
    split
    · rename_i t e
      have : r_is_integer [d] S = .ok (.bl (decide (t = .int))) S := by
        unfold r_is_integer b_is_integer
        walk_at "fc"
        rw [e]
        cases t <;> walk_at "fc" <;> simp [isT, e] <;> walk_at "fc" <;> simp [isT, e]
      rw [this]
      exact .same _
    · exact .stuck _
  · exact .stuck _
theorem tyD_int {S : Sto} {d : Dv} (h : tyD S d = some .int) : ∃ i, d = .int i := by
  cases d with
  | int i => exact ⟨i, rfl⟩
  | ref n =>
    simp only [tyD] at h
    split at h <;> cases h
  | _ => cases h
noncomputable def b_is_between : DS :=
 (cSeq (cRet (eAnd (eCall 1 s_is_integer (lCons (eVar 0) lNil)) (eChain opLe opLe (eVar 1) (eVar 0) (eVar 2))))
 cNil)
noncomputable abbrev r_is_between : Den := runB 3 b_is_between
def s_is_between : Den := fun ds S => match ds with
  | [.int i, .int lo, .int hi] => .ok (.bl (decide (lo ≤ i) && decide (i ≤ hi))) S
  | [d, .int _, .int _] => match tyD S d with
    | some t => if t = .int then .stuck else .ok (.bl false) S
    | none => .stuck
  | _ => .stuck
theorem le_is_between : ∀ ds S, ds.length = 3 → Le S (s_is_between ds S) (r_is_between ds S) := by
  intro ds S h
  unfold s_is_between
  split
  · rename_i i lo hi
    have : r_is_between [.int i, .int lo, .int hi] S = .ok (.bl (decide (lo ≤ i) && decide (i ≤ hi))) S := by
      unfold r_is_between b_is_between
      walk_at "fc"
      simp only [s_is_integer, tyD, decide_true]
      walk_at "fc"
      by_cases h1 : lo ≤ i
      · simp only [h1, decide_true]
        walk_at "fc"
        simp
      · simp only [h1, decide_false]
        walk_at "fc"
        simp
    rw [this]
    exact .same _
  · rename_i d lo hi hd
    split
    · rename_i t e
      split
      · exact .stuck _
      · rename_i ht
        have : r_is_between [d, .int lo, .int hi] S = .ok (.bl false) S := by
          unfold r_is_between b_is_between
          walk_at "fc"
          simp only [s_is_integer, e, ht, decide_false]
          walk_at "fc"
        rw [this]
        exact .same _
    · exact .stuck _
  · exact .stuck _
/-! ### sizes -/
def ok4 (i : Int) : Bool := decide (i.natAbs < 2 ^ 4000)
def ok8 (i : Int) : Bool := decide (i.natAbs < 2 ^ 8000)
theorem log2_lt {n k : Nat} (h : n < 2 ^ k) (hk : 0 < k) : n.log2 < k := by
  by_cases h0 : n = 0
  · subst h0
    simpa using hk
  · exact (Nat.log2_lt h0).mpr h
theorem mulOk_of {i j : Int} {a b : Nat} (h1 : i.natAbs < 2 ^ a) (h2 : j.natAbs < 2 ^ b) (ha : 0 < a) (hb : 0 < b) (h : a + b ≤ 1000000) : mulOk i j = true := by
  have e1 := log2_lt h1 ha
  have e2 := log2_lt h2 hb
  simp only [mulOk, decide_eq_true_eq]
  omega
theorem divOk_of {j : Int} {a : Nat} (h0 : 0 < j) (h1 : j.natAbs < 2 ^ a) (ha : 0 < a) (h : a ≤ 9000) : divOk j = true := by
  have e1 := log2_lt h1 ha
  simp only [divOk, Bool.and_eq_true, decide_eq_true_eq]
  exact ⟨h0, by omega⟩
theorem ok4_iff {i : Int} : ok4 i = true ↔ i.natAbs < 2 ^ 4000 := by simp [ok4]
theorem ok8_iff {i : Int} : ok8 i = true ↔ i.natAbs < 2 ^ 8000 := by simp [ok8]
theorem ok4_mul {i j : Int} (h1 : ok4 i = true) (h2 : ok4 j = true) : mulOk i j = true := mulOk_of (ok4_iff.mp h1) (ok4_iff.mp h2) (by decide) (by decide) (by decide)
theorem abs_mul {i j : Int} {a b : Nat} (h1 : i.natAbs < 2 ^ a) (h2 : j.natAbs < 2 ^ b) : (i * j).natAbs < 2 ^ (a + b) := by
  rw [Int.natAbs_mul, Nat.pow_add]
  by_cases h0 : j.natAbs = 0
  · rw [h0, Nat.mul_zero]
    exact Nat.mul_pos (Nat.two_pow_pos _) (Nat.two_pow_pos _)
  · exact Nat.lt_of_lt_of_le (Nat.mul_lt_mul_of_pos_right h1 (by omega)) (Nat.mul_le_mul_left _ (Nat.le_of_lt h2))
theorem ok4_mul8 {i j : Int} (h1 : ok4 i = true) (h2 : ok4 j = true) : ok8 (i * j) = true := ok8_iff.mpr (abs_mul (a := 4000) (b := 4000) (ok4_iff.mp h1) (ok4_iff.mp h2))
/-! ### the greatest common divisor -/
noncomputable def b_greatest_divisor : DS :=
 (cSeq (cPar 0 1 (lCons (eBi fAbs (lCons (eVar 0) lNil)) (lCons (eBi fAbs (lCons (eVar 1) lNil)) lNil)))
 (cSeq (cWhile (tTs (eOp opGt (eVar 1) (eC (.int 0))))
 (cSeq (cPar 0 1 (lCons (eVar 1) (lCons (eOp opMod (eVar 0) (eVar 1)) lNil)))
 cNil))
 (cSeq (cRet (eVar 0))
 cNil)))
noncomputable abbrev r_greatest_divisor : Den := runB 2 b_greatest_divisor
theorem gcd_loop (S : Sto) : ∀ (n a b fuel : Nat), b < 2 ^ n → 2 * n < fuel →
    whileL (tTs (eOp opGt (eVar 1) (eC (.int 0)))) (cSeq (cPar 0 1 (lCons (eVar 1) (lCons (eOp opMod (eVar 0) (eVar 1)) lNil))) cNil) fuel [some (.int (a : Nat)), some (.int (b : Nat))] S =
      .ok (.nx [some (.int (Nat.gcd a b : Nat)), some (.int 0)]) S := by
  have stop : ∀ (a fuel : Nat), 0 < fuel → whileL (tTs (eOp opGt (eVar 1) (eC (.int 0)))) (cSeq (cPar 0 1 (lCons (eVar 1) (lCons (eOp opMod (eVar 0) (eVar 1)) lNil))) cNil) fuel [some (.int (a : Nat)), some (.int ((0 : Nat) : Int))] S =
      .ok (.nx [some (.int (Nat.gcd a 0 : Nat)), some (.int 0)]) S := by
    intro a fuel hf
    cases fuel with
    | zero => omega
    | succ f =>
      unfold whileL
      walk_at "fc"
      simp
  have go : ∀ (a b fuel : Nat), 0 < b → whileL (tTs (eOp opGt (eVar 1) (eC (.int 0)))) (cSeq (cPar 0 1 (lCons (eVar 1) (lCons (eOp opMod (eVar 0) (eVar 1)) lNil))) cNil) (fuel + 1) [some (.int (a : Nat)), some (.int (b : Nat))] S =
      whileL (tTs (eOp opGt (eVar 1) (eC (.int 0)))) (cSeq (cPar 0 1 (lCons (eVar 1) (lCons (eOp opMod (eVar 0) (eVar 1)) lNil))) cNil) fuel [some (.int (b : Nat)), some (.int ((a % b : Nat) : Int))] S := by
    intro a b fuel hb
    conv => lhs; unfold whileL
    walk_at "fc"
    have h1 : (0 : Int) < (b : Int) := by omega
    simp only [decide_eq_true h1]
    walk_at "fc"
    simp only [opMod, if_pos h1]
    walk_at "fc"
    rw [Int.natCast_emod]
  intro n
  induction n with
  | zero =>
    intro a b fuel hb hf
    have : b = 0 := by omega
    subst this
    exact stop a fuel (by omega)
  | succ n ih =>
    intro a b fuel hb hf
    by_cases h0 : b = 0
    · subst h0
      exact stop a fuel (by omega)
    · obtain ⟨f2, rfl⟩ : ∃ f2, fuel = f2 + 1 := ⟨fuel - 1, by omega⟩
      rw [go a b f2 (by omega)]
      by_cases h1 : a % b = 0
      · rw [h1, stop b f2 (by omega), Nat.gcd_comm a b, Nat.gcd_rec b a, h1]
        simp
      · obtain ⟨f3, rfl⟩ : ∃ f3, f2 = f3 + 1 := ⟨f2 - 1, by omega⟩
        rw [go b (a % b) f3 (by omega)]
        have hlt : a % b < b := Nat.mod_lt _ (by omega)
        have hm : b % (a % b) < a % b := Nat.mod_lt _ (by omega)
        have hm2 : b % (a % b) + a % b ≤ b := by
          have e := Nat.div_add_mod b (a % b)
          have hd : 0 < b / (a % b) := Nat.div_pos (Nat.le_of_lt hlt) (by omega)
          have : a % b ≤ (a % b) * (b / (a % b)) := Nat.le_mul_of_pos_right _ hd
          omega
        have hh : b % (a % b) < 2 ^ n := by
          rw [Nat.pow_succ] at hb
          omega
        rw [ih (a % b) (b % (a % b)) f3 hh (by omega)]
        have e1 : Nat.gcd a b = Nat.gcd (a % b) (b % (a % b)) := by
          rw [Nat.gcd_comm a b, Nat.gcd_rec b a, Nat.gcd_rec (a % b) b, Nat.gcd_comm]
        rw [e1]
def s_greatest_divisor : Den := fun ds S => match ds with
  | [.int a, .int b] => if ok8 b then .ok (.int (Int.gcd a b : Nat)) S else .stuck
  | _ => .stuck
theorem abs_if (a : Int) : (if a < 0 then -a else a) = ((a.natAbs : Nat) : Int) := by split <;> omega
theorem le_greatest_divisor : ∀ ds S, ds.length = 2 → Le S (s_greatest_divisor ds S) (r_greatest_divisor ds S) := by
  intro ds S h
  unfold s_greatest_divisor
  split
  · rename_i a b
    split
    · rename_i hb
      have : r_greatest_divisor [.int a, .int b] S = .ok (.int (Int.gcd a b : Nat)) S := by
        unfold r_greatest_divisor b_greatest_divisor
        walk_at "fc"
        simp only [fAbs, abs_if]
        walk_at "fc"
        simp only [cWhile]
        have e := gcd_loop S 8000 a.natAbs b.natAbs big (ok8_iff.mp hb) (lt_big (by decide))
        rw [e]
        walk_at "fc"
        rfl
      rw [this]
      exact .same _
    · exact .stuck _
  · exact .stuck _
/-! ### fractions -/
abbrev Fr := Int × Int
def fr (p : Fr) : Dv := .tup [.int p.1, .int p.2]
def ratioF (a b : Int) : Fr := (a / (Int.gcd a b : Nat), b / (Int.gcd a b : Nat))
def resO (o : Option Dv) (S : Sto) : Res Dv := match o with
  | some d => .ok d S
  | none => .stuck
noncomputable def b_ratio : DS :=
 (cSeq (cSet 2 (eCall 2 s_greatest_divisor (lCons (eVar 0) (lCons (eVar 1) lNil))))
 (cSeq (cRet (eTup (lCons (eOp opDiv (eVar 0) (eVar 2)) (lCons (eOp opDiv (eVar 1) (eVar 2)) lNil))))
 cNil))
noncomputable abbrev r_ratio : Den := runB 3 b_ratio
def s_ratio : Den := fun ds S => match ds with
  | [.int a, .int b] => if decide (0 < b) && ok8 b then .ok (fr (ratioF a b)) S else .stuck
  | _ => .stuck
theorem gcd_div_ok {a b : Int} (h0 : 0 < b) (h1 : ok8 b = true) : divOk (Int.gcd a b : Nat) = true := by
  have hg : 0 < Int.gcd a b := Int.gcd_pos_of_ne_zero_right a (by omega)
  have hle : Int.gcd a b ≤ b.natAbs := Nat.le_of_dvd (by omega) (Int.gcd_dvd_natAbs_right a b)
  exact divOk_of (a := 8000) (by omega) (by have := ok8_iff.mp h1; rw [Int.natAbs_natCast]; omega) (by decide) (by decide)
theorem le_ratio : ∀ ds S, ds.length = 2 → Le S (s_ratio ds S) (r_ratio ds S) := by
  intro ds S h
  unfold s_ratio
  split
  · rename_i a b
    split
    · rename_i hc
      simp only [Bool.and_eq_true, decide_eq_true_eq] at hc
      have : r_ratio [.int a, .int b] S = .ok (fr (ratioF a b)) S := by
        unfold r_ratio b_ratio
        walk_at "fc"
        simp only [s_greatest_divisor, if_pos hc.2]
        walk_at "fc"
        simp only [opDiv, if_pos (gcd_div_ok (a := a) hc.1 hc.2)]
        walk_at "fc"
        rfl
      rw [this]
      exact .same _
    · exact .stuck _
  · exact .stuck _
def plusO (p q : Fr) : Option Fr := if decide (0 < p.2) && decide (0 < q.2) && ok4 p.1 && ok4 p.2 && ok4 q.1 && ok4 q.2 then some (ratioF (p.1 * q.2 + q.1 * p.2) (p.2 * q.2)) else none
def minusO (p q : Fr) : Option Fr := if decide (0 < p.2) && decide (0 < q.2) && ok4 p.1 && ok4 p.2 && ok4 q.1 && ok4 q.2 then some (ratioF (p.1 * q.2 - q.1 * p.2) (p.2 * q.2)) else none
def timesO (p q : Fr) : Option Fr := if decide (0 < p.2) && decide (0 < q.2) && ok4 p.1 && ok4 p.2 && ok4 q.1 && ok4 q.2 then some (ratioF (p.1 * q.1) (p.2 * q.2)) else none
def overO (p q : Fr) : Option Fr := if decide (0 < p.2) && decide (0 < q.1) && ok4 p.1 && ok4 p.2 && ok4 q.1 && ok4 q.2 then some (ratioF (p.1 * q.2) (p.2 * q.1)) else none
def frOp (f : Fr → Fr → Option Fr) : Den := fun ds S => match ds with
  | [.tup [.int a, .int b], .tup [.int c, .int d]] => match f (a, b) (c, d) with
    | some r => .ok (fr r) S
    | none => .stuck
  | _ => .stuck
@[simp] theorem frOp_fr (f : Fr → Fr → Option Fr) (p q : Fr) (S : Sto) : frOp f [fr p, fr q] S = (match f p q with
    | some r => .ok (fr r) S
    | none => .stuck) := rfl
theorem at0 {α : Type} (a : α) (l : List α) : atI (a :: l) 0 = some a := by
  have := atI_nat (xs := a :: l) (j := 0) (v := a) rfl
  simpa using this
theorem at1 {α : Type} (a b : α) (l : List α) : atI (a :: b :: l) 1 = some b := by
  have := atI_nat (xs := a :: b :: l) (j := 1) (v := b) rfl
  simpa using this
theorem at2 {α : Type} (a b c : α) (l : List α) : atI (a :: b :: c :: l) 2 = some c := by
  have := atI_nat (xs := a :: b :: c :: l) (j := 2) (v := c) rfl
  simpa using this
noncomputable def b_plus : DS :=
 (cSeq (cRet (eCall 2 s_ratio (lCons (eOp opAdd (eOp opMul (eOp opIx (eVar 0) (eC (.int 0))) (eOp opIx (eVar 1) (eC (.int 1)))) (eOp opMul (eOp opIx (eVar 1) (eC (.int 0))) (eOp opIx (eVar 0) (eC (.int 1))))) (lCons (eOp opMul (eOp opIx (eVar 0) (eC (.int 1))) (eOp opIx (eVar 1) (eC (.int 1)))) lNil))))
 cNil)
noncomputable abbrev r_plus : Den := runB 2 b_plus
def s_plus : Den := frOp plusO
theorem le_plus : ∀ ds S, ds.length = 2 → Le S (s_plus ds S) (r_plus ds S) := by
  intro ds S h
  unfold s_plus frOp
  split
  · rename_i a b c d
    split
    · rename_i r e
      unfold plusO at e
      split at e
      · rename_i hc
        cases e
        simp only [Bool.and_eq_true, decide_eq_true_eq] at hc
        obtain ⟨⟨⟨⟨⟨h1, h2⟩, h3⟩, h4⟩, h5⟩, h6⟩ := hc
        have : r_plus [.tup [.int a, .int b], .tup [.int c, .int d]] S = .ok (fr (ratioF (a * d + c * b) (b * d))) S := by
          unfold r_plus b_plus
          walk_at "fc"
          simp only [opIx, seqOf, at0, at1]
          walk_at "fc"
          simp only [opMul, ok4_mul h3 h6, ok4_mul h5 h4, ok4_mul h4 h6]
          walk_at "fc"
          try simp only [opAdd]
          walk_at "fc"
          simp only [s_ratio, decide_eq_true (Int.mul_pos h1 h2), ok4_mul8 h4 h6, Bool.and_self]
          walk_at "fc"
        rw [this]
        exact .same _
      · cases e
    · exact .stuck _
  · exact .stuck _
/-! ### sums, powers, the common bottom -/
def unfr : Dv → Option Fr
  | .tup [.int a, .int b] => some (a, b)
  | _ => none
theorem unfr_eq {d : Dv} {p : Fr} (h : unfr d = some p) : d = fr p := by
  unfold unfr at h
  split at h
  · cases h; rfl
  · cases h
@[simp] theorem unfr_fr (p : Fr) : unfr (fr p) = some p := rfl
def unfrs : List Dv → Option (List Fr)
  | [] => some []
  | d :: ds => match unfr d, unfrs ds with
    | some p, some ps => some (p :: ps)
    | _, _ => none
theorem unfrs_eq : ∀ {ds : List Dv} {ps : List Fr}, unfrs ds = some ps → ds = ps.map fr
  | [], _, h => by cases h; rfl
  | d :: ds, _, h => by
    simp only [unfrs] at h
    split at h
    · rename_i p ps e1 e2
      cases h
      rw [unfr_eq e1, unfrs_eq e2]
      rfl
    · cases h
@[simp] theorem unfrs_map : ∀ ps : List Fr, unfrs (ps.map fr) = some ps
  | [] => rfl
  | p :: ps => by simp [unfrs, unfrs_map ps]
theorem lim_big {n : Nat} (h : n ≤ lim) : n < big := by
  rw [big_eq]
  have := lim_eq
  omega
theorem it_seq0 {S : Sto} {d : Dv} {ds : List Dv} (h : seqOf S d = some ds) (i : Nat) : itSeq d S i = some ds[i]? := by
  have := it_seq h [] i
  rwa [List.append_nil] at this
def addedO (ps : List Fr) : Option Fr := ps.foldlM plusO (0, 1)
noncomputable def b_added : DS :=
 (cSeq (cSet 1 (eC (.tup [.int 0, .int 1])))
 (cSeq (cFor (iSeq (eVar 0)) (.nm 2)
 (cSeq (cSet 1 (eCall 2 s_plus (lCons (eVar 1) (lCons (eVar 2) lNil))))
 cNil))
 (cSeq (cRet (eVar 1))
 cNil)))
noncomputable abbrev r_added : Den := runB 3 b_added
def s_added : Den := fun ds S => match ds with
  | [d] => match seqOf S d with
    | some es => if es.length ≤ lim then (match unfrs es with
      | some ps => match addedO ps with
        | some r => .ok (fr r) S
        | none => .stuck
      | none => .stuck) else .stuck
    | none => .stuck
  | _ => .stuck
/-- the turn of a sum -/
def sumEv (ρ : Ev) (x : Dv) : Option Ev := match ρ with
  | [d, some a, _] => match unfr a, unfr x with
    | some p, some q => match plusO p q with
      | some r => some [d, some (fr r), some x]
      | none => none
    | _, _ => none
  | _ => none
theorem fr_eta (r : Fr) : fr r = .tup [.int r.1, .int r.2] := rfl
theorem sum_fold (d : Dv) : ∀ (ps : List Fr) (t r : Fr) (v : Option Dv), ps.foldlM plusO t = some r → ∃ v', (ps.map fr).foldlM sumEv [some d, some (fr t), v] = some [some d, some (fr r), v']
  | [], t, r, v, h => by
    cases h
    exact ⟨v, rfl⟩
  | p :: ps, t, r, v, h => by
    rw [List.foldlM_cons] at h
    obtain ⟨t2, h1, h2⟩ := Option.bind_eq_some_iff.mp h
    obtain ⟨v', e⟩ := sum_fold d ps t2 r (some (fr p)) h2
    refine ⟨v', ?_⟩
    rw [List.map_cons, List.foldlM_cons]
    have : sumEv [some d, some (fr t), v] (fr p) = some [some d, some (fr t2), some (fr p)] := by
      simp [sumEv, h1]
    rw [this]
    exact e
theorem le_added : ∀ ds S, ds.length = 1 → Le S (s_added ds S) (r_added ds S) := by
  intro ds S h
  unfold s_added
  split
  · rename_i d
    split
    · rename_i es e1
      split
      · rename_i hl
        split
        · rename_i ps e2
          split
          · rename_i r e3
            have : r_added [d] S = .ok (fr r) S := by
              unfold r_added b_added
              walk_at "fc"
              simp only [cFor]
              walk_at "fc"
              rw [e1]
              walk_at "fc"
              have e4 := unfrs_eq e2
              subst e4
              obtain ⟨v', e5⟩ := sum_fold d ps (0, 1) r none e3
              rw [show (Dv.tup [Dv.int 0, Dv.int 1]) = fr (0, 1) from rfl]
              rw [forL_pure (S := S) (ps.map fr) (it_seq0 e1) (lim_big hl) sumEv ?_ e5]
              · walk_at "fc"
              · intro ρ x ρ2 hx hf
                obtain ⟨q, hq, rfl⟩ := List.mem_map.mp hx
                unfold sumEv at hf
                split at hf
                · rename_i d2 a v2
                  split at hf
                  · rename_i p q' e6 e7
                    rw [unfr_fr] at e7
                    cases e7
                    split at hf
                    · rename_i r2 e8
                      cases hf
                      refine ⟨[d2, some a, some (fr q)], rfl, ?_⟩
                      walk_at "fc"
                      simp only [unfr_eq e6, s_plus]
                      rw [frOp_fr, e8]
                      walk_at "fc"
                    · cases hf
                  · cases hf
                · cases hf
            rw [this]
            exact .same _
          · exact .stuck _
        · exact .stuck _
      · exact .stuck _
    · exact .stuck _
  · exact .stuck _
end Fc

/-! FcSpecB: powers, chances, digits. -/
namespace Fc
open PySem L2
local macro_rules | `(tactic| walk_at "fc") => `(tactic| try simp only [runB, cSeq, cNil, cRet, cExpr, cIf, cSet, cAsg, cPar, cAug, cRaise, cStore, cPass, toS_ok, toS_exn, toS_stuck, Res.bd_ok, Res.bd_exn, Res.bd_stuck, Res.bdN_ok, Res.bdN_exn, Res.bdN_stuck,
  eVar, eC, eTup, eLst, eOp, eChain, eUn, eAnd, eOr, eNot, eIf, tTs, tAnd2, tOr2, tNot2, tTrue, eCall, eBi, eIsi, eMtL, eSl, oNo, oSo, lNil, lCons, iSeq, iRange1, iRange2, zAdd, zSub, zMul, zDiv, zMod, ofO, opInt, opIn, opNotIn, opEq, opNe, opIs, opIsnt,
  List.map_cons, List.map_nil, List.length_cons, List.length_nil, List.replicate, List.append_nil, List.nil_append, List.cons_append, List.getElem?_cons_zero, List.getElem?_cons_succ, List.getElem?_nil, List.set_cons_zero, List.set_cons_succ, List.set_nil, lm0, lm1, lm2, lm3, lm4, lm5, lm6, lm7, lm8, lm9, asg_nm, asg_tp, asgs_nil, asgs_cons, Option.bind_some, Option.bind_none, Option.map_some, Option.map_none,
  Nat.reduceSub, Nat.reduceAdd, Nat.zero_add, Nat.add_zero, Nat.sub_self, if_true, if_false, reduceIte, Bool.false_eq_true, Bool.true_eq_false, reduceCtorEq])
local macro_rules | `(tactic| walk_at "fo") => `(tactic| try simp only [*, runB, cSeq, cNil, cRet, cExpr, cIf, cSet, cAsg, cPar, cAug, cRaise, cStore, cPass, toS_ok, toS_exn, toS_stuck, Res.bd_ok, Res.bd_exn, Res.bd_stuck, Res.bdN_ok, Res.bdN_exn, Res.bdN_stuck,
  eVar, eC, eTup, eLst, eOp, eChain, eUn, eAnd, eOr, eNot, eIf, tTs, tAnd2, tOr2, tNot2, tTrue, eCall, eBi, eIsi, eMtL, eSl, oNo, oSo, lNil, lCons, iSeq, iRange1, iRange2, zAdd, zSub, zMul, zDiv, zMod, ofO, opInt, opIn, opNotIn, opEq, opNe, opIs, opIsnt,
  List.map_cons, List.map_nil, List.length_cons, List.length_nil, List.replicate, List.append_nil, List.nil_append, List.cons_append, List.getElem?_cons_zero, List.getElem?_cons_succ, List.getElem?_nil, List.set_cons_zero, List.set_cons_succ, List.set_nil, lm0, lm1, lm2, lm3, lm4, lm5, lm6, lm7, lm8, lm9, asg_nm, asg_tp, asgs_nil, asgs_cons, Option.bind_some, Option.bind_none, Option.map_some, Option.map_none,
  Nat.reduceSub, Nat.reduceAdd, Nat.zero_add, Nat.add_zero, Nat.sub_self, if_true, if_false, reduceIte, Bool.false_eq_true, Bool.true_eq_false, reduceCtorEq, and_self, Bool.and_self, decide_true, decide_false])
local macro_rules | `(tactic| walk_at "fg") => `(tactic| try simp only [*, runB, cSeq, cNil, cRet, cExpr, cIf, cSet, cAsg, cPar, cAug, cRaise, cStore, cPass, toS_ok, toS_exn, toS_stuck, Res.bd_ok, Res.bd_exn, Res.bd_stuck, Res.bdN_ok, Res.bdN_exn, Res.bdN_stuck,
  eVar, eC, eTup, eLst, eOp, eChain, eUn, eAnd, eOr, eNot, eIf, tTs, tAnd2, tOr2, tNot2, tTrue, eCall, eBi, eIsi, eMtL, eSl, oNo, oSo, lNil, lCons, iSeq, iRange1, iRange2, zAdd, zSub, zMul, zDiv, zMod, ofO, opInt, opIn, opNotIn, opEq, opNe, opIs, opIsnt,
  List.map_cons, List.map_nil, List.length_cons, List.length_nil, List.replicate, List.append_nil, List.nil_append, List.cons_append, List.getElem?_cons_zero, List.getElem?_cons_succ, List.getElem?_nil, List.set_cons_zero, List.set_cons_succ, List.set_nil, lm0, lm1, lm2, lm3, lm4, lm5, lm6, lm7, lm8, lm9, asg_nm, asg_tp, asgs_nil, asgs_cons, Option.bind_some, Option.bind_none, Option.map_some, Option.map_none,
  Nat.reduceSub, Nat.reduceAdd, Nat.zero_add, Nat.add_zero, Nat.sub_self, if_true, if_false, reduceIte, Bool.false_eq_true, Bool.true_eq_false, reduceCtorEq, and_self, Bool.and_self, decide_true, decide_false, List.append_assoc, List.length_append, Nat.add_assoc, at_new, at_newk, add_rr, ix_ref, seq_ref, list_ref, seq_tup, seq_fz, list_fz, ix_tup, ix_fz, neg_int, app_ref, set_newk, set_new0, iZ, slD, eLc, len_tup, len_ref])
local macro_rules | `(tactic| walk_at "fs") => `(tactic| try simp [runB, cSeq, cNil, cRet, cExpr, cIf, cSet, cAsg, cPar, cAug, cRaise, cStore, cPass, toS_ok, toS_exn, toS_stuck, Res.bd_ok, Res.bd_exn, Res.bd_stuck, Res.bdN_ok, Res.bdN_exn, Res.bdN_stuck,
  eVar, eC, eTup, eLst, eOp, eChain, eUn, eAnd, eOr, eNot, eIf, tTs, tAnd2, tOr2, tNot2, tTrue, eCall, eBi, eIsi, eMtL, eSl, oNo, oSo, lNil, lCons, iSeq, iRange1, iRange2, zAdd, zSub, zMul, zDiv, zMod, ofO, opInt, opIn, opNotIn, opEq, opNe, opIs, opIsnt,
  List.map_cons, List.map_nil, List.length_cons, List.length_nil, List.replicate, List.append_nil, List.nil_append, List.cons_append, List.getElem?_cons_zero, List.getElem?_cons_succ, List.getElem?_nil, List.set_cons_zero, List.set_cons_succ, List.set_nil, lm0, lm1, lm2, lm3, lm4, lm5, lm6, lm7, lm8, lm9, asg_nm, asg_tp, asgs_nil, asgs_cons, Option.bind_some, Option.bind_none, Option.map_some, Option.map_none,
  Nat.reduceSub, Nat.reduceAdd, Nat.zero_add, Nat.add_zero, Nat.sub_self, if_true, if_false, reduceIte, Bool.false_eq_true, Bool.true_eq_false, reduceCtorEq, len_tup, ty_non, ty_bl, ty_int, ty_str, ty_tup, ty_fz, isT, eqD_int, seq_tup, seq_fz, list_fz])
/-! ### fractions, of any value -/
def fracO (S : Sto) : Dv → Option Bool
  | .tup [.int i, .int j] => if j < 1 then some false else if ok8 j then some (decide (Int.gcd i j = 1)) else none
  | .tup [.int _, b] => (tyD S b).map fun _ => false
  | .tup [a, _] => (tyD S a).map fun _ => false
  | d => (tyD S d).map fun _ => false
theorem isT_no {t : Ty} (h : decide (t = .int) = false) : isT t .int = false ∨ t = .bl := by
  cases t <;> simp [isT] at h ⊢
theorem ix0 {a b : Dv} {S : Sto} : opIx (.tup [a, b]) (.int 0) S = some (a, S) := by simp [opIx, seqOf, at0]
theorem ix1 {a b : Dv} {S : Sto} : opIx (.tup [a, b]) (.int 1) S = some (b, S) := by simp [opIx, seqOf, at1]
local macro_rules | `(tactic| walk_at "fh") => `(tactic| try simp [*, runB, cSeq, cNil, cRet, cExpr, cIf, cSet, cAsg, cPar, cAug, cRaise, cStore, cPass, toS_ok, toS_exn, toS_stuck, Res.bd_ok, Res.bd_exn, Res.bd_stuck, Res.bdN_ok, Res.bdN_exn, Res.bdN_stuck,
  eVar, eC, eTup, eLst, eOp, eChain, eUn, eAnd, eOr, eNot, eIf, tTs, tAnd2, tOr2, tNot2, tTrue, eCall, eBi, eIsi, eMtL, eSl, oNo, oSo, lNil, lCons, iSeq, iRange1, iRange2, zAdd, zSub, zMul, zDiv, zMod, ofO, opInt, opIn, opNotIn, opEq, opNe, opIs, opIsnt,
  List.map_cons, List.map_nil, List.length_cons, List.length_nil, List.replicate, List.append_nil, List.nil_append, List.cons_append, List.getElem?_cons_zero, List.getElem?_cons_succ, List.getElem?_nil, List.set_cons_zero, List.set_cons_succ, List.set_nil, lm0, lm1, lm2, lm3, lm4, lm5, lm6, lm7, lm8, lm9, asg_nm, asg_tp, asgs_nil, asgs_cons, Option.bind_some, Option.bind_none, Option.map_some, Option.map_none,
  Nat.reduceSub, Nat.reduceAdd, Nat.zero_add, Nat.add_zero, Nat.sub_self, if_true, if_false, reduceIte, Bool.false_eq_true, Bool.true_eq_false, reduceCtorEq, len_tup, ty_non, ty_bl, ty_int, ty_str, ty_tup, ty_fz, isT, eqD_int, seq_tup, seq_fz, list_fz, ix0, ix1, s_is_integer, s_is_between])
local macro_rules | `(tactic| walk_at "fs") => `(tactic| try simp [runB, cSeq, cNil, cRet, cExpr, cIf, cSet, cAsg, cPar, cAug, cRaise, cStore, cPass, toS_ok, toS_exn, toS_stuck, Res.bd_ok, Res.bd_exn, Res.bd_stuck, Res.bdN_ok, Res.bdN_exn, Res.bdN_stuck,
  eVar, eC, eTup, eLst, eOp, eChain, eUn, eAnd, eOr, eNot, eIf, tTs, tAnd2, tOr2, tNot2, tTrue, eCall, eBi, eIsi, eMtL, eSl, oNo, oSo, lNil, lCons, iSeq, iRange1, iRange2, zAdd, zSub, zMul, zDiv, zMod, ofO, opInt, opIn, opNotIn, opEq, opNe, opIs, opIsnt,
  List.map_cons, List.map_nil, List.length_cons, List.length_nil, List.replicate, List.append_nil, List.nil_append, List.cons_append, List.getElem?_cons_zero, List.getElem?_cons_succ, List.getElem?_nil, List.set_cons_zero, List.set_cons_succ, List.set_nil, lm0, lm1, lm2, lm3, lm4, lm5, lm6, lm7, lm8, lm9, asg_nm, asg_tp, asgs_nil, asgs_cons, Option.bind_some, Option.bind_none, Option.map_some, Option.map_none,
  Nat.reduceSub, Nat.reduceAdd, Nat.zero_add, Nat.add_zero, Nat.sub_self, if_true, if_false, reduceIte, Bool.false_eq_true, Bool.true_eq_false, reduceCtorEq, len_tup, ty_non, ty_bl, ty_int, ty_str, ty_tup, ty_fz, isT, eqD_int, seq_tup, seq_fz, list_fz, ix0, ix1, s_is_integer, s_is_between])
noncomputable def b_is_fraction : DS :=
 (cSeq (cIf (tOr2 (tNot2 (tTs (eIsi .tup (eVar 0)))) (tTs (eOp opNe (eBi fLen (lCons (eVar 0) lNil)) (eC (.int 2)))))
 (cSeq (cRet (eC (.bl false)))
 cNil)
 cNil)
 (cSeq (cIf (tOr2 (tNot2 (tTs (eCall 1 s_is_integer (lCons (eOp opIx (eVar 0) (eC (.int 0))) lNil)))) (tOr2 (tNot2 (tTs (eCall 1 s_is_integer (lCons (eOp opIx (eVar 0) (eC (.int 1))) lNil)))) (tTs (eOp opLt (eOp opIx (eVar 0) (eC (.int 1))) (eC (.int 1))))))
 (cSeq (cRet (eC (.bl false)))
 cNil)
 cNil)
 (cSeq (cRet (eOp opEq (eCall 2 s_greatest_divisor (lCons (eOp opIx (eVar 0) (eC (.int 0))) (lCons (eOp opIx (eVar 0) (eC (.int 1))) lNil))) (eC (.int 1))))
 cNil)))
noncomputable abbrev r_is_fraction : Den := runB 1 b_is_fraction
def s_is_fraction : Den := fun ds S => match ds with
  | [d] => match fracO S d with
    | some b => .ok (.bl b) S
    | none => .stuck
  | _ => .stuck
theorem int_of_ty {S : Sto} {d : Dv} {t : Ty} (e : tyD S d = some t) : (∃ i, d = .int i) ∨ decide (t = .int) = false := by
  by_cases h : t = .int
  · subst h
    exact .inl (tyD_int e)
  · exact .inr (by simpa using h)
theorem le_is_fraction : ∀ ds S, ds.length = 1 → Le S (s_is_fraction ds S) (r_is_fraction ds S) := by
  intro ds S h
  unfold s_is_fraction
  split
  · rename_i d
    split
    · rename_i c e
      have : r_is_fraction [d] S = .ok (.bl c) S := by
        have other : ∀ t, tyD S d = some t → isT t .tup = false → c = false → r_is_fraction [d] S = .ok (.bl c) S := by
          intro t e1 e2 e3
          subst e3
          unfold r_is_fraction b_is_fraction
          walk_at "fc"
          simp only [e1, e2]
          walk_at "fc"
          simp
        cases d with
        | tup es =>
          have short : es.length ≠ 2 → c = false → r_is_fraction [.tup es] S = .ok (.bl c) S := by
            intro e1 e2
            subst e2
            unfold r_is_fraction b_is_fraction
            have : ¬ ((es.length : Int) = 2) := by omega
            walk_at "fs"
            simp [this]
          match es with
          | [] => exact short (by simp) (by simpa [fracO, tyD] using e.symm)
          | [a] => exact short (by simp) (by simpa [fracO, tyD] using e.symm)
          | a :: b :: x :: r => exact short (by simp) (by simpa [fracO, tyD] using e.symm)
          | [a, b] =>
            unfold r_is_fraction b_is_fraction
            have noA : ∀ t, tyD S a = some t → decide (t = .int) = false → c = false → r_is_fraction [.tup [a, b]] S = .ok (.bl c) S := by
              intro t e1 e2 e3
              subst e3
              unfold r_is_fraction b_is_fraction
              have e2' : ¬ t = Ty.int := by simpa using e2
              walk_at "fs"
              simp [e1, e2']
            have noB : ∀ i t, a = .int i → tyD S b = some t → decide (t = .int) = false → c = false → r_is_fraction [.tup [a, b]] S = .ok (.bl c) S := by
              intro i t e0 e1 e2 e3
              subst e3 e0
              unfold r_is_fraction b_is_fraction
              have e2' : ¬ t = Ty.int := by simpa using e2
              walk_at "fs"
              simp [e1, e2']
            have both : ∀ i j, a = .int i → b = .int j → r_is_fraction [.tup [a, b]] S = .ok (.bl c) S := by
              intro i j e1 e2
              subst e1 e2
              simp only [fracO] at e
              unfold r_is_fraction b_is_fraction
              walk_at "fs"
              by_cases h1 : j < 1
              · rw [if_pos h1] at e
                cases e
                simp [h1]
              · rw [if_neg h1] at e
                split at e
                · rename_i h2
                  cases e
                  simp only [h1, s_greatest_divisor, h2]
                  clear other short noA noB
                  walk_at "fh"
                  have : ((Int.gcd i j : Int) = 1) ↔ Int.gcd i j = 1 := by omega
                  by_cases h3 : Int.gcd i j = 1 <;> simp [this, h3]
                · cases e
            have ca : (∃ i, a = .int i) ∨ ∃ t, tyD S a = some t ∧ decide (t = .int) = false ∧ c = false := by
              cases a with
              | int i => exact .inl ⟨i, rfl⟩
              | ref n =>
                simp only [fracO] at e
                obtain ⟨t, e1, e2⟩ := Option.map_eq_some_iff.mp e
                refine .inr ⟨t, e1, ?_, e2.symm⟩
                rcases int_of_ty e1 with ⟨i, q⟩ | q
                · cases q
                · exact q
              | _ => exact .inr ⟨_, rfl, by decide, by simpa [fracO, tyD] using e.symm⟩
            rcases ca with ⟨i, rfl⟩ | ⟨t, h1, h2, h3⟩
            · have cb : (∃ i, b = .int i) ∨ ∃ t, tyD S b = some t ∧ decide (t = .int) = false ∧ c = false := by
                cases b with
                | int i => exact .inl ⟨i, rfl⟩
                | ref n =>
                  simp only [fracO] at e
                  obtain ⟨t, e1, e2⟩ := Option.map_eq_some_iff.mp e
                  refine .inr ⟨t, e1, ?_, e2.symm⟩
                  rcases int_of_ty e1 with ⟨i, q⟩ | q
                  · cases q
                  · exact q
                | _ => exact .inr ⟨_, rfl, by decide, by simpa [fracO, tyD] using e.symm⟩
              rcases cb with ⟨j, rfl⟩ | ⟨t, h1, h2, h3⟩
              · exact both i j rfl rfl
              · exact noB i t rfl h1 h2 h3
            · exact noA t h1 h2 h3
        | non => exact other .non rfl (by decide) (by simpa [fracO, tyD] using e.symm)
        | bl b => exact other .bl rfl (by decide) (by simpa [fracO, tyD] using e.symm)
        | int i => exact other .int rfl (by decide) (by simpa [fracO, tyD] using e.symm)
        | str x => exact other .str rfl (by decide) (by simpa [fracO, tyD] using e.symm)
        | fz x => exact other .lst rfl (by decide) (by simpa [fracO, tyD] using e.symm)
        | ref n => 
          simp only [fracO] at e
          obtain ⟨t, e1, e2⟩ := Option.map_eq_some_iff.mp e
          refine other t e1 ?_ e2.symm
          simp only [tyD] at e1
          split at e1 <;> cases e1 <;> decide
      rw [this]
      exact .same _
    · exact .stuck _
  · exact .stuck _
/-! ### powers -/
theorem pow_lt {b : Int} {k : Nat} (h : b.natAbs < 16) (hk : k ≤ 1000) : (b ^ k).natAbs < 2 ^ 4001 := by
  rw [Int.natAbs_pow]
  calc b.natAbs ^ k ≤ 16 ^ k := Nat.pow_le_pow_left (by omega) k
    _ ≤ 16 ^ 1000 := Nat.pow_le_pow_right (by decide) hk
    _ = 2 ^ 4000 := by rw [show (16 : Nat) = 2 ^ 4 from rfl, ← Nat.pow_mul]
    _ < 2 ^ 4001 := Nat.pow_lt_pow_right (by decide) (by decide)
theorem rng_ok {j : Int} (h1 : -1000000 ≤ j) (h2 : j ≤ 1000000) : rngB j = true := by
  rw [rngB_iff]
  omega
noncomputable def b_power : DS :=
 (cSeq (cSet 2 (eC (.int 1)))
 (cSeq (cFor (iRange1 (lCons (eVar 1) lNil)) (.nm 3)
 (cSeq (cSet 2 (eOp opMul (eVar 2) (eVar 0)))
 cNil))
 (cSeq (cRet (eVar 2))
 cNil)))
noncomputable abbrev r_power : Den := runB 4 b_power
def s_power : Den := fun ds S => match ds with
  | [.int b, .int e] => if decide (b.natAbs < 16) && decide (-1000000 ≤ e) && decide (e ≤ 1000) then .ok (.int (b ^ e.toNat)) S else .stuck
  | _ => .stuck
theorem le_power : ∀ ds S, ds.length = 2 → Le S (s_power ds S) (r_power ds S) := by
  intro ds S h
  unfold s_power
  split
  · rename_i b e
    split
    · rename_i hc
      simp only [Bool.and_eq_true, decide_eq_true_eq] at hc
      obtain ⟨⟨h1, h2⟩, h3⟩ := hc
      have : r_power [.int b, .int e] S = .ok (.int (b ^ e.toNat)) S := by
        unfold r_power b_power
        walk_at "fc"
        simp only [cFor]
        walk_at "fc"
        simp only [rng_ok h2 (by omega : e ≤ 1000000)]
        walk_at "fc"
        obtain ⟨o, S', e1, v, rfl, rfl⟩ := forL_run (it := itRange 0 e.toNat) (tg := .nm 3) (b := cSeq (cSet 2 (eOp opMul (eVar 2) (eVar 0))) cNil) (N := e.toNat) (fun i ρ S1 => ∃ v, ρ = [some (.int b), some (.int e), some (.int (b ^ i)), v] ∧ S1 = S) (fun o S1 => ∃ v, o = .nx [some (.int b), some (.int e), some (.int (b ^ e.toNat)), v] ∧ S1 = S)
          (by
            rintro i ρ S1 hi ⟨v, rfl, rfl⟩
            refine ⟨.int (0 + i), _, by simp [itRange, hi], rfl, ?_⟩
            have hm : mulOk (b ^ i) b = true := mulOk_of (a := 4001) (b := 4) (pow_lt h1 (by omega)) (by omega) (by decide) (by decide) (by decide)
            refine ⟨_, _, by
              walk_at "fc"
              simp only [opMul, hm]
              walk_at "fc"
              rfl, ?_⟩
            exact ⟨_, by rw [Int.pow_succ], rfl⟩)
          (by
            rintro ρ S1 ⟨v, rfl, rfl⟩
            exact ⟨by simp [itRange], v, rfl, rfl⟩)
          big 0 [some (.int b), some (.int e), some (.int 1), none] S (Nat.zero_le _) (by rw [big_eq]; omega) ⟨none, by simp, rfl⟩
        rw [e1]
        walk_at "fc"
      rw [this]
      exact .same _
    · exact .stuck _
  · exact .stuck _
/-! ### the common bottom -/
def lcmI (r b : Int) : Int := r * b / (Int.gcd r b : Nat)
def botO (ps : List Fr) (r : Int) : Option Int := match ps with
  | [] => some r
  | p :: ps => if decide (0 < p.2) && decide (0 < r) && ok4 r && ok4 p.2 then botO ps (lcmI r p.2) else none
noncomputable def b_common_bottom : DS :=
 (cSeq (cSet 1 (eC (.int 1)))
 (cSeq (cFor (iSeq (eVar 0)) (.tp [(.nm 2), (.nm 3)])
 (cSeq (cSet 1 (eOp opDiv (eOp opMul (eVar 1) (eVar 3)) (eCall 2 s_greatest_divisor (lCons (eVar 1) (lCons (eVar 3) lNil)))))
 cNil))
 (cSeq (cRet (eVar 1))
 cNil)))
noncomputable abbrev r_common_bottom : Den := runB 4 b_common_bottom
def s_common_bottom : Den := fun ds S => match ds with
  | [d] => match seqOf S d with
    | some es => if es.length ≤ lim then (match unfrs es with
      | some ps => match botO ps 1 with
        | some r => .ok (.int r) S
        | none => .stuck
      | none => .stuck) else .stuck
    | none => .stuck
  | _ => .stuck
def botEv (ρ : Ev) (x : Dv) : Option Ev := match ρ with
  | [d, some (.int r), _, _] => match unfr x with
    | some p => if decide (0 < p.2) && decide (0 < r) && ok4 r && ok4 p.2 then some [d, some (.int (lcmI r p.2)), some (.int p.1), some (.int p.2)] else none
    | none => none
  | _ => none
theorem bot_fold (d : Option Dv) : ∀ (ps : List Fr) (t r : Int) (v w : Option Dv), botO ps t = some r → ∃ v' w', (ps.map fr).foldlM botEv [d, some (.int t), v, w] = some [d, some (.int r), v', w']
  | [], t, r, v, w, h => by
    cases h
    exact ⟨v, w, rfl⟩
  | p :: ps, t, r, v, w, h => by
    simp only [botO] at h
    split at h
    · rename_i hc
      obtain ⟨v', w', e⟩ := bot_fold d ps (lcmI t p.2) r (some (.int p.1)) (some (.int p.2)) h
      refine ⟨v', w', ?_⟩
      rw [List.map_cons, List.foldlM_cons]
      have : botEv [d, some (.int t), v, w] (fr p) = some [d, some (.int (lcmI t p.2)), some (.int p.1), some (.int p.2)] := by
        simp only [botEv, unfr_fr, hc, if_true]
      rw [this]
      exact e
    · cases h
theorem le_common_bottom : ∀ ds S, ds.length = 1 → Le S (s_common_bottom ds S) (r_common_bottom ds S) := by
  intro ds S h
  unfold s_common_bottom
  split
  · rename_i d
    split
    · rename_i es e1
      split
      · rename_i hl
        split
        · rename_i ps e2
          split
          · rename_i r e3
            have : r_common_bottom [d] S = .ok (.int r) S := by
              unfold r_common_bottom b_common_bottom
              walk_at "fc"
              simp only [cFor]
              walk_at "fc"
              rw [e1]
              walk_at "fc"
              have e4 := unfrs_eq e2
              subst e4
              obtain ⟨v', w', e5⟩ := bot_fold (some d) ps 1 r none none e3
              rw [forL_pure (S := S) (ps.map fr) (it_seq0 e1) (lim_big hl) botEv ?_ e5]
              · walk_at "fc"
              · intro ρ x ρ2 hx hf
                obtain ⟨q, hq, rfl⟩ := List.mem_map.mp hx
                unfold botEv at hf
                split at hf
                · rename_i d2 t2 v2 w2
                  rw [unfr_fr] at hf
                  simp only at hf
                  split at hf
                  · rename_i hc
                    cases hf
                    simp only [Bool.and_eq_true, decide_eq_true_eq] at hc
                    obtain ⟨⟨⟨h1, h2⟩, h3⟩, h4⟩ := hc
                    refine ⟨[d2, some (.int t2), some (.int q.1), some (.int q.2)], rfl, ?_⟩
                    have k8 : ok8 q.2 = true := ok8_iff.mpr (Nat.lt_of_lt_of_le (ok4_iff.mp h4) (Nat.pow_le_pow_right (by decide) (by decide)))
                    walk_at "fc"
                    simp only [opMul, ok4_mul h3 h4, s_greatest_divisor, k8]
                    walk_at "fc"
                    simp only [opDiv, gcd_div_ok h1 k8]
                    walk_at "fc"
                    rfl
                  · cases hf
                · cases hf
            rw [this]
            exact .same _
          · exact .stuck _
        · exact .stuck _
      · exact .stuck _
    · exact .stuck _
  · exact .stuck _
end Fc

/-! FcSpecC: chances, digits, open words. -/
namespace Fc
open PySem L2
local macro_rules | `(tactic| walk_at "fc") => `(tactic| try simp only [runB, cSeq, cNil, cRet, cExpr, cIf, cSet, cAsg, cPar, cAug, cRaise, cStore, cPass, toS_ok, toS_exn, toS_stuck, Res.bd_ok, Res.bd_exn, Res.bd_stuck, Res.bdN_ok, Res.bdN_exn, Res.bdN_stuck,
  eVar, eC, eTup, eLst, eOp, eChain, eUn, eAnd, eOr, eNot, eIf, tTs, tAnd2, tOr2, tNot2, tTrue, eCall, eBi, eIsi, eMtL, eSl, oNo, oSo, lNil, lCons, iSeq, iRange1, iRange2, zAdd, zSub, zMul, zDiv, zMod, ofO, opInt, opIn, opNotIn, opEq, opNe, opIs, opIsnt,
  List.map_cons, List.map_nil, List.length_cons, List.length_nil, List.replicate, List.append_nil, List.nil_append, List.cons_append, List.getElem?_cons_zero, List.getElem?_cons_succ, List.getElem?_nil, List.set_cons_zero, List.set_cons_succ, List.set_nil, lm0, lm1, lm2, lm3, lm4, lm5, lm6, lm7, lm8, lm9, asg_nm, asg_tp, asgs_nil, asgs_cons, Option.bind_some, Option.bind_none, Option.map_some, Option.map_none,
  Nat.reduceSub, Nat.reduceAdd, Nat.zero_add, Nat.add_zero, Nat.sub_self, if_true, if_false, reduceIte, Bool.false_eq_true, Bool.true_eq_false, reduceCtorEq])
local macro_rules | `(tactic| walk_at "fo") => `(tactic| try simp only [*, runB, cSeq, cNil, cRet, cExpr, cIf, cSet, cAsg, cPar, cAug, cRaise, cStore, cPass, toS_ok, toS_exn, toS_stuck, Res.bd_ok, Res.bd_exn, Res.bd_stuck, Res.bdN_ok, Res.bdN_exn, Res.bdN_stuck,
  eVar, eC, eTup, eLst, eOp, eChain, eUn, eAnd, eOr, eNot, eIf, tTs, tAnd2, tOr2, tNot2, tTrue, eCall, eBi, eIsi, eMtL, eSl, oNo, oSo, lNil, lCons, iSeq, iRange1, iRange2, zAdd, zSub, zMul, zDiv, zMod, ofO, opInt, opIn, opNotIn, opEq, opNe, opIs, opIsnt,
  List.map_cons, List.map_nil, List.length_cons, List.length_nil, List.replicate, List.append_nil, List.nil_append, List.cons_append, List.getElem?_cons_zero, List.getElem?_cons_succ, List.getElem?_nil, List.set_cons_zero, List.set_cons_succ, List.set_nil, lm0, lm1, lm2, lm3, lm4, lm5, lm6, lm7, lm8, lm9, asg_nm, asg_tp, asgs_nil, asgs_cons, Option.bind_some, Option.bind_none, Option.map_some, Option.map_none,
  Nat.reduceSub, Nat.reduceAdd, Nat.zero_add, Nat.add_zero, Nat.sub_self, if_true, if_false, reduceIte, Bool.false_eq_true, Bool.true_eq_false, reduceCtorEq, and_self, Bool.and_self, decide_true, decide_false])
local macro_rules | `(tactic| walk_at "fg") => `(tactic| try simp only [*, runB, cSeq, cNil, cRet, cExpr, cIf, cSet, cAsg, cPar, cAug, cRaise, cStore, cPass, toS_ok, toS_exn, toS_stuck, Res.bd_ok, Res.bd_exn, Res.bd_stuck, Res.bdN_ok, Res.bdN_exn, Res.bdN_stuck,
  eVar, eC, eTup, eLst, eOp, eChain, eUn, eAnd, eOr, eNot, eIf, tTs, tAnd2, tOr2, tNot2, tTrue, eCall, eBi, eIsi, eMtL, eSl, oNo, oSo, lNil, lCons, iSeq, iRange1, iRange2, zAdd, zSub, zMul, zDiv, zMod, ofO, opInt, opIn, opNotIn, opEq, opNe, opIs, opIsnt,
  List.map_cons, List.map_nil, List.length_cons, List.length_nil, List.replicate, List.append_nil, List.nil_append, List.cons_append, List.getElem?_cons_zero, List.getElem?_cons_succ, List.getElem?_nil, List.set_cons_zero, List.set_cons_succ, List.set_nil, lm0, lm1, lm2, lm3, lm4, lm5, lm6, lm7, lm8, lm9, asg_nm, asg_tp, asgs_nil, asgs_cons, Option.bind_some, Option.bind_none, Option.map_some, Option.map_none,
  Nat.reduceSub, Nat.reduceAdd, Nat.zero_add, Nat.add_zero, Nat.sub_self, if_true, if_false, reduceIte, Bool.false_eq_true, Bool.true_eq_false, reduceCtorEq, and_self, Bool.and_self, decide_true, decide_false, List.append_assoc, List.length_append, Nat.add_assoc, at_new, at_newk, add_rr, ix_ref, seq_ref, list_ref, seq_tup, seq_fz, list_fz, ix_tup, ix_fz, neg_int, app_ref, set_newk, set_new0, iZ, slD, eLc, len_tup, len_ref])
local macro_rules | `(tactic| walk_at "fs") => `(tactic| try simp [runB, cSeq, cNil, cRet, cExpr, cIf, cSet, cAsg, cPar, cAug, cRaise, cStore, cPass, toS_ok, toS_exn, toS_stuck, Res.bd_ok, Res.bd_exn, Res.bd_stuck, Res.bdN_ok, Res.bdN_exn, Res.bdN_stuck,
  eVar, eC, eTup, eLst, eOp, eChain, eUn, eAnd, eOr, eNot, eIf, tTs, tAnd2, tOr2, tNot2, tTrue, eCall, eBi, eIsi, eMtL, eSl, oNo, oSo, lNil, lCons, iSeq, iRange1, iRange2, zAdd, zSub, zMul, zDiv, zMod, ofO, opInt, opIn, opNotIn, opEq, opNe, opIs, opIsnt,
  List.map_cons, List.map_nil, List.length_cons, List.length_nil, List.replicate, List.append_nil, List.nil_append, List.cons_append, List.getElem?_cons_zero, List.getElem?_cons_succ, List.getElem?_nil, List.set_cons_zero, List.set_cons_succ, List.set_nil, lm0, lm1, lm2, lm3, lm4, lm5, lm6, lm7, lm8, lm9, asg_nm, asg_tp, asgs_nil, asgs_cons, Option.bind_some, Option.bind_none, Option.map_some, Option.map_none,
  Nat.reduceSub, Nat.reduceAdd, Nat.zero_add, Nat.add_zero, Nat.sub_self, if_true, if_false, reduceIte, Bool.false_eq_true, Bool.true_eq_false, reduceCtorEq, len_tup, ty_non, ty_bl, ty_int, ty_str, ty_tup, ty_fz, isT, eqD_int, seq_tup, seq_fz, list_fz])
local macro_rules | `(tactic| walk_at "fh") => `(tactic| try simp [*, runB, cSeq, cNil, cRet, cExpr, cIf, cSet, cAsg, cPar, cAug, cRaise, cStore, cPass, toS_ok, toS_exn, toS_stuck, Res.bd_ok, Res.bd_exn, Res.bd_stuck, Res.bdN_ok, Res.bdN_exn, Res.bdN_stuck,
  eVar, eC, eTup, eLst, eOp, eChain, eUn, eAnd, eOr, eNot, eIf, tTs, tAnd2, tOr2, tNot2, tTrue, eCall, eBi, eIsi, eMtL, eSl, oNo, oSo, lNil, lCons, iSeq, iRange1, iRange2, zAdd, zSub, zMul, zDiv, zMod, ofO, opInt, opIn, opNotIn, opEq, opNe, opIs, opIsnt,
  List.map_cons, List.map_nil, List.length_cons, List.length_nil, List.replicate, List.append_nil, List.nil_append, List.cons_append, List.getElem?_cons_zero, List.getElem?_cons_succ, List.getElem?_nil, List.set_cons_zero, List.set_cons_succ, List.set_nil, lm0, lm1, lm2, lm3, lm4, lm5, lm6, lm7, lm8, lm9, asg_nm, asg_tp, asgs_nil, asgs_cons, Option.bind_some, Option.bind_none, Option.map_some, Option.map_none,
  Nat.reduceSub, Nat.reduceAdd, Nat.zero_add, Nat.add_zero, Nat.sub_self, if_true, if_false, reduceIte, Bool.false_eq_true, Bool.true_eq_false, reduceCtorEq, len_tup, ty_non, ty_bl, ty_int, ty_str, ty_tup, ty_fz, isT, eqD_int, seq_tup, seq_fz, list_fz, ix0, ix1, s_is_integer, s_is_between])
local macro_rules | `(tactic| walk_at "fs") => `(tactic| try simp [runB, cSeq, cNil, cRet, cExpr, cIf, cSet, cAsg, cPar, cAug, cRaise, cStore, cPass, toS_ok, toS_exn, toS_stuck, Res.bd_ok, Res.bd_exn, Res.bd_stuck, Res.bdN_ok, Res.bdN_exn, Res.bdN_stuck,
  eVar, eC, eTup, eLst, eOp, eChain, eUn, eAnd, eOr, eNot, eIf, tTs, tAnd2, tOr2, tNot2, tTrue, eCall, eBi, eIsi, eMtL, eSl, oNo, oSo, lNil, lCons, iSeq, iRange1, iRange2, zAdd, zSub, zMul, zDiv, zMod, ofO, opInt, opIn, opNotIn, opEq, opNe, opIs, opIsnt,
  List.map_cons, List.map_nil, List.length_cons, List.length_nil, List.replicate, List.append_nil, List.nil_append, List.cons_append, List.getElem?_cons_zero, List.getElem?_cons_succ, List.getElem?_nil, List.set_cons_zero, List.set_cons_succ, List.set_nil, lm0, lm1, lm2, lm3, lm4, lm5, lm6, lm7, lm8, lm9, asg_nm, asg_tp, asgs_nil, asgs_cons, Option.bind_some, Option.bind_none, Option.map_some, Option.map_none,
  Nat.reduceSub, Nat.reduceAdd, Nat.zero_add, Nat.add_zero, Nat.sub_self, if_true, if_false, reduceIte, Bool.false_eq_true, Bool.true_eq_false, reduceCtorEq, len_tup, ty_non, ty_bl, ty_int, ty_str, ty_tup, ty_fz, isT, eqD_int, seq_tup, seq_fz, list_fz, ix0, ix1, s_is_integer, s_is_between])
theorem py_fr (S : Sto) (p : Fr) : (fr p).py S = some (.tuple [.int p.1, .int p.2]) := rfl
theorem eqD_fr (p q : Fr) (S : Sto) : eqD (fr p) (fr q) S = some (decide (p = q)) := by
  have e1 : SeqAt.shaped (.tuple [.int p.1, .int p.2]) = true := rfl
  have e2 : SeqAt.shaped (.tuple [.int q.1, .int q.2]) = true := rfl
  have e : eqD (fr p) (fr q) S = some (PyData.eqv (.tuple [.int p.1, .int p.2]) (.tuple [.int q.1, .int q.2])) := by
    unfold eqD fr
    simp only [← fr_eta, py_fr, e1, e2, Bool.and_self, if_true]
  rw [e]
  congr 1
  obtain ⟨a, b⟩ := p
  obtain ⟨c, d⟩ := q
  simp [PyData.eqv, PyData.eqvAll]
  rfl
theorem tyD_grow {S : Sto} {d : Dv} {t : Ty} (h : tyD S d = some t) (G : Sto) : tyD (S ++ G) d = some t := by
  cases d with
  | ref n =>
    simp only [tyD] at h ⊢
    split at h
    · rename_i e; rw [getElem?_grow e G]; exact h
    · rename_i e; rw [getElem?_grow e G]; exact h
    · rename_i e; rw [getElem?_grow e G]; exact h
    · cases h
  | _ => exact h
theorem fracO_grow {S : Sto} {d : Dv} {b : Bool} (h : fracO S d = some b) (G : Sto) : fracO (S ++ G) d = some b := by
  unfold fracO at h ⊢
  split at h
  · exact h
  all_goals
    obtain ⟨t, e1, e2⟩ := Option.map_eq_some_iff.mp h
    rw [tyD_grow e1 G]
    simpa using e2
def nonneg : Dv → Bool
  | .tup (.int i :: _) => decide (0 ≤ i)
  | _ => false
theorem nonneg_fr (p : Fr) : nonneg (fr p) = decide (0 ≤ p.1) := rfl
theorem frac_true {S : Sto} {d : Dv} (h : fracO S d = some true) : ∃ p : Fr, d = fr p ∧ 0 < p.2 ∧ Int.gcd p.1 p.2 = 1 := by
  unfold fracO at h
  split at h
  · rename_i i j
    split at h
    · cases h
    · rename_i h1
      split at h
      · exact ⟨(i, j), rfl, by simp only; omega, by simpa using h⟩
      · cases h
  all_goals
    obtain ⟨t, e1, e2⟩ := Option.map_eq_some_iff.mp h
    cases e2
/-- whether a value is chances -/
def chO (S : Sto) : Dv → Option Bool
  | .tup es => if decide (1 ≤ es.length) && decide (es.length ≤ 6) then (if es.all (fun x => (fracO S x).isSome) then
      (if es.all (fun x => fracO S x == some true && nonneg x) then (match unfrs es with
        | some ps => match addedO ps with
          | some r => if r = (1, 1) then (botO ps 1).map (fun b => decide (b ≤ 30)) else some false
          | none => none
        | none => none) else some false) else none) else some false
  | d => (tyD S d).map fun _ => false
noncomputable def b_is_chances : DS :=
 (cSeq (cIf (tOr2 (tNot2 (tTs (eIsi .tup (eVar 0)))) (tNot2 (tTs (eChain opLe opLe (eC (.int 1)) (eBi fLen (lCons (eVar 0) lNil)) (eC (.int 6))))))
 (cSeq (cRet (eC (.bl false)))
 cNil)
 cNil)
 (cSeq (cIf (tNot2 (tTs (eBi fAll (lCons (eLc (iSeq (eVar 0)) (.nm 1) tTrue (eAnd (eCall 1 s_is_fraction (lCons (eVar 1) lNil)) (eOp opGe (eOp opIx (eVar 1) (eC (.int 0))) (eC (.int 0)))) [1]) lNil))))
 (cSeq (cRet (eC (.bl false)))
 cNil)
 cNil)
 (cSeq (cRet (eAnd (eOp opEq (eCall 1 s_added (lCons (eVar 0) lNil)) (eC (.tup [.int 1, .int 1]))) (eOp opLe (eCall 1 s_common_bottom (lCons (eVar 0) lNil)) (eC (.int 30)))))
 cNil)))
noncomputable abbrev r_is_chances : Den := runB 2 b_is_chances
def s_is_chances : Den := fun ds S => match ds with
  | [d] => match chO S d with
    | some b => .ok (.bl b) S
    | none => .stuck
  | _ => .stuck
def goodB (S : Sto) (x : Dv) : Bool := fracO S x == some true && nonneg x
theorem elt_good {S : Sto} {x : Dv} {b : Bool} (h : fracO S x = some b) {ρ : Ev} (h1 : ρ[1]? = some (some x)) :
    eAnd (eCall 1 s_is_fraction (lCons (eVar 1) lNil)) (eOp opGe (eOp opIx (eVar 1) (eC (.int 0))) (eC (.int 0))) ρ S = .ok (.bl (goodB S x)) S := by
  walk_at "fc"
  rw [h1]
  walk_at "fc"
  simp only [s_is_fraction, h]
  walk_at "fc"
  cases b with
  | false => simp [goodB, h]
  | true =>
    obtain ⟨p, rfl, h2, h3⟩ := frac_true h
    have : opIx (fr p) (.int 0) S = some (.int p.1, S) := ix0
    walk_at "fc"
    rw [this]
    walk_at "fc"
    simp [goodB, h, nonneg_fr]
theorem all_bls (es : List Dv) (f : Dv → Bool) : blsOf (es.map fun x => .bl (f x)) = some (es.map f) := by
  have := blsOf_map (es.map f)
  rwa [List.map_map] at this
theorem le_is_chances : ∀ ds S, ds.length = 1 → Le S (s_is_chances ds S) (r_is_chances ds S) := by
  intro ds S h
  unfold s_is_chances
  split
  · rename_i d
    split
    · rename_i c e
      have other : ∀ t, tyD S d = some t → isT t .tup = false → c = false → Le S (.ok (.bl c) S) (r_is_chances [d] S) := by
        intro t e1 e2 e3
        subst e3
        have : r_is_chances [d] S = .ok (.bl false) S := by
          unfold r_is_chances b_is_chances
          walk_at "fc"
          simp only [e1, e2]
          walk_at "fc"
          simp
        rw [this]
        exact .same _
      cases d with
      | tup es =>
        simp only [chO] at e
        by_cases hl : (decide (1 ≤ es.length) && decide (es.length ≤ 6)) = true
        · rw [if_pos hl] at e
          simp only [Bool.and_eq_true, decide_eq_true_eq] at hl
          split at e
          · rename_i ha
            have lc : lcL (itSeq (.tup es)) (.nm 1) tTrue (eAnd (eCall 1 s_is_fraction (lCons (eVar 1) lNil)) (eOp opGe (eOp opIx (eVar 1) (eC (.int 0))) (eC (.int 0)))) (wipeD [some (.tup es), none] [1]) S.length big 0 (S ++ [.lst []]) = .ok (.ref S.length) (S ++ [.lst (es.map fun x => .bl (goodB S x))]) := by
              refine lc_map es (fun x => .bl (goodB S x)) (Nat.le_trans hl.2 (by decide)) (fun acc i => it_tup es _ i) fun x hx acc => ⟨_, rfl, ?_⟩
              have hs := List.all_eq_true.mp ha x hx
              obtain ⟨b, hb⟩ := Option.isSome_iff_exists.mp hs
              have hb2 := fracO_grow hb [.lst acc]
              have := elt_good hb2 (ρ := (wipeD [some (.tup es), none] [1]).set 1 (some x)) rfl
              rw [this]
              simp only [goodB, hb, hb2]
            have hl1 : (1 : Int) ≤ (es.length : Int) := by omega
            have hl2 : (es.length : Int) ≤ 6 := by omega
            have hm : (S ++ [Ob.lst (es.map fun x => Dv.bl (goodB S x))])[S.length]? = some (.lst (es.map fun x => Dv.bl (goodB S x))) := by simp
            have mid : fAll [.ref S.length] (S ++ [Ob.lst (es.map fun x => Dv.bl (goodB S x))]) = some (.bl (es.all (goodB S)), S ++ [Ob.lst (es.map fun x => Dv.bl (goodB S x))]) := by
              simp only [fAll, listOf, hm, all_bls]
              simp [List.all_map]
            have run : r_is_chances [.tup es] S = .ok (.bl c) (S ++ [Ob.lst (es.map fun x => Dv.bl (goodB S x))]) := by
              unfold r_is_chances b_is_chances
              walk_at "fs"
              simp [hl1, hl2]
              walk_at "fc"
              simp only [eLc]
              walk_at "fc"
              simp only [seqOf]
              walk_at "fc"
              rw [lc]
              walk_at "fc"
              rw [mid]
              walk_at "fc"
              have hg : (es.all fun x => fracO S x == some true && nonneg x) = es.all (goodB S) := rfl
              rw [hg] at e
              cases hA : es.all (goodB S) with
              | false =>
                rw [hA] at e
                cases e
                simp
              | true =>
                rw [hA, if_pos rfl] at e
                split at e
                · rename_i ps e2
                  split at e
                  · rename_i r e3
                    have e4 := unfrs_eq e2
                    have hlim : es.length ≤ lim := Nat.le_trans hl.2 (by decide)
                    simp
                    walk_at "fc"
                    simp only [s_added, seqOf, hlim, e2, e3, if_true]
                    walk_at "fc"
                    rw [show (Dv.tup [.int 1, .int 1]) = fr (1, 1) from rfl, eqD_fr]
                    by_cases h1 : r = (1, 1)
                    · rw [if_pos h1] at e
                      obtain ⟨bb, e5, e6⟩ := Option.map_eq_some_iff.mp e
                      simp [h1]
                      walk_at "fc"
                      simp only [s_common_bottom, seqOf, hlim, e2, e5, if_true]
                      walk_at "fc"
                      rw [e6]
                    · rw [if_neg h1] at e
                      cases e
                      simp [h1]
                  · cases e
                · cases e
            rw [run]
            exact .drop _ S _ rfl (Kept.refl S)
          · cases e
        · rw [if_neg hl] at e
          cases e
          have : r_is_chances [.tup es] S = .ok (.bl false) S := by
            unfold r_is_chances b_is_chances
            simp only [Bool.and_eq_true, decide_eq_true_eq] at hl
            walk_at "fs"
            by_cases h1 : 1 ≤ es.length
            · have h2 : ¬ ((es.length : Int) ≤ 6) := by omega
              have h3 : (1 : Int) ≤ es.length := by omega
              simp [h2, h3]
            · have h3 : ¬ (1 : Int) ≤ es.length := by omega
              simp [h3]
          rw [this]
          exact .same _
      | non => exact other .non rfl (by decide) (by simpa [chO, tyD] using e.symm)
      | bl b => exact other .bl rfl (by decide) (by simpa [chO, tyD] using e.symm)
      | int i => exact other .int rfl (by decide) (by simpa [chO, tyD] using e.symm)
      | str x => exact other .str rfl (by decide) (by simpa [chO, tyD] using e.symm)
      | fz x => exact other .lst rfl (by decide) (by simpa [chO, tyD] using e.symm)
      | ref n =>
        simp only [chO] at e
        obtain ⟨t, e1, e2⟩ := Option.map_eq_some_iff.mp e
        refine other t e1 ?_ e2.symm
        simp only [tyD] at e1
        split at e1 <;> cases e1 <;> decide
    · exact .stuck _
  · exact .stuck _
/-! ### the checks -/
def btwO (S : Sto) (d : Dv) (lo hi : Int) : Option Bool := match d with
  | .int i => some (decide (lo ≤ i) && decide (i ≤ hi))
  | d => match tyD S d with
    | some t => if t = .int then none else some false
    | none => none
theorem btw_eq (S : Sto) (d : Dv) (lo hi : Int) : s_is_between [d, .int lo, .int hi] S = (match btwO S d lo hi with
    | some b => .ok (.bl b) S
    | none => .stuck) := by
  cases d with
  | int i => rfl
  | ref n =>
    simp only [s_is_between, btwO]
    cases tyD S (.ref n) with
    | none => rfl
    | some t => by_cases h : t = .int <;> simp [h]
  | _ => rfl
def chkR (o : Option Bool) (c : Nat) (S : Sto) : Res Dv := match o with
  | some true => .ok .non S
  | some false => .exn c S
  | none => .stuck
noncomputable def b_check_chances : DS :=
 (cSeq (cIf (tNot2 (tTs (eCall 1 s_is_chances (lCons (eVar 0) lNil))))
 (cSeq (cRaise 2)
 cNil)
 cNil)
 cNil)
noncomputable abbrev r_check_chances : Den := runB 1 b_check_chances
def s_check_chances : Den := fun ds S => match ds with
  | [d] => chkR (chO S d) 2 S
  | _ => .stuck
theorem le_check_chances : ∀ ds S, ds.length = 1 → Le S (s_check_chances ds S) (r_check_chances ds S) := by
  intro ds S h
  unfold s_check_chances
  split
  · rename_i d
    unfold r_check_chances b_check_chances
    walk_at "fc"
    simp only [s_is_chances]
    rcases chO S d with _ | _ | _
    · exact .stuck _
    · walk_at "fc"
      exact .same _
    · walk_at "fc"
      exact .same _
  · exact .stuck _
noncomputable def b_check_sides : DS :=
 (cSeq (cIf (tNot2 (tTs (eCall 3 s_is_between (lCons (eVar 0) (lCons (eC (.int 2)) (lCons (eC (.int 6)) lNil))))))
 (cSeq (cRaise 0)
 cNil)
 cNil)
 cNil)
noncomputable abbrev r_check_sides : Den := runB 1 b_check_sides
def s_check_sides : Den := fun ds S => match ds with
  | [d] => chkR (btwO S d 2 6) 0 S
  | _ => .stuck
theorem le_check_sides : ∀ ds S, ds.length = 1 → Le S (s_check_sides ds S) (r_check_sides ds S) := by
  intro ds S h
  unfold s_check_sides
  split
  · rename_i d
    unfold r_check_sides b_check_sides
    walk_at "fc"
    simp only [btw_eq]
    rcases btwO S d 2 6 with _ | _ | _
    · exact .stuck _
    · walk_at "fc"
      exact .same _
    · walk_at "fc"
      exact .same _
  · exact .stuck _
noncomputable def b_check_throws : DS :=
 (cSeq (cIf (tNot2 (tTs (eCall 3 s_is_between (lCons (eVar 0) (lCons (eC (.int 0)) (lCons (eVar 1) lNil))))))
 (cSeq (cRaise 1)
 cNil)
 cNil)
 cNil)
noncomputable abbrev r_check_throws : Den := runB 2 b_check_throws
def s_check_throws : Den := fun ds S => match ds with
  | [d, .int m] => chkR (btwO S d 0 m) 1 S
  | _ => .stuck
theorem le_check_throws : ∀ ds S, ds.length = 2 → Le S (s_check_throws ds S) (r_check_throws ds S) := by
  intro ds S h
  unfold s_check_throws
  split
  · rename_i d m
    unfold r_check_throws b_check_throws
    walk_at "fc"
    simp only [btw_eq]
    rcases btwO S d 0 m with _ | _ | _
    · exact .stuck _
    · walk_at "fc"
      exact .same _
    · walk_at "fc"
      exact .same _
  · exact .stuck _
/-! ### floors -/
def flo (s : Int) (k : Nat) (p : Fr) : Int := s ^ k * p.1 / p.2
def okP (p : Fr) : Bool := decide (0 < p.2) && ok4 p.1 && ok4 p.2
def okS (s : Int) (k : Int) : Bool := decide (s.natAbs < 16) && decide (-1000000 ≤ k) && decide (k ≤ 1000)
/-- the chances of a value, where they are small -/
def chs (d : Dv) : Option (List Fr) := match d with
  | .tup es => if decide (es.length ≤ 64) then (match unfrs es with
    | some ps => if ps.all okP then some ps else none
    | none => none) else none
  | _ => none
theorem chs_eq {d : Dv} {ps : List Fr} (h : chs d = some ps) : d = .tup (ps.map fr) ∧ ps.length ≤ 64 ∧ ∀ p ∈ ps, okP p = true := by
  unfold chs at h
  split at h
  · split at h
    · rename_i hl
      split at h
      · rename_i qs e
        split at h
        · rename_i ha
          cases h
          have e2 := unfrs_eq e
          subst e2
          exact ⟨rfl, by simpa using hl, List.all_eq_true.mp ha⟩
        · cases h
      · cases h
    · cases h
  · cases h
theorem okP_iff {p : Fr} : okP p = true ↔ 0 < p.2 ∧ ok4 p.1 = true ∧ ok4 p.2 = true := by
  simp [okP, and_assoc]
theorem okS_pow {s k : Int} (h : okS s k = true) : (s ^ k.toNat).natAbs < 2 ^ 4001 := by
  simp only [okS, Bool.and_eq_true, decide_eq_true_eq] at h
  exact pow_lt h.1.1 (by omega)
theorem pow_eq {s k : Int} {S : Sto} (h : okS s k = true) : s_power [.int s, .int k] S = .ok (.int (s ^ k.toNat)) S := if_pos h
noncomputable def b_floors : DS :=
 (cSeq (cSet 3 (eCall 2 s_power (lCons (eVar 1) (lCons (eVar 2) lNil))))
 (cSeq (cRet (eLc (iSeq (eVar 0)) (.tp [(.nm 4), (.nm 5)]) tTrue (eOp opDiv (eOp opMul (eVar 3) (eVar 4)) (eVar 5)) [4, 5]))
 cNil))
noncomputable abbrev r_floors : Den := runB 6 b_floors
def s_floors : Den := fun ds S => match ds with
  | [d, .int s, .int k] => match chs d with
    | some ps => if okS s k then .ok (.ref S.length) (S ++ [.lst (ps.map fun p => .int (flo s k.toNat p))]) else .stuck
    | none => .stuck
  | _ => .stuck
theorem le_floors : ∀ ds S, ds.length = 3 → Le S (s_floors ds S) (r_floors ds S) := by
  intro ds S h
  unfold s_floors
  split
  · rename_i d s k
    split
    · rename_i ps e
      split
      · rename_i hk
        obtain ⟨rfl, hl, hp⟩ := chs_eq e
        have run : r_floors [.tup (ps.map fr), .int s, .int k] S = .ok (.ref S.length) (S ++ [.lst (ps.map fun p => .int (flo s k.toNat p))]) := by
          unfold r_floors b_floors
          walk_at "fc"
          rw [pow_eq hk]
          walk_at "fc"
          simp only [eLc]
          walk_at "fc"
          simp only [seqOf]
          walk_at "fc"
          have := lc_map (it := itSeq (.tup (ps.map fr))) (tg := .tp [.nm 4, .nm 5]) (elt := eOp opDiv (eOp opMul (eVar 3) (eVar 4)) (eVar 5)) (ρ := wipeD [some (.tup (ps.map fr)), some (.int s), some (.int k), some (.int (s ^ k.toNat)), none, none] [4, 5]) (S := S)
            (ps.map fr) (fun x => match unfr x with
              | some p => .int (flo s k.toNat p)
              | none => .non) (by simp only [List.length_map]; exact Nat.le_trans hl (by decide)) (fun acc i => it_tup _ _ i) (by
                intro x hx acc
                obtain ⟨p, hq, rfl⟩ := List.mem_map.mp hx
                obtain ⟨h1, h2, h3⟩ := okP_iff.mp (hp p hq)
                refine ⟨_, rfl, ?_⟩
                have hm : mulOk (s ^ k.toNat) p.1 = true := mulOk_of (a := 4001) (b := 4000) (okS_pow hk) (ok4_iff.mp h2) (by decide) (by decide) (by decide)
                have hd : divOk p.2 = true := divOk_of (a := 4000) h1 (ok4_iff.mp h3) (by decide) (by decide)
                simp only [wipeD]
                walk_at "fc"
                simp only [opMul, hm]
                walk_at "fc"
                simp only [opDiv, hd]
                walk_at "fc"
                rfl)
          rw [this]
          walk_at "fc"
          simp [List.map_map]
        rw [run]
        exact .same _
      · exact .stuck _
    · exact .stuck _
  · exact .stuck _
theorem listOf_new (S : Sto) (ds : List Dv) : listOf (S ++ [.lst ds]) (.ref S.length) = some ds := by simp [listOf]
theorem seqOf_new (S : Sto) (ds : List Dv) : seqOf (S ++ [.lst ds]) (.ref S.length) = some ds := listOf_new S ds
noncomputable def b_open_at_least : DS :=
 (cSeq (cRet (eOp opSub (eCall 2 s_power (lCons (eVar 1) (lCons (eVar 2) lNil))) (eBi fSum (lCons (eCall 3 s_floors (lCons (eVar 0) (lCons (eVar 1) (lCons (eVar 2) lNil)))) lNil))))
 cNil)
noncomputable abbrev r_open_at_least : Den := runB 3 b_open_at_least
def s_open_at_least : Den := fun ds S => match ds with
  | [d, .int s, .int k] => match chs d with
    | some ps => if okS s k then .ok (.int (s ^ k.toNat - (ps.map (flo s k.toNat)).sum)) S else .stuck
    | none => .stuck
  | _ => .stuck
theorem le_open_at_least : ∀ ds S, ds.length = 3 → Le S (s_open_at_least ds S) (r_open_at_least ds S) := by
  intro ds S h
  unfold s_open_at_least
  split
  · rename_i d s k
    split
    · rename_i ps e
      split
      · rename_i hk
        have run : r_open_at_least [d, .int s, .int k] S = .ok (.int (s ^ k.toNat - (ps.map (flo s k.toNat)).sum)) (S ++ [.lst (ps.map fun p => .int (flo s k.toNat p))]) := by
          unfold r_open_at_least b_open_at_least
          walk_at "fc"
          rw [pow_eq hk]
          walk_at "fc"
          simp only [s_floors, e, hk]
          walk_at "fc"
          have : (ps.map fun p => Dv.int (flo s k.toNat p)) = (ps.map (flo s k.toNat)).map Dv.int := by rw [List.map_map]; rfl
          simp only [fSum, listOf_new, this, intsOf_map]
          walk_at "fc"
        rw [run]
        exact .drop _ S _ rfl (Kept.refl S)
      · exact .stuck _
    · exact .stuck _
  · exact .stuck _
/-- the pairs that a zip walks -/
def zipD (ds es : List Dv) : List Dv := (ds.zip es).map fun p => .tup [p.1, p.2]
theorem zip_maps {α β γ : Type} (f : α → β) (g : α → γ) : ∀ ps : List α, (ps.map f).zip (ps.map g) = ps.map fun p => (f p, g p)
  | [] => rfl
  | p :: ps => by simp [zip_maps f g ps]
theorem zipD_maps {α : Type} (f g : α → Dv) (ps : List α) : zipD (ps.map f) (ps.map g) = ps.map fun p => .tup [f p, g p] := by
  simp only [zipD, zip_maps, List.map_map]
  rfl
theorem it_zip {S : Sto} {d e : Dv} {ds es : List Dv} (h1 : seqOf S d = some ds) (h2 : seqOf S e = some es) (G : Sto) (i : Nat) : itZip d e (S ++ G) i = some (zipD ds es)[i]? := by
  simp only [itZip, seqOf_grow h1 G, seqOf_grow h2 G, zipD, List.getElem?_map, List.getElem?_zip_eq_some]
  congr 1
  by_cases hi : i < (ds.zip es).length
  · have hl : i < ds.length ∧ i < es.length := by simpa [List.length_zip, Nat.lt_min] using hi
    rw [List.getElem?_eq_getElem hl.1, List.getElem?_eq_getElem hl.2, List.getElem?_eq_getElem hi]
    simp
  · have hl : ¬ (i < ds.length ∧ i < es.length) := by simpa [List.length_zip, Nat.lt_min] using hi
    rw [List.getElem?_eq_none (Nat.le_of_not_lt hi)]
    by_cases h3 : i < ds.length
    · rw [List.getElem?_eq_none (by omega : es.length ≤ i)]
      simp
    · rw [List.getElem?_eq_none (by omega : ds.length ≤ i)]
      simp
def dig (s : Int) (k : Nat) (p : Fr) : Int := if k = 0 then flo s 0 p else flo s k p - s * flo s (k - 1) p
noncomputable def b_digits_at : DS :=
 (cSeq (cSet 3 (eCall 3 s_floors (lCons (eVar 0) (lCons (eVar 1) (lCons (eVar 2) lNil)))))
 (cSeq (cIf (tTs (eOp opEq (eVar 2) (eC (.int 0))))
 (cSeq (cRet (eBi fTuple (lCons (eVar 3) lNil)))
 cNil)
 cNil)
 (cSeq (cRet (eBi fTuple (lCons (eLc (iZ (lCons (eVar 3) (lCons (eCall 3 s_floors (lCons (eVar 0) (lCons (eVar 1) (lCons (eOp opSub (eVar 2) (eC (.int 1))) lNil)))) lNil))) (.tp [(.nm 4), (.nm 5)]) tTrue (eOp opSub (eVar 4) (eOp opMul (eVar 1) (eVar 5))) [4, 5]) lNil)))
 cNil)))
noncomputable abbrev r_digits_at : Den := runB 6 b_digits_at
def s_digits_at : Den := fun ds S => match ds with
  | [d, .int s, .int k] => match chs d with
    | some ps => if okS s k && decide (0 ≤ k) then .ok (.tup (ps.map fun p => .int (dig s k.toNat p))) S else .stuck
    | none => .stuck
  | _ => .stuck
theorem lows_ints (n : Nat) {α : Type} (f : α → Int) : ∀ ps : List α, Dv.lows n (ps.map fun p => .int (f p)) = true
  | [] => rfl
  | p :: ps => by simp [Dv.lows, Dv.low, lows_ints n f ps]
theorem flo_big {s : Int} {k : Int} {p : Fr} (hk : okS s k = true) (hp : okP p = true) : (flo s k.toNat p).natAbs < 2 ^ 8002 := by
  obtain ⟨h1, h2, h3⟩ := okP_iff.mp hp
  have e := abs_mul (a := 4001) (b := 4000) (okS_pow hk) (ok4_iff.mp h2)
  unfold flo
  generalize s ^ k.toNat * p.1 = x at e
  have : (x / p.2).natAbs ≤ x.natAbs := Int.natAbs_ediv_le_natAbs x p.2
  exact Nat.lt_of_le_of_lt this (Nat.lt_trans e (Nat.pow_lt_pow_right (by decide) (by decide)))
theorem le_digits_at : ∀ ds S, ds.length = 3 → Le S (s_digits_at ds S) (r_digits_at ds S) := by
  intro ds S h
  unfold s_digits_at
  split
  · rename_i d s k
    split
    · rename_i ps e
      split
      · rename_i hc
        obtain ⟨hk, h0⟩ := Bool.and_eq_true_iff.mp hc
        simp only [decide_eq_true_eq] at h0
        obtain ⟨rfl, hl, hp⟩ := chs_eq e
        by_cases hz : k = 0
        · subst hz
          have run : r_digits_at [.tup (ps.map fr), .int s, .int 0] S = .ok (.tup (ps.map fun p => .int (dig s 0 p))) (S ++ [.lst (ps.map fun p => .int (flo s 0 p))]) := by
            unfold r_digits_at b_digits_at
            walk_at "fc"
            simp only [s_floors, e, hk]
            walk_at "fc"
            simp only [eqD_int]
            simp
            walk_at "fc"
            simp only [fTuple, seqOf_new]
            walk_at "fc"
            simp [dig]
          rw [show (0 : Int).toNat = 0 from rfl, run]
          exact .drop _ S _ (lows_ints _ _ _) (Kept.refl S)
        · have hk1 : okS s (k - 1) = true := by
            simp only [okS, Bool.and_eq_true, decide_eq_true_eq] at hk ⊢
            exact ⟨⟨hk.1.1, by omega⟩, by omega⟩
          have hs16 : s.natAbs < 2 ^ 4 := by
            simp only [okS, Bool.and_eq_true, decide_eq_true_eq] at hk
            exact hk.1.1
          have hn : (k - 1).toNat = k.toNat - 1 := by omega
          have hn0 : k.toNat ≠ 0 := by omega
          have nz : decide (k = 0) = false := by simpa using hz
          let A : List Dv := ps.map fun p => .int (flo s k.toNat p)
          let B : List Dv := ps.map fun p => .int (flo s (k - 1).toNat p)
          let T : Sto := (S ++ [.lst A]) ++ [.lst B]
          have z1 : seqOf T (.ref S.length) = some A := seqOf_grow (seqOf_new S A) [.lst B]
          have z2 : seqOf T (.ref (S ++ [Ob.lst A]).length) = some B := seqOf_new (S ++ [.lst A]) B
          have lc := lc_map (it := itZip (.ref S.length) (.ref (S ++ [Ob.lst A]).length)) (tg := .tp [.nm 4, .nm 5]) (elt := eOp opSub (eVar 4) (eOp opMul (eVar 1) (eVar 5))) (ρ := wipeD [some (.tup (ps.map fr)), some (.int s), some (.int k), some (.ref S.length), none, none] [4, 5]) (S := T)
            (zipD A B) (fun x => match x with
              | .tup [.int a, .int b] => .int (a - s * b)
              | _ => .non) (by simp only [zipD, A, B, List.length_map, List.length_zip, Nat.min_self]; exact Nat.le_trans hl (by decide)) (fun acc i => it_zip z1 z2 _ i) (by
                intro x hx acc
                simp only [A, B, zipD_maps] at hx
                obtain ⟨p, h1, rfl⟩ := List.mem_map.mp hx
                have hb := flo_big hk1 (hp p h1)
                have hm : mulOk s (flo s (k - 1).toNat p) = true := mulOk_of hs16 hb (by decide) (by decide) (by decide)
                refine ⟨_, rfl, ?_⟩
                simp only [wipeD]
                walk_at "fc"
                simp only [opMul, hm]
                walk_at "fc")
          have run : r_digits_at [.tup (ps.map fr), .int s, .int k] S = .ok (.tup (ps.map fun p => .int (dig s k.toNat p))) (S ++ [.lst A, .lst B, .lst (ps.map fun p => .int (dig s k.toNat p))]) := by
            unfold r_digits_at b_digits_at
            walk_at "fc"
            simp only [s_floors, e, hk]
            walk_at "fc"
            simp only [eqD_int, nz]
            walk_at "fc"
            simp only [eLc, iZ]
            walk_at "fc"
            simp only [s_floors, e, hk1]
            walk_at "fc"
            have zz1 : seqOf (S ++ [.lst A] ++ [.lst B]) (.ref S.length) = some A := z1
            have zz2 : seqOf (S ++ [.lst A] ++ [.lst B]) (.ref (S ++ [Ob.lst A]).length) = some B := z2
            simp only [A, B] at zz1 zz2
            rw [zz1, zz2]
            walk_at "fc"
            simp only [A, B, T] at lc
            rw [lc]
            walk_at "fc"
            simp only [fTuple, seqOf_new]
            walk_at "fc"
            simp only [zipD_maps, List.map_map, Function.comp_def]
            have hd : ∀ p : Fr, dig s k.toNat p = flo s k.toNat p - s * flo s (k - 1).toNat p := fun p => by
              simp only [dig, if_neg hn0, hn]
            simp only [hd]
            simp [A, B, hn]
          rw [run]
          exact .drop _ S _ (lows_ints _ _ _) (Kept.refl S)
      · exact .stuck _
    · exact .stuck _
  · exact .stuck _
theorem run_chk {o : Option Bool} {c : Nat} {S : Sto} {f : Dv → Sto → Res Dv} : (chkR o c S).bd f = (match o with
    | some true => f .non S
    | some false => .exn c S
    | none => .stuck) := by
  rcases o with _ | _ | _ <;> rfl
noncomputable def b_digits : DS :=
 (cSeq (cExpr (eCall 1 s_check_chances (lCons (eVar 0) lNil)))
 (cSeq (cExpr (eCall 1 s_check_sides (lCons (eVar 1) lNil)))
 (cSeq (cExpr (eCall 2 s_check_throws (lCons (eVar 2) (lCons (eC (.int 60)) lNil))))
 (cSeq (cRet (eCall 3 s_digits_at (lCons (eVar 0) (lCons (eVar 1) (lCons (eVar 2) lNil)))))
 cNil))))
noncomputable abbrev r_digits : Den := runB 3 b_digits
def s_digits : Den := fun ds S => match ds with
  | [d, a, b] => (chkR (chO S d) 2 S).bd fun _ S => (chkR (btwO S a 2 6) 0 S).bd fun _ S => (chkR (btwO S b 0 60) 1 S).bd fun _ S => s_digits_at [d, a, b] S
  | _ => .stuck
theorem le_digits : ∀ ds S, ds.length = 3 → Le S (s_digits ds S) (r_digits ds S) := by
  intro ds S h
  unfold s_digits
  split
  · rename_i d a b
    unfold r_digits b_digits
    simp only [run_chk]
    walk_at "fc"
    simp only [s_check_chances, s_check_sides, s_check_throws]
    rcases chO S d with _ | _ | _
    · exact .stuck _
    · exact .same _
    · rcases ha : btwO S a 2 6 with _ | _ | _
      · exact .stuck _
      · simp only [chkR]
        walk_at "fc"
        simp only [ha]
        exact .same _
      · simp only [chkR]
        walk_at "fc"
        simp only [ha]
        walk_at "fc"
        rcases hb : btwO S b 0 60 with _ | _ | _
        · exact .stuck _
        · exact .same _
        · walk_at "fc"
          rcases s_digits_at [d, a, b] S with _ | _ | _
          · exact .same _
          · exact .same _
          · exact .stuck _
  · exact .stuck _
noncomputable def b_least_open : DS :=
 (cSeq (cExpr (eCall 1 s_check_chances (lCons (eVar 0) lNil)))
 (cSeq (cExpr (eCall 1 s_check_sides (lCons (eVar 1) lNil)))
 (cSeq (cExpr (eCall 2 s_check_throws (lCons (eVar 2) (lCons (eC (.int 60)) lNil))))
 (cSeq (cRet (eCall 3 s_open_at_least (lCons (eVar 0) (lCons (eVar 1) (lCons (eVar 2) lNil)))))
 cNil))))
noncomputable abbrev r_least_open : Den := runB 3 b_least_open
def s_least_open : Den := fun ds S => match ds with
  | [d, a, b] => (chkR (chO S d) 2 S).bd fun _ S => (chkR (btwO S a 2 6) 0 S).bd fun _ S => (chkR (btwO S b 0 60) 1 S).bd fun _ S => s_open_at_least [d, a, b] S
  | _ => .stuck
theorem le_least_open : ∀ ds S, ds.length = 3 → Le S (s_least_open ds S) (r_least_open ds S) := by
  intro ds S h
  unfold s_least_open
  split
  · rename_i d a b
    unfold r_least_open b_least_open
    simp only [run_chk]
    walk_at "fc"
    simp only [s_check_chances, s_check_sides, s_check_throws]
    rcases chO S d with _ | _ | _
    · exact .stuck _
    · exact .same _
    · rcases ha : btwO S a 2 6 with _ | _ | _
      · exact .stuck _
      · simp only [chkR]
        walk_at "fc"
        simp only [ha]
        exact .same _
      · simp only [chkR]
        walk_at "fc"
        simp only [ha]
        walk_at "fc"
        rcases hb : btwO S b 0 60 with _ | _ | _
        · exact .stuck _
        · exact .same _
        · walk_at "fc"
          rcases s_open_at_least [d, a, b] S with _ | _ | _
          · exact .same _
          · exact .same _
          · exact .stuck _
  · exact .stuck _
end Fc

/-! FcLawA: the helpers that the laws of the first kind share. -/
namespace Fc
open PySem L2
local macro_rules | `(tactic| walk_at "fc") => `(tactic| try simp only [runB, cSeq, cNil, cRet, cExpr, cIf, cSet, cAsg, cPar, cAug, cRaise, cStore, cPass, toS_ok, toS_exn, toS_stuck, Res.bd_ok, Res.bd_exn, Res.bd_stuck, Res.bdN_ok, Res.bdN_exn, Res.bdN_stuck,
  eVar, eC, eTup, eLst, eOp, eChain, eUn, eAnd, eOr, eNot, eIf, tTs, tAnd2, tOr2, tNot2, tTrue, eCall, eBi, eIsi, eMtL, eSl, oNo, oSo, lNil, lCons, iSeq, iRange1, iRange2, zAdd, zSub, zMul, zDiv, zMod, ofO, opInt, opIn, opNotIn, opEq, opNe, opIs, opIsnt,
  List.map_cons, List.map_nil, List.length_cons, List.length_nil, List.replicate, List.append_nil, List.nil_append, List.cons_append, List.getElem?_cons_zero, List.getElem?_cons_succ, List.getElem?_nil, List.set_cons_zero, List.set_cons_succ, List.set_nil, lm0, lm1, lm2, lm3, lm4, lm5, lm6, lm7, lm8, lm9, asg_nm, asg_tp, asgs_nil, asgs_cons, Option.bind_some, Option.bind_none, Option.map_some, Option.map_none,
  Nat.reduceSub, Nat.reduceAdd, Nat.zero_add, Nat.add_zero, Nat.sub_self, if_true, if_false, reduceIte, Bool.false_eq_true, Bool.true_eq_false, reduceCtorEq])
local macro_rules | `(tactic| walk_at "fo") => `(tactic| try simp only [*, runB, cSeq, cNil, cRet, cExpr, cIf, cSet, cAsg, cPar, cAug, cRaise, cStore, cPass, toS_ok, toS_exn, toS_stuck, Res.bd_ok, Res.bd_exn, Res.bd_stuck, Res.bdN_ok, Res.bdN_exn, Res.bdN_stuck,
  eVar, eC, eTup, eLst, eOp, eChain, eUn, eAnd, eOr, eNot, eIf, tTs, tAnd2, tOr2, tNot2, tTrue, eCall, eBi, eIsi, eMtL, eSl, oNo, oSo, lNil, lCons, iSeq, iRange1, iRange2, zAdd, zSub, zMul, zDiv, zMod, ofO, opInt, opIn, opNotIn, opEq, opNe, opIs, opIsnt,
  List.map_cons, List.map_nil, List.length_cons, List.length_nil, List.replicate, List.append_nil, List.nil_append, List.cons_append, List.getElem?_cons_zero, List.getElem?_cons_succ, List.getElem?_nil, List.set_cons_zero, List.set_cons_succ, List.set_nil, lm0, lm1, lm2, lm3, lm4, lm5, lm6, lm7, lm8, lm9, asg_nm, asg_tp, asgs_nil, asgs_cons, Option.bind_some, Option.bind_none, Option.map_some, Option.map_none,
  Nat.reduceSub, Nat.reduceAdd, Nat.zero_add, Nat.add_zero, Nat.sub_self, if_true, if_false, reduceIte, Bool.false_eq_true, Bool.true_eq_false, reduceCtorEq, and_self, Bool.and_self, decide_true, decide_false])
local macro_rules | `(tactic| walk_at "fg") => `(tactic| try simp only [*, runB, cSeq, cNil, cRet, cExpr, cIf, cSet, cAsg, cPar, cAug, cRaise, cStore, cPass, toS_ok, toS_exn, toS_stuck, Res.bd_ok, Res.bd_exn, Res.bd_stuck, Res.bdN_ok, Res.bdN_exn, Res.bdN_stuck,
  eVar, eC, eTup, eLst, eOp, eChain, eUn, eAnd, eOr, eNot, eIf, tTs, tAnd2, tOr2, tNot2, tTrue, eCall, eBi, eIsi, eMtL, eSl, oNo, oSo, lNil, lCons, iSeq, iRange1, iRange2, zAdd, zSub, zMul, zDiv, zMod, ofO, opInt, opIn, opNotIn, opEq, opNe, opIs, opIsnt,
  List.map_cons, List.map_nil, List.length_cons, List.length_nil, List.replicate, List.append_nil, List.nil_append, List.cons_append, List.getElem?_cons_zero, List.getElem?_cons_succ, List.getElem?_nil, List.set_cons_zero, List.set_cons_succ, List.set_nil, lm0, lm1, lm2, lm3, lm4, lm5, lm6, lm7, lm8, lm9, asg_nm, asg_tp, asgs_nil, asgs_cons, Option.bind_some, Option.bind_none, Option.map_some, Option.map_none,
  Nat.reduceSub, Nat.reduceAdd, Nat.zero_add, Nat.add_zero, Nat.sub_self, if_true, if_false, reduceIte, Bool.false_eq_true, Bool.true_eq_false, reduceCtorEq, and_self, Bool.and_self, decide_true, decide_false, List.append_assoc, List.length_append, Nat.add_assoc, at_new, at_newk, add_rr, ix_ref, seq_ref, list_ref, seq_tup, seq_fz, list_fz, ix_tup, ix_fz, neg_int, app_ref, set_newk, set_new0, iZ, slD, eLc, len_tup, len_ref])
local macro_rules | `(tactic| walk_at "fs") => `(tactic| try simp [runB, cSeq, cNil, cRet, cExpr, cIf, cSet, cAsg, cPar, cAug, cRaise, cStore, cPass, toS_ok, toS_exn, toS_stuck, Res.bd_ok, Res.bd_exn, Res.bd_stuck, Res.bdN_ok, Res.bdN_exn, Res.bdN_stuck,
  eVar, eC, eTup, eLst, eOp, eChain, eUn, eAnd, eOr, eNot, eIf, tTs, tAnd2, tOr2, tNot2, tTrue, eCall, eBi, eIsi, eMtL, eSl, oNo, oSo, lNil, lCons, iSeq, iRange1, iRange2, zAdd, zSub, zMul, zDiv, zMod, ofO, opInt, opIn, opNotIn, opEq, opNe, opIs, opIsnt,
  List.map_cons, List.map_nil, List.length_cons, List.length_nil, List.replicate, List.append_nil, List.nil_append, List.cons_append, List.getElem?_cons_zero, List.getElem?_cons_succ, List.getElem?_nil, List.set_cons_zero, List.set_cons_succ, List.set_nil, lm0, lm1, lm2, lm3, lm4, lm5, lm6, lm7, lm8, lm9, asg_nm, asg_tp, asgs_nil, asgs_cons, Option.bind_some, Option.bind_none, Option.map_some, Option.map_none,
  Nat.reduceSub, Nat.reduceAdd, Nat.zero_add, Nat.add_zero, Nat.sub_self, if_true, if_false, reduceIte, Bool.false_eq_true, Bool.true_eq_false, reduceCtorEq, len_tup, ty_non, ty_bl, ty_int, ty_str, ty_tup, ty_fz, isT, eqD_int, seq_tup, seq_fz, list_fz])
local macro_rules | `(tactic| walk_at "fh") => `(tactic| try simp [*, runB, cSeq, cNil, cRet, cExpr, cIf, cSet, cAsg, cPar, cAug, cRaise, cStore, cPass, toS_ok, toS_exn, toS_stuck, Res.bd_ok, Res.bd_exn, Res.bd_stuck, Res.bdN_ok, Res.bdN_exn, Res.bdN_stuck,
  eVar, eC, eTup, eLst, eOp, eChain, eUn, eAnd, eOr, eNot, eIf, tTs, tAnd2, tOr2, tNot2, tTrue, eCall, eBi, eIsi, eMtL, eSl, oNo, oSo, lNil, lCons, iSeq, iRange1, iRange2, zAdd, zSub, zMul, zDiv, zMod, ofO, opInt, opIn, opNotIn, opEq, opNe, opIs, opIsnt,
  List.map_cons, List.map_nil, List.length_cons, List.length_nil, List.replicate, List.append_nil, List.nil_append, List.cons_append, List.getElem?_cons_zero, List.getElem?_cons_succ, List.getElem?_nil, List.set_cons_zero, List.set_cons_succ, List.set_nil, lm0, lm1, lm2, lm3, lm4, lm5, lm6, lm7, lm8, lm9, asg_nm, asg_tp, asgs_nil, asgs_cons, Option.bind_some, Option.bind_none, Option.map_some, Option.map_none,
  Nat.reduceSub, Nat.reduceAdd, Nat.zero_add, Nat.add_zero, Nat.sub_self, if_true, if_false, reduceIte, Bool.false_eq_true, Bool.true_eq_false, reduceCtorEq, len_tup, ty_non, ty_bl, ty_int, ty_str, ty_tup, ty_fz, isT, eqD_int, seq_tup, seq_fz, list_fz, ix0, ix1])
local macro_rules | `(tactic| walk_at "fs") => `(tactic| try simp [runB, cSeq, cNil, cRet, cExpr, cIf, cSet, cAsg, cPar, cAug, cRaise, cStore, cPass, toS_ok, toS_exn, toS_stuck, Res.bd_ok, Res.bd_exn, Res.bd_stuck, Res.bdN_ok, Res.bdN_exn, Res.bdN_stuck,
  eVar, eC, eTup, eLst, eOp, eChain, eUn, eAnd, eOr, eNot, eIf, tTs, tAnd2, tOr2, tNot2, tTrue, eCall, eBi, eIsi, eMtL, eSl, oNo, oSo, lNil, lCons, iSeq, iRange1, iRange2, zAdd, zSub, zMul, zDiv, zMod, ofO, opInt, opIn, opNotIn, opEq, opNe, opIs, opIsnt,
  List.map_cons, List.map_nil, List.length_cons, List.length_nil, List.replicate, List.append_nil, List.nil_append, List.cons_append, List.getElem?_cons_zero, List.getElem?_cons_succ, List.getElem?_nil, List.set_cons_zero, List.set_cons_succ, List.set_nil, lm0, lm1, lm2, lm3, lm4, lm5, lm6, lm7, lm8, lm9, asg_nm, asg_tp, asgs_nil, asgs_cons, Option.bind_some, Option.bind_none, Option.map_some, Option.map_none,
  Nat.reduceSub, Nat.reduceAdd, Nat.zero_add, Nat.add_zero, Nat.sub_self, if_true, if_false, reduceIte, Bool.false_eq_true, Bool.true_eq_false, reduceCtorEq, len_tup, ty_non, ty_bl, ty_int, ty_str, ty_tup, ty_fz, isT, eqD_int, seq_tup, seq_fz, list_fz, ix0, ix1])
theorem le_lim {n : Nat} (h : n ≤ 10000) : n ≤ lim := by
  have : 10000 ≤ lim := by decide
  omega
/-! ### Euclid -/
theorem euclid {t : DT} {b : DS} {S : Sto} (E : Int → Int → Ev) (h1 : ∀ x : Nat, t (E x 0) S = .ok false S) (h2 : ∀ x y : Nat, 0 < y → t (E x y) S = .ok true S)
    (h3 : ∀ x y : Nat, 0 < y → b (E x y) S = .ok (.nx (E y ((x : Int) % y))) S) : ∀ (n x y fuel : Nat), y < 2 ^ n → 2 * n < fuel → whileL t b fuel (E x y) S = .ok (.nx (E (Nat.gcd x y : Nat) 0)) S := by
  have stop : ∀ (x fuel : Nat), 0 < fuel → whileL t b fuel (E x ((0 : Nat) : Int)) S = .ok (.nx (E (Nat.gcd x 0 : Nat) 0)) S := by
    intro x fuel hf
    cases fuel with
    | zero => omega
    | succ f =>
      unfold whileL
      rw [show (((0 : Nat) : Int)) = 0 from rfl, h1]
      simp
  have go : ∀ (x y fuel : Nat), 0 < y → whileL t b (fuel + 1) (E x y) S = whileL t b fuel (E y ((x % y : Nat) : Int)) S := by
    intro x y fuel hy
    conv => lhs; unfold whileL
    rw [h2 x y hy, toS_ok, if_pos rfl, h3 x y hy]
    simp
  intro n
  induction n with
  | zero =>
    intro a b fuel hb hf
    have : b = 0 := by omega
    subst this
    exact stop a fuel (by omega)
  | succ n ih =>
    intro a b fuel hb hf
    by_cases h0 : b = 0
    · subst h0
      exact stop a fuel (by omega)
    · obtain ⟨f2, rfl⟩ : ∃ f2, fuel = f2 + 1 := ⟨fuel - 1, by omega⟩
      rw [go a b f2 (by omega)]
      by_cases h1 : a % b = 0
      · rw [h1, stop b f2 (by omega), Nat.gcd_comm a b, Nat.gcd_rec b a, h1]
        simp
      · obtain ⟨f3, rfl⟩ : ∃ f3, f2 = f3 + 1 := ⟨f2 - 1, by omega⟩
        rw [go b (a % b) f3 (by omega)]
        have hlt : a % b < b := Nat.mod_lt _ (by omega)
        have hm : b % (a % b) < a % b := Nat.mod_lt _ (by omega)
        have hm2 : b % (a % b) + a % b ≤ b := by
          have e := Nat.div_add_mod b (a % b)
          have hd : 0 < b / (a % b) := Nat.div_pos (Nat.le_of_lt hlt) (by omega)
          have : a % b ≤ (a % b) * (b / (a % b)) := Nat.le_mul_of_pos_right _ hd
          omega
        have hh : b % (a % b) < 2 ^ n := by
          rw [Nat.pow_succ] at hb
          omega
        rw [ih (a % b) (b % (a % b)) f3 hh (by omega)]
        have e1 : Nat.gcd a b = Nat.gcd (a % b) (b % (a % b)) := by
          rw [Nat.gcd_comm a b, Nat.gcd_rec b a, Nat.gcd_rec (a % b) b, Nat.gcd_comm]
        rw [e1]
noncomputable def b_law_fraction : DS :=
 (cSeq (cPar 2 3 (lCons (eBi fAbs (lCons (eVar 0) lNil)) (lCons (eVar 1) lNil)))
 (cSeq (cWhile (tTs (eOp opGt (eVar 3) (eC (.int 0))))
 (cSeq (cPar 2 3 (lCons (eVar 3) (lCons (eOp opMod (eVar 2) (eVar 3)) lNil)))
 cNil))
 (cSeq (cRet (eTup (lCons (eOp opDiv (eVar 0) (eVar 2)) (lCons (eOp opDiv (eVar 1) (eVar 2)) lNil))))
 cNil)))
noncomputable abbrev r_law_fraction : Den := runB 4 b_law_fraction
def s_law_fraction : Den := s_ratio
theorem le_law_fraction : ∀ ds S, ds.length = 2 → Le S (s_law_fraction ds S) (r_law_fraction ds S) := by
  intro ds S h
  unfold s_law_fraction s_ratio
  split
  · rename_i a b
    split
    · rename_i hc
      simp only [Bool.and_eq_true, decide_eq_true_eq] at hc
      have : r_law_fraction [.int a, .int b] S = .ok (fr (ratioF a b)) S := by
        unfold r_law_fraction b_law_fraction
        walk_at "fc"
        simp only [fAbs, abs_if]
        walk_at "fc"
        simp only [cWhile]
        have hb : b = ((b.toNat : Nat) : Int) := by omega
        have e := euclid (t := tTs (eOp opGt (eVar 3) (eC (.int 0)))) (b := cSeq (cPar 2 3 (lCons (eVar 3) (lCons (eOp opMod (eVar 2) (eVar 3)) lNil))) cNil) (S := S) (fun x y => [some (.int a), some (.int b), some (.int x), some (.int y)])
          (fun x => by walk_at "fs") (fun x y hy => by
            have hy' : (0 : Int) < y := by omega
            walk_at "fs"
            omega) (fun x y hy => by
            have hy' : (0 : Int) < y := by omega
            walk_at "fc"
            simp only [opMod, if_pos hy']
            walk_at "fc") 8000 a.natAbs b.toNat big (by
              have := ok8_iff.mp hc.2
              have h2 : b.natAbs = b.toNat := by omega
              rw [h2] at this
              exact this) (lt_big (by decide))
        rw [← hb] at e
        rw [e]
        walk_at "fc"
        have hg : Nat.gcd a.natAbs b.toNat = Int.gcd a b := by
          rw [Int.gcd]
          congr 1
          omega
        rw [hg]
        simp only [opDiv, if_pos (gcd_div_ok (a := a) hc.1 hc.2)]
        walk_at "fc"
        rfl
      rw [this]
      exact .same _
    · exact .stuck _
  · exact .stuck _
noncomputable def b_law_add : DS :=
 (cSeq (cRet (eCall 2 s_law_fraction (lCons (eOp opAdd (eOp opMul (eOp opIx (eVar 0) (eC (.int 0))) (eOp opIx (eVar 1) (eC (.int 1)))) (eOp opMul (eOp opIx (eVar 1) (eC (.int 0))) (eOp opIx (eVar 0) (eC (.int 1))))) (lCons (eOp opMul (eOp opIx (eVar 0) (eC (.int 1))) (eOp opIx (eVar 1) (eC (.int 1)))) lNil))))
 cNil)
noncomputable abbrev r_law_add : Den := runB 2 b_law_add
def s_law_add : Den := frOp plusO
theorem le_law_add : ∀ ds S, ds.length = 2 → Le S (s_law_add ds S) (r_law_add ds S) := by
  intro ds S h
  have : r_law_add ds S = r_plus ds S := rfl
  rw [this]
  exact le_plus ds S h
noncomputable def b_law_sum : DS :=
 (cSeq (cSet 1 (eTup (lCons (eC (.int 0)) (lCons (eC (.int 1)) lNil))))
 (cSeq (cFor (iSeq (eVar 0)) (.nm 2)
 (cSeq (cSet 1 (eCall 2 s_law_add (lCons (eVar 1) (lCons (eVar 2) lNil))))
 cNil))
 (cSeq (cRet (eVar 1))
 cNil)))
noncomputable abbrev r_law_sum : Den := runB 3 b_law_sum
def s_law_sum : Den := s_added
theorem le_law_sum : ∀ ds S, ds.length = 1 → Le S (s_law_sum ds S) (r_law_sum ds S) := by
  intro ds S h
  by_cases hd : ∃ d, ds = [d]
  · obtain ⟨d, rfl⟩ := hd
    have : r_law_sum [d] S = r_added [d] S := by
      unfold r_law_sum b_law_sum r_added b_added
      walk_at "fc"
      try simp [lim_eq]
      try rfl
    rw [this]
    exact le_added [d] S h
  · match ds, h with
    | [d], _ => exact absurd ⟨d, rfl⟩ hd
/-! ### what is drawn -/
noncomputable def b_law_cell_at : DS :=
 (cSeq (cIf (tTs (eOp opLt (eVar 1) (eBi fLen (lCons (eVar 0) lNil))))
 (cSeq (cRet (eOp opIx (eVar 0) (eVar 1)))
 cNil)
 cNil)
 (cSeq (cRet (eC (.int 0)))
 cNil))
noncomputable abbrev r_law_cell_at : Den := runB 2 b_law_cell_at
def s_law_cell_at : Den := fun ds S => match ds with
  | [.fz es, .int k] => if decide (0 ≤ k) then .ok (es[k.toNat]?.getD (.int 0)) S else .stuck
  | _ => .stuck
theorem le_law_cell_at : ∀ ds S, ds.length = 2 → Le S (s_law_cell_at ds S) (r_law_cell_at ds S) := by
  intro ds S h
  unfold s_law_cell_at
  split
  · rename_i es k
    split
    · rename_i hk
      simp only [decide_eq_true_eq] at hk
      obtain ⟨k, rfl⟩ : ∃ n : Nat, k = (n : Int) := ⟨k.toNat, by omega⟩
      have : r_law_cell_at [.fz es, .int (k : Nat)] S = .ok (es[k]?.getD (.int 0)) S := by
        unfold r_law_cell_at b_law_cell_at
        walk_at "fc"
        simp only [fLen, seqOf, listOf]
        walk_at "fc"
        by_cases hl : k < es.length
        · have h2 : ((k : Int) < (es.length : Int)) := by omega
          simp [h2]
          walk_at "fc"
          have := atI_nat (List.getElem?_eq_getElem hl)
          simp only [opIx, seqOf, listOf, this]
          walk_at "fc"
          simp [List.getElem?_eq_getElem hl]
        · have h2 : ¬ ((k : Int) < (es.length : Int)) := by omega
          simp [h2]
          walk_at "fc"
          rw [List.getElem?_eq_none (by omega)]
          rfl
      rw [this]
      exact .same _
    · exact .stuck _
  · exact .stuck _
/-- the pen of a law: what is left of the digits; the mixer's state; how often it was asked -/
structure Pen where
  a : Int
  b : Int
  c : Int
def Pen.ob (p : Pen) : Ob := .lst [.int p.a, .int p.b, .int p.c]
def pen0 (c : Int) : Pen := ⟨max 0 (c - 10 ^ 18), c % 2147483629 + 1, 0⟩
noncomputable def b_law_pen : DS :=
 (cSeq (cRet (eLst (lCons (eBi fMax2 (lCons (eC (.int 0)) (lCons (eOp opSub (eVar 0) (eOp opPow (eC (.int 10)) (eC (.int 18)))) lNil))) (lCons (eOp opAdd (eOp opMod (eVar 0) (eC (.int 2147483629))) (eC (.int 1))) (lCons (eC (.int 0)) lNil)))))
 cNil)
noncomputable abbrev r_law_pen : Den := runB 1 b_law_pen
def s_law_pen : Den := fun ds S => match ds with
  | [.int c] => .ok (.ref S.length) (S ++ [(pen0 c).ob])
  | _ => .stuck
theorem le_law_pen : ∀ ds S, ds.length = 1 → Le S (s_law_pen ds S) (r_law_pen ds S) := by
  intro ds S h
  unfold s_law_pen
  split
  · rename_i c
    have : r_law_pen [.int c] S = .ok (.ref S.length) (S ++ [(pen0 c).ob]) := by
      unfold r_law_pen b_law_pen
      walk_at "fc"
      simp only [opPow, opSub, opMod, opAdd, fMax2]
      try simp [lim_eq, pen0, Pen.ob]
      omega
    rw [this]
    exact .same _
  · exact .stuck _
def mix1 (b : Int) : Int := (b * b + 69621 * b + 11) % 2147483629
def mix2 (x : Int) : Int := (x * x + 40014 * x) % 2147483587
def nxt (p : Pen) : Pen := ⟨p.a, (p.b * 48271 + 1009 * (p.c + 1) + 7) % 2147483647, p.c + 1⟩
def draw (p : Pen) (m : Int) : Int × Pen := if 0 < p.a then (p.a % m, ⟨p.a / m, p.b, p.c⟩) else (mix2 (mix1 (nxt p).b) / 16 % m, nxt p)
def penAt (S : Sto) (n : Nat) : Option Pen := match S[n]? with
  | some (.lst [.int a, .int b, .int c]) => some ⟨a, b, c⟩
  | _ => none
theorem penAt_eq {S : Sto} {n : Nat} {p : Pen} (h : penAt S n = some p) : S[n]? = some p.ob := by
  unfold penAt at h
  split at h
  · rename_i e; cases h; exact e
  · cases h
@[simp] theorem penAt_of {S : Sto} {n : Nat} {p : Pen} (h : S[n]? = some p.ob) : penAt S n = some p := by
  unfold penAt
  rw [h]
  rfl
def okPen (p : Pen) : Bool := ok4 p.b && decide (p.c.natAbs < 2 ^ 3000)
noncomputable def b_law_draw : DS :=
 (cSeq (cIf (tTs (eOp opGt (eOp opIx (eVar 0) (eC (.int 0))) (eC (.int 0))))
 (cSeq (cSet 2 (eOp opMod (eOp opIx (eVar 0) (eC (.int 0))) (eVar 1)))
 (cSeq (cStore (eOp opDiv (eOp opIx (eVar 0) (eC (.int 0))) (eVar 1)) (eVar 0) (eC (.int 0)))
 (cSeq (cRet (eVar 2))
 cNil)))
 cNil)
 (cSeq (cStore (eOp opAdd (eOp opIx (eVar 0) (eC (.int 2))) (eC (.int 1))) (eVar 0) (eC (.int 2)))
 (cSeq (cStore (eOp opMod (eOp opAdd (eOp opAdd (eOp opMul (eOp opIx (eVar 0) (eC (.int 1))) (eC (.int 48271))) (eOp opMul (eC (.int 1009)) (eOp opIx (eVar 0) (eC (.int 2))))) (eC (.int 7))) (eC (.int 2147483647))) (eVar 0) (eC (.int 1)))
 (cSeq (cSet 3 (eOp opMod (eOp opAdd (eOp opAdd (eOp opMul (eOp opIx (eVar 0) (eC (.int 1))) (eOp opIx (eVar 0) (eC (.int 1)))) (eOp opMul (eC (.int 69621)) (eOp opIx (eVar 0) (eC (.int 1))))) (eC (.int 11))) (eC (.int 2147483629))))
 (cSeq (cSet 3 (eOp opMod (eOp opAdd (eOp opMul (eVar 3) (eVar 3)) (eOp opMul (eC (.int 40014)) (eVar 3))) (eC (.int 2147483587))))
 (cSeq (cRet (eOp opMod (eOp opDiv (eVar 3) (eC (.int 16))) (eVar 1)))
 cNil))))))
noncomputable abbrev r_law_draw : Den := runB 4 b_law_draw
def s_law_draw : Den := fun ds S => match ds with
  | [.ref n, .int m] => match penAt S n with
    | some p => if decide (0 < m) && ok8 m && okPen p then .ok (.int (draw p m).1) (S.set n (draw p m).2.ob) else .stuck
    | none => .stuck
  | _ => .stuck
theorem ok8_div {m : Int} (h0 : 0 < m) (h : ok8 m = true) : divOk m = true := divOk_of (a := 8000) h0 (ok8_iff.mp h) (by decide) (by decide)
theorem small_mul {i j : Int} (h1 : 0 ≤ i) (h2 : i < 2 ^ 40) (h3 : 0 ≤ j) (h4 : j < 2 ^ 40) : mulOk i j = true := mulOk_of (a := 40) (b := 40) (by omega) (by omega) (by decide) (by decide) (by decide)
theorem le_law_draw : ∀ ds S, ds.length = 2 → Le S (s_law_draw ds S) (r_law_draw ds S) := by
  intro ds S h
  unfold s_law_draw
  split
  · rename_i n m
    split
    · rename_i p e
      split
      · rename_i hc
        simp only [Bool.and_eq_true, decide_eq_true_eq, okPen] at hc
        obtain ⟨⟨h0, h8⟩, hb, hcc⟩ := hc
        have es := penAt_eq e
        have hn : n < S.length := (List.getElem?_eq_some_iff.mp es).1
        obtain ⟨a, b, c⟩ := p
        simp only [Pen.ob] at es hb hcc
        have hl3 : ∀ x y z : Dv, ixN [x, y, z].length 0 = some 0 ∧ ixN [x, y, z].length 1 = some 1 ∧ ixN [x, y, z].length 2 = some 2 := fun _ _ _ => ⟨rfl, rfl, rfl⟩
        have : r_law_draw [.ref n, .int m] S = .ok (.int (draw ⟨a, b, c⟩ m).1) (S.set n (draw ⟨a, b, c⟩ m).2.ob) := by
          unfold r_law_draw b_law_draw
          have j0 : opIx (.ref n) (.int 0) S = some (.int a, S) := zIxL es (at0 _ _)
          walk_at "fc"
          simp only [j0]
          walk_at "fc"
          by_cases ha : 0 < a
          · simp only [decide_eq_true ha]
            walk_at "fc"
            simp only [j0]
            walk_at "fc"
            simp only [zMod h0]
            walk_at "fc"
            simp only [j0]
            walk_at "fc"
            simp only [zDiv (ok8_div h0 h8)]
            walk_at "fc"
            simp only [es, hl3]
            walk_at "fc"
            simp [draw, ha, Pen.ob]
          · simp only [decide_eq_false ha]
            walk_at "fc"
            have g : ∀ o : Ob, (S.set n o)[n]? = some o := fun o => List.getElem?_set_self hn
            have m1 : mulOk b 48271 = true := mulOk_of (a := 4000) (b := 40) (ok4_iff.mp hb) (by decide) (by decide) (by decide) (by decide)
            have m2 : mulOk 1009 (c + 1) = true := mulOk_of (a := 40) (b := 3001) (by decide) (by rw [Nat.pow_succ]; omega) (by decide) (by decide) (by decide)
            have i0 : opIx (.ref n) (.int 2) S = some (.int c, S) := zIxL es (at2 _ _ _ _)
            have i1 : ∀ x y z : Dv, opIx (.ref n) (.int 1) (S.set n (.lst [x, y, z])) = some (y, S.set n (.lst [x, y, z])) := fun x y z => zIxL (g _) (at1 _ _ _)
            have i2 : ∀ x y z : Dv, opIx (.ref n) (.int 2) (S.set n (.lst [x, y, z])) = some (z, S.set n (.lst [x, y, z])) := fun x y z => zIxL (g _) (at2 _ _ _ _)
            have z1 : (0 : Int) < 2147483647 := by decide
            have z2 : (0 : Int) < 2147483629 := by decide
            have z3 : (0 : Int) < 2147483587 := by decide
            have d16 : divOk 16 = true := by decide
            clear h e h8 hb hcc
            iterate 9
              try simp only [i0, i1, i2, es, hl3, g, zMul m1, zMul m2, zMod z1]
              walk_at "fc"
            generalize hbb : (b * 48271 + 1009 * (c + 1) + 7) % 2147483647 = bb
            have b0 : 0 ≤ bb := by omega
            have b1 : bb < 2147483647 := by omega
            have mm1 : mulOk bb bb = true := small_mul b0 (by omega) b0 (by omega)
            have mm2 : mulOk 69621 bb = true := small_mul (by decide) (by decide) b0 (by omega)
            iterate 9
              try simp only [List.set_set, g, hl3, i1, zMul mm1, zMul mm2, zMod z2]
              walk_at "fc"
            generalize hxx : (bb * bb + 69621 * bb + 11) % 2147483629 = xx
            have x0 : 0 ≤ xx := by omega
            have x1 : xx < 2147483629 := by omega
            have mx1 : mulOk xx xx = true := small_mul x0 (by omega) x0 (by omega)
            have mx2 : mulOk 40014 xx = true := small_mul (by decide) (by decide) x0 (by omega)
            iterate 9
              try simp only [zMul mx1, zMul mx2, zMod z3, zDiv d16, zMod h0]
              walk_at "fc"
            simp [draw, ha, Pen.ob, nxt, mix1, mix2, hbb, hxx]
        rw [this]
        exact .same _
      · exact .stuck _
    · exact .stuck _
  · exact .stuck _
/-! ### drawn chances -/
def penB (p : Pen) (N : Nat) : Prop := 0 ≤ p.b ∧ p.b < 2 ^ 31 ∧ 0 ≤ p.c ∧ p.c ≤ N
theorem penB.mono {p : Pen} {N M : Nat} (h : penB p N) (hm : N ≤ M) : penB p M := ⟨h.1, h.2.1, h.2.2.1, by have := h.2.2.2; omega⟩
theorem penB0 (c : Int) : penB (pen0 c) 0 := ⟨by simp [pen0]; omega, by simp [pen0]; omega, by simp [pen0], by simp [pen0]⟩
theorem penB.draw {p : Pen} {N : Nat} (h : penB p N) (m : Int) : penB (draw p m).2 (N + 1) := by
  unfold Fc.draw
  split
  · exact ⟨h.1, h.2.1, h.2.2.1, by have := h.2.2.2; simp only; omega⟩
  · exact ⟨by simp only [nxt]; omega, by simp only [nxt]; omega, by have := h.2.2.1; simp only [nxt]; omega, by have := h.2.2.2; simp only [nxt]; omega⟩
theorem draw_lt (p : Pen) {m : Int} (hm : 0 < m) : 0 ≤ (draw p m).1 ∧ (draw p m).1 < m := by
  unfold draw
  split
  · exact ⟨Int.emod_nonneg _ (by omega), Int.emod_lt_of_pos _ hm⟩
  · exact ⟨Int.emod_nonneg _ (by omega), Int.emod_lt_of_pos _ hm⟩
theorem penB.ok {p : Pen} {N : Nat} (h : penB p N) (hN : N ≤ 2 ^ 200) : okPen p = true := by
  obtain ⟨h1, h2, h3, h4⟩ := h
  have e : (2 : Nat) ^ 200 < 2 ^ 3000 := Nat.pow_lt_pow_right (by decide) (by decide)
  have e2 : (2 : Nat) ^ 31 < 2 ^ 4000 := Nat.pow_lt_pow_right (by decide) (by decide)
  simp only [okPen, ok4, Bool.and_eq_true, decide_eq_true_eq]
  generalize (2 : Nat) ^ 3000 = x at *
  generalize (2 : Nat) ^ 4000 = y at *
  exact ⟨by omega, by omega⟩
def okM (m : Int) : Bool := decide (0 < m) && ok8 m
theorem draw_eq {S : Sto} {n : Nat} {p : Pen} {N : Nat} {m : Int} (h : S[n]? = some p.ob) (hp : penB p N) (hN : N ≤ 2 ^ 200) (hm : okM m = true) : s_law_draw [.ref n, .int m] S = .ok (.int (draw p m).1) (S.set n (draw p m).2.ob) := by
  simp only [okM, Bool.and_eq_true] at hm
  simp only [s_law_draw, penAt_of h, hm.1, hm.2, hp.ok hN, Bool.and_self, if_true]
def drawN (p : Pen) (m : Int) : Nat → List Int × Pen
  | 0 => ([], p)
  | k + 1 => ((drawN p m k).1 ++ [(draw (drawN p m k).2 m).1], (draw (drawN p m k).2 m).2)
theorem drawN_len (p : Pen) (m : Int) : ∀ k : Nat, (drawN p m k).1.length = k
  | 0 => rfl
  | k + 1 => by simp [drawN, drawN_len p m k]
theorem penB.drawN {p : Pen} {N : Nat} (h : penB p N) (m : Int) : ∀ k : Nat, penB (drawN p m k).2 (N + k)
  | 0 => h
  | k + 1 => (penB.drawN h m k).draw m
theorem drawN_lt (p : Pen) {m : Int} (hm : 0 < m) : ∀ (k : Nat), ∀ v ∈ (drawN p m k).1, 0 ≤ v ∧ v < m
  | 0, v, h => by cases h
  | k + 1, v, h => by
    simp only [drawN, List.mem_append, List.mem_singleton] at h
    rcases h with h | rfl
    · exact drawN_lt p hm k v h
    · exact draw_lt _ hm
/-- the drawn chances as numbers over a bottom; the pen afterwards -/
structure Dr where
  ns : List Int
  bot : Int
  pen : Pen
def difs : List Int → List Int
  | x :: y :: r => (y - x) :: difs (y :: r)
  | _ => []
def chF (p : Pen) : Dr :=
  let b := 1 + (draw p 30).1
  let p1 := (draw p 30).2
  let v := (draw p1 6).1
  let p2 := (draw p1 6).2
  ⟨difs ([0] ++ sortI (drawN p2 (b + 1) v.toNat).1 ++ [b]), b, (drawN p2 (b + 1) v.toNat).2⟩
def Dr.ps (d : Dr) : List Fr := d.ns.map fun n => ratioF n d.bot
def Dr.dv (d : Dr) : Dv := .tup (d.ps.map fr)
theorem okM_small {m : Int} (h1 : 0 < m) (h2 : m < 2 ^ 62) : okM m = true := by
  have e : (2 : Nat) ^ 62 < 2 ^ 8000 := Nat.pow_lt_pow_right (by decide) (by decide)
  simp only [okM, ok8, Bool.and_eq_true, decide_eq_true_eq]
  generalize (2 : Nat) ^ 8000 = x at *
  exact ⟨h1, by omega⟩
/-- a comprehension of draws -/
theorem lc_draws {S : Sto} {n : Nat} {p : Pen} {N k : Nat} {m : Int} (h : S[n]? = some p.ob) (hp : penB p N) (hN : N + k ≤ 2 ^ 200) (hm : okM m = true) (hk : k ≤ lim) {tg : Tg} {elt : DE} {ρ : Ev}
    (he : ∀ (i : Nat) (S1 : Sto), ∃ ρ2, tg.asg (.int (0 + (i : Nat))) ρ = some ρ2 ∧ elt ρ2 S1 = s_law_draw [.ref n, .int m] S1) :
    lcL (itRange 0 k) tg tTrue elt ρ S.length big 0 (S ++ [.lst []]) = .ok (.ref S.length) (S.set n (drawN p m k).2.ob ++ [.lst ((drawN p m k).1.map Dv.int)]) := by
  have hn : n < S.length := (List.getElem?_eq_some_iff.mp h).1
  obtain ⟨acc, S', e, rfl, rfl⟩ := lcL_run (it := itRange 0 k) (tg := tg) (cond := tTrue) (elt := elt) (ρ := ρ) (n := S.length) (N := k) (fun i acc S1 => acc = (drawN p m i).1.map Dv.int ∧ S1 = S.set n (drawN p m i).2.ob ++ [.lst acc])
    (fun i acc S1 hi hh => by
      obtain ⟨rfl, rfl⟩ := hh
      obtain ⟨ρ2, e1, e2⟩ := he i (S.set n (drawN p m i).2.ob ++ [.lst ((drawN p m i).1.map Dv.int)])
      have ho : (S.set n (drawN p m i).2.ob ++ [Ob.lst ((drawN p m i).1.map Dv.int)])[n]? = some (drawN p m i).2.ob := by
        rw [List.getElem?_append_left (by simpa using hn), List.getElem?_set_self hn]
      have e3 := draw_eq ho (hp.drawN m i) (by omega) hm
      refine ⟨.int (0 + (i : Nat)), ρ2, by simp [itRange, hi], e1, true, _, rfl, fun hc => (nomatch hc), fun _ => ⟨_, _, e2.trans e3, ?_, ?_, ?_, ?_⟩⟩
      · rw [List.getElem?_set_ne (by omega), List.getElem?_append_right (by simp)]
        simp
      · simp [drawN_len]; omega
      · simp [drawN]
      · rw [List.set_append_left _ _ (by simpa using hn), List.set_set, List.set_append_right _ _ (by simp)]
        simp [drawN])
    (fun acc S1 hh => by simp [itRange])
    big 0 [] (S ++ [.lst []]) (Nat.zero_le _) (by rw [big_eq]; have := lim_eq; omega) ⟨rfl, by
        have : S.set n p.ob = S := by
          apply List.ext_getElem?
          intro j
          by_cases hj : n = j
          · subst hj
            rw [List.getElem?_set_self hn, h]
          · rw [List.getElem?_set_ne hj]
        simp [drawN, this]⟩
  exact e
theorem insI_len (n : Int) : ∀ l : List Int, (insI n l).length = l.length + 1
  | [] => rfl
  | m :: l => by
    unfold insI
    split
    · simp
    · simp [insI_len n l]
theorem sortI_len : ∀ l : List Int, (sortI l).length = l.length
  | [] => rfl
  | m :: l => by simp [sortI, insI_len, sortI_len l]
theorem cut1 (x : Dv) (l : List Dv) : cutD (x :: l) (some 1) none = l := by
  have := HT.sIx_nat (x :: l).length 0 1
  simp only [cutD, HT.sIx_none]
  rw [show (some (1 : Int)) = some ((1 : Nat) : Int) from rfl, this]
  have : min 1 (x :: l).length = 1 := by simp
  rw [this]
  simp
theorem zip_difs (b : Int) (h : Dv → Dv) (hh : ∀ x y : Int, h (.tup [.int x, .int y]) = fr (ratioF (y - x) b)) : ∀ (x : Int) (l : List Int), (zipD ((x :: l).map Dv.int) (l.map Dv.int)).map h = (difs (x :: l)).map fun d => fr (ratioF d b)
  | x, [] => rfl
  | x, y :: l => by
    have := zip_difs b h hh y l
    simp only [zipD, List.map_cons, List.zip_cons_cons, difs, hh] at this ⊢
    rw [this]
theorem lows_frs (n : Nat) : ∀ ps : List Fr, (Dv.tup (ps.map fr)).low n = true
  | [] => rfl
  | p :: ps => by
    have := lows_frs n ps
    simp only [Dv.low] at this
    simp [Dv.low, Dv.lows, this, fr]
noncomputable def b_law_chances : DS :=
 (cSeq (cSet 1 (eOp opAdd (eC (.int 1)) (eCall 2 s_law_draw (lCons (eVar 0) (lCons (eC (.int 30)) lNil)))))
 (cSeq (cSet 2 (eOp opAdd (eC (.int 1)) (eCall 2 s_law_draw (lCons (eVar 0) (lCons (eC (.int 6)) lNil)))))
 (cSeq (cSet 3 (eBi fSorted (lCons (eLc (iRange1 (lCons (eOp opSub (eVar 2) (eC (.int 1))) lNil)) (.nm 5) tTrue (eCall 2 s_law_draw (lCons (eVar 0) (lCons (eOp opAdd (eVar 1) (eC (.int 1))) lNil))) [5]) lNil)))
 (cSeq (cSet 4 (eOp opAdd (eOp opAdd (eLst (lCons (eC (.int 0)) lNil)) (eVar 3)) (eLst (lCons (eVar 1) lNil))))
 (cSeq (cRet (eBi fTuple (lCons (eLc (iZ (lCons (eVar 4) (lCons (eSl (eVar 4) (oSo (eC (.int 1))) oNo) lNil))) (.tp [(.nm 6), (.nm 7)]) tTrue (eCall 2 s_law_fraction (lCons (eOp opSub (eVar 7) (eVar 6)) (lCons (eVar 1) lNil))) [6, 7]) lNil)))
 cNil)))))
noncomputable abbrev r_law_chances : Den := runB 8 b_law_chances
def okPn (p : Pen) : Bool := decide (0 ≤ p.b) && decide (p.b < 2 ^ 31) && decide (0 ≤ p.c) && decide (p.c ≤ 2 ^ 100)
def s_law_chances : Den := fun ds S => match ds with
  | [.ref n] => match penAt S n with
    | some p => if okPn p then .ok (chF p).dv (S.set n (chF p).pen.ob) else .stuck
    | none => .stuck
  | _ => .stuck
theorem le_law_chances : ∀ ds S, ds.length = 1 → Le S (s_law_chances ds S) (r_law_chances ds S) := by
  intro ds S h
  unfold s_law_chances
  split
  · rename_i n
    split
    · rename_i p e
      split
      · rename_i hc
        have es := penAt_eq e
        have hn : n < S.length := (List.getElem?_eq_some_iff.mp es).1
        have hp : penB p (2 ^ 100) := by
          simp only [okPn, Bool.and_eq_true, decide_eq_true_eq] at hc
          exact ⟨hc.1.1.1, hc.1.1.2, hc.1.2, by omega⟩
        rcases hq1 : draw p 30 with ⟨v1, p1⟩
        rcases hq2 : draw p1 6 with ⟨v, p2⟩
        have hp1 : penB p1 (2 ^ 100 + 1) := by have := hp.draw 30; rwa [hq1] at this
        have hp2 : penB p2 (2 ^ 100 + 2) := by have := hp1.draw 6; rwa [hq2] at this
        have hb := draw_lt p (m := 30) (by decide)
        have hv := draw_lt p1 (m := 6) (by decide)
        rw [hq1] at hb
        rw [hq2] at hv
        simp only at hb hv
        have d1 := draw_eq es hp (by decide) (okM_small (m := 30) (by decide) (by decide))
        rw [hq1] at d1
        have es1 : (S.set n p1.ob)[n]? = some p1.ob := List.getElem?_set_self hn
        have d2 := draw_eq es1 hp1 (by decide) (okM_small (m := 6) (by decide) (by decide))
        rw [List.set_set, hq2] at d2
        have es2 : (S.set n p2.ob)[n]? = some p2.ob := List.getElem?_set_self hn
        have vk : 1 + v - 1 = v := by omega
        have d3 := lc_draws (k := v.toNat) (m := 1 + v1 + 1) (tg := .nm 5) (elt := eCall 2 s_law_draw (lCons (eVar 0) (lCons (eOp opAdd (eVar 1) (eC (.int 1))) lNil))) (ρ := wipeD [some (.ref n), some (.int (1 + v1)), some (.int (1 + v)), none, none, none, none, none] [5]) es2 hp2 (by omega) (okM_small (by omega) (by omega)) (le_lim (by omega)) (fun i S1 => ⟨_, rfl, by
          simp only [wipeD]
          walk_at "fc"⟩)
        rcases hq3 : drawN p2 (1 + v1 + 1) v.toNat with ⟨vs, p3⟩
        have hvl : vs.length = v.toNat := by have := drawN_len p2 (1 + v1 + 1) v.toNat; rwa [hq3] at this
        rw [List.set_set, hq3] at d3
        simp only at d1 d2 d3
        obtain ⟨T, hT⟩ : ∃ T, T = S.set n p3.ob := ⟨_, rfl⟩
        have tl : (S.set n p2.ob).length = T.length := by simp [hT]
        rw [← hT] at d3
        have hch : chF p = ⟨difs ([0] ++ sortI vs ++ [1 + v1]), 1 + v1, p3⟩ := by simp only [chF, hq1, hq2, hq3]
        let E := [0] ++ sortI vs ++ [1 + v1]
        have hE : E.length ≤ 8 := by simp [E, sortI_len, hvl]; omega
        let G : Sto := [.lst (vs.map Dv.int), .lst ((sortI vs).map Dv.int), .lst [.int 0], .lst (.int 0 :: (sortI vs).map Dv.int), .lst [.int (1 + v1)], .lst (.int 0 :: ((sortI vs).map Dv.int ++ [.int (1 + v1)])), .lst ((sortI vs).map Dv.int ++ [.int (1 + v1)])]
        have run : r_law_chances [.ref n] S = .ok (chF p).dv (S.set n (chF p).pen.ob ++ (G ++ [.lst ((difs E).map fun d => fr (ratioF d (1 + v1)))])) := by
          unfold r_law_chances b_law_chances
          walk_at "fc"
          rw [d1]
          walk_at "fc"
          rw [d2]
          walk_at "fc"
          simp only [eLc]
          walk_at "fc"
          rw [vk]
          simp only [rng_ok (j := v) (by omega) (by omega)]
          walk_at "fc"
          rw [d3, tl]
          walk_at "fc"
          have srt : fSorted [.ref T.length] (T ++ [.lst (vs.map Dv.int)]) = some (.ref (T.length + 1), T ++ [.lst (vs.map Dv.int), .lst ((sortI vs).map Dv.int)]) := by
            have h64 : vs.length < 64 := by omega
            simp only [fSorted, listOf_new, intsOf_map, h64, if_true]
            simp
          rw [srt]
          have l1 : (1 : Nat) ≤ lim := by decide
          have l2 : 0 + 1 + ((sortI vs).map Dv.int).length ≤ lim := le_lim (by simp [sortI_len]; omega)
          have l3 : ((sortI vs).map Dv.int).length + 1 + (0 + 1) ≤ lim := le_lim (by simp [sortI_len]; omega)
          rw [hch, ← hT]
          clear h e es hc hp d1 d2 d3 es1 es2 hp1 hp2 hq1 hq2 hq3 srt hT
          walk_at "fg"
          rw [cut1]
          let K : Sto := [.lst (vs.map Dv.int), .lst ((sortI vs).map Dv.int), .lst [.int 0], .lst (.int 0 :: (sortI vs).map Dv.int), .lst [.int (1 + v1)], .lst (.int 0 :: ((sortI vs).map Dv.int ++ [.int (1 + v1)])), .lst ((sortI vs).map Dv.int ++ [.int (1 + v1)])]
          have z1 : seqOf (T ++ K) (.ref (T.length + 5)) = some ((0 :: (sortI vs ++ [1 + v1])).map Dv.int) := by
            simp only [seq_ref, at_newk, K]
            simp
          have z2 : seqOf (T ++ K) (.ref (T.length + 6)) = some ((sortI vs ++ [1 + v1]).map Dv.int) := by
            simp only [seq_ref, at_newk, K]
            simp
          have o8 : ok8 (1 + v1) = true := ok8_iff.mpr (Nat.lt_of_lt_of_le (by omega : (1 + v1).natAbs < 2 ^ 5) (Nat.pow_le_pow_right (by decide) (by decide)))
          have p0 : decide (0 < 1 + v1) = true := by simp; omega
          have lc := lc_map (it := itZip (.ref (T.length + 5)) (.ref (T.length + 6))) (tg := .tp [.nm 6, .nm 7]) (elt := eCall 2 s_law_fraction (lCons (eOp opSub (eVar 7) (eVar 6)) (lCons (eVar 1) lNil))) (ρ := wipeD [some (Dv.ref n), some (Dv.int (1 + v1)), some (Dv.int (1 + v)), some (Dv.ref (T.length + 1)),
                        some (Dv.ref (T.length + 5)), none, none, none] [6, 7]) (S := T ++ K) _ (fun x => match x with
            | .tup [.int x, .int y] => fr (ratioF (y - x) (1 + v1))
            | _ => .non) (le_lim (by simp [zipD, sortI_len, hvl]; omega)) (fun acc i => it_zip z1 z2 _ i) (by
              intro x hx acc
              simp only [zipD, List.map_cons, List.map_append] at hx
              obtain ⟨⟨a, c⟩, hq, rfl⟩ := List.mem_map.mp hx
              have ha := (List.of_mem_zip hq).1
              have hc := (List.of_mem_zip hq).2
              obtain ⟨a, rfl⟩ : ∃ i, a = Dv.int i := by
                simp at ha
                rcases ha with rfl | ⟨i, _, rfl⟩ | rfl <;> exact ⟨_, rfl⟩
              obtain ⟨c, rfl⟩ : ∃ i, c = Dv.int i := by
                simp at hc
                rcases hc with ⟨i, _, rfl⟩ | rfl <;> exact ⟨_, rfl⟩
              refine ⟨_, rfl, ?_⟩
              simp only [wipeD]
              walk_at "fc"
              simp only [s_law_fraction, s_ratio, p0, o8, Bool.and_self, if_true])
          rw [zip_difs (1 + v1) _ (fun _ _ => rfl)] at lc
          simp only [K, List.length_append, List.append_assoc, List.cons_append, List.nil_append, List.length_cons, List.length_nil, Nat.reduceAdd] at lc
          rw [lc]
          walk_at "fc"
          simp only [fTuple, seq_ref, at_newk]
          walk_at "fc"
          simp [Dr.dv, Dr.ps, G, E, List.map_map]
        rw [run]
        exact .drop _ _ _ (lows_frs _ _) (Kept.set S n rfl)
      · exact .stuck _
    · exact .stuck _
  · exact .stuck _
end Fc

/-! FcLawB: what is shown, ratios' algebra. -/
namespace Fc
open PySem L2
local macro_rules | `(tactic| walk_at "fc") => `(tactic| try simp only [runB, cSeq, cNil, cRet, cExpr, cIf, cSet, cAsg, cPar, cAug, cRaise, cStore, cPass, toS_ok, toS_exn, toS_stuck, Res.bd_ok, Res.bd_exn, Res.bd_stuck, Res.bdN_ok, Res.bdN_exn, Res.bdN_stuck,
  eVar, eC, eTup, eLst, eOp, eChain, eUn, eAnd, eOr, eNot, eIf, tTs, tAnd2, tOr2, tNot2, tTrue, eCall, eBi, eIsi, eMtL, eSl, oNo, oSo, lNil, lCons, iSeq, iRange1, iRange2, zAdd, zSub, zMul, zDiv, zMod, ofO, opInt, opIn, opNotIn, opEq, opNe, opIs, opIsnt,
  List.map_cons, List.map_nil, List.length_cons, List.length_nil, List.replicate, List.append_nil, List.nil_append, List.cons_append, List.getElem?_cons_zero, List.getElem?_cons_succ, List.getElem?_nil, List.set_cons_zero, List.set_cons_succ, List.set_nil, lm0, lm1, lm2, lm3, lm4, lm5, lm6, lm7, lm8, lm9, asg_nm, asg_tp, asgs_nil, asgs_cons, Option.bind_some, Option.bind_none, Option.map_some, Option.map_none,
  Nat.reduceSub, Nat.reduceAdd, Nat.zero_add, Nat.add_zero, Nat.sub_self, if_true, if_false, reduceIte, Bool.false_eq_true, Bool.true_eq_false, reduceCtorEq])
local macro_rules | `(tactic| walk_at "fo") => `(tactic| try simp only [*, runB, cSeq, cNil, cRet, cExpr, cIf, cSet, cAsg, cPar, cAug, cRaise, cStore, cPass, toS_ok, toS_exn, toS_stuck, Res.bd_ok, Res.bd_exn, Res.bd_stuck, Res.bdN_ok, Res.bdN_exn, Res.bdN_stuck,
  eVar, eC, eTup, eLst, eOp, eChain, eUn, eAnd, eOr, eNot, eIf, tTs, tAnd2, tOr2, tNot2, tTrue, eCall, eBi, eIsi, eMtL, eSl, oNo, oSo, lNil, lCons, iSeq, iRange1, iRange2, zAdd, zSub, zMul, zDiv, zMod, ofO, opInt, opIn, opNotIn, opEq, opNe, opIs, opIsnt,
  List.map_cons, List.map_nil, List.length_cons, List.length_nil, List.replicate, List.append_nil, List.nil_append, List.cons_append, List.getElem?_cons_zero, List.getElem?_cons_succ, List.getElem?_nil, List.set_cons_zero, List.set_cons_succ, List.set_nil, lm0, lm1, lm2, lm3, lm4, lm5, lm6, lm7, lm8, lm9, asg_nm, asg_tp, asgs_nil, asgs_cons, Option.bind_some, Option.bind_none, Option.map_some, Option.map_none,
  Nat.reduceSub, Nat.reduceAdd, Nat.zero_add, Nat.add_zero, Nat.sub_self, if_true, if_false, reduceIte, Bool.false_eq_true, Bool.true_eq_false, reduceCtorEq, and_self, Bool.and_self, decide_true, decide_false])
local macro_rules | `(tactic| walk_at "fg") => `(tactic| try simp only [*, runB, cSeq, cNil, cRet, cExpr, cIf, cSet, cAsg, cPar, cAug, cRaise, cStore, cPass, toS_ok, toS_exn, toS_stuck, Res.bd_ok, Res.bd_exn, Res.bd_stuck, Res.bdN_ok, Res.bdN_exn, Res.bdN_stuck,
  eVar, eC, eTup, eLst, eOp, eChain, eUn, eAnd, eOr, eNot, eIf, tTs, tAnd2, tOr2, tNot2, tTrue, eCall, eBi, eIsi, eMtL, eSl, oNo, oSo, lNil, lCons, iSeq, iRange1, iRange2, zAdd, zSub, zMul, zDiv, zMod, ofO, opInt, opIn, opNotIn, opEq, opNe, opIs, opIsnt,
  List.map_cons, List.map_nil, List.length_cons, List.length_nil, List.replicate, List.append_nil, List.nil_append, List.cons_append, List.getElem?_cons_zero, List.getElem?_cons_succ, List.getElem?_nil, List.set_cons_zero, List.set_cons_succ, List.set_nil, lm0, lm1, lm2, lm3, lm4, lm5, lm6, lm7, lm8, lm9, asg_nm, asg_tp, asgs_nil, asgs_cons, Option.bind_some, Option.bind_none, Option.map_some, Option.map_none,
  Nat.reduceSub, Nat.reduceAdd, Nat.zero_add, Nat.add_zero, Nat.sub_self, if_true, if_false, reduceIte, Bool.false_eq_true, Bool.true_eq_false, reduceCtorEq, and_self, Bool.and_self, decide_true, decide_false, List.append_assoc, List.length_append, Nat.add_assoc, at_new, at_newk, add_rr, ix_ref, seq_ref, list_ref, seq_tup, seq_fz, list_fz, ix_tup, ix_fz, neg_int, app_ref, set_newk, set_new0, iZ, slD, eLc, len_tup, len_ref])
local macro_rules | `(tactic| walk_at "fs") => `(tactic| try simp [runB, cSeq, cNil, cRet, cExpr, cIf, cSet, cAsg, cPar, cAug, cRaise, cStore, cPass, toS_ok, toS_exn, toS_stuck, Res.bd_ok, Res.bd_exn, Res.bd_stuck, Res.bdN_ok, Res.bdN_exn, Res.bdN_stuck,
  eVar, eC, eTup, eLst, eOp, eChain, eUn, eAnd, eOr, eNot, eIf, tTs, tAnd2, tOr2, tNot2, tTrue, eCall, eBi, eIsi, eMtL, eSl, oNo, oSo, lNil, lCons, iSeq, iRange1, iRange2, zAdd, zSub, zMul, zDiv, zMod, ofO, opInt, opIn, opNotIn, opEq, opNe, opIs, opIsnt,
  List.map_cons, List.map_nil, List.length_cons, List.length_nil, List.replicate, List.append_nil, List.nil_append, List.cons_append, List.getElem?_cons_zero, List.getElem?_cons_succ, List.getElem?_nil, List.set_cons_zero, List.set_cons_succ, List.set_nil, lm0, lm1, lm2, lm3, lm4, lm5, lm6, lm7, lm8, lm9, asg_nm, asg_tp, asgs_nil, asgs_cons, Option.bind_some, Option.bind_none, Option.map_some, Option.map_none,
  Nat.reduceSub, Nat.reduceAdd, Nat.zero_add, Nat.add_zero, Nat.sub_self, if_true, if_false, reduceIte, Bool.false_eq_true, Bool.true_eq_false, reduceCtorEq, len_tup, ty_non, ty_bl, ty_int, ty_str, ty_tup, ty_fz, isT, eqD_int, seq_tup, seq_fz, list_fz])
def showOk (p : PyData) : Bool := SeqAt.shaped p && PyData.showable p && decide (p.shown.length ≤ lim)
noncomputable def b_law_same : DS :=
 (cSeq (cRet (eOp opEq (eBi fRepr (lCons (eVar 0) lNil)) (eBi fRepr (lCons (eVar 1) lNil))))
 cNil)
noncomputable abbrev r_law_same : Den := runB 2 b_law_same
def s_law_same : Den := fun ds S => match ds with
  | [d, e] => match d.py S, e.py S with
    | some p, some q => if showOk p && showOk q then .ok (.bl (decide (p.shown = q.shown))) S else .stuck
    | _, _ => .stuck
  | _ => .stuck
theorem le_law_same : ∀ ds S, ds.length = 2 → Le S (s_law_same ds S) (r_law_same ds S) := by
  intro ds S h
  unfold s_law_same
  split
  · rename_i d e
    split
    · rename_i p q e1 e2
      split
      · rename_i hc
        obtain ⟨h1, h2⟩ := Bool.and_eq_true_iff.mp hc
        simp only [showOk] at h1 h2
        have : r_law_same [d, e] S = .ok (.bl (decide (p.shown = q.shown))) S := by
          unfold r_law_same b_law_same
          walk_at "fc"
          simp only [fRepr, e1, h1]
          walk_at "fc"
          simp only [e2, h2]
          walk_at "fc"
          simp [eqD]
        rw [this]
        exact .same _
      · exact .stuck _
    · exact .stuck _
  · exact .stuck _
theorem same_eq {d e : Dv} {S : Sto} {p : PyData} (h1 : d.py S = some p) (h2 : e.py S = some p) (h3 : showOk p = true) : s_law_same [d, e] S = .ok (.bl true) S := by
  simp only [s_law_same, h1, h2, h3, Bool.and_self, if_true, decide_true]
/-! ### what is short -/
mutual
def tame (k : Nat) : PyData → Bool
  | .none | .bool _ => true
  | .int i => decide (i.natAbs < 10 ^ k)
  | .str x => PyData.strOk x
  | .list xs | .tuple xs => tames k xs
  | .dict _ => false
def tames (k : Nat) : List PyData → Bool
  | [] => true
  | x :: xs => tame k x && tames k xs
end
theorem tames_all (k : Nat) : ∀ xs, tames k xs = xs.all (tame k)
  | [] => by simp [tames]
  | x :: xs => by simp [tames, tames_all k xs]
theorem log_of {n k : Nat} (h : n < 10 ^ k) (hk : k ≤ 570) : n.log2 < 1920 := by
  have : n < 2 ^ 1900 := Nat.lt_of_lt_of_le h (Nat.le_trans (Nat.pow_le_pow_right (by decide) hk) (by
    have e : (10 : Nat) ^ 570 ≤ 2 ^ 1900 := by
      rw [show (570 : Nat) = 3 * 190 from rfl, show (1900 : Nat) = 10 * 190 from rfl, Nat.pow_mul, Nat.pow_mul]
      exact Nat.pow_le_pow_left (by decide) _
    exact e))
  have := log2_lt this (by decide)
  omega
mutual
theorem tame_ok {k : Nat} (hk : 0 < k) (h57 : k ≤ 570) : ∀ p : PyData, tame k p = true → p.canLay0 = true ∧ p.showable = true ∧ p.intsShort (k + 1) = true
  | .none, _ => ⟨rfl, rfl, rfl⟩
  | .bool _, _ => ⟨rfl, rfl, rfl⟩
  | .int i, h => by
    have h' : i.natAbs < 10 ^ k := by simpa [tame] using h
    refine ⟨rfl, ?_, ?_⟩
    · simpa [PyData.showable] using log_of h' h57
    · have e := int_text_length_le10 hk h'
      simp only [PyData.intsShort, decide_eq_true_eq]
      show (Str.ofString (toString i)).length ≤ k + 1
      rw [PySem.ofString_length]
      exact e
  | .str x, h => ⟨by simpa [PyData.canLay0, tame] using h, rfl, rfl⟩
  | .list xs, h => by simpa [PyData.canLay0, PyData.showable, PyData.intsShort] using tames_ok hk h57 xs (by simpa [tame] using h)
  | .tuple xs, h => by simpa [PyData.canLay0, PyData.showable, PyData.intsShort] using tames_ok hk h57 xs (by simpa [tame] using h)
  | .dict _, h => by simp [tame] at h
theorem tames_ok {k : Nat} (hk : 0 < k) (h57 : k ≤ 570) : ∀ ps : List PyData, tames k ps = true → PyData.canLayAll0 ps = true ∧ PyData.showableAll ps = true ∧ PyData.intsShortAll (k + 1) ps = true
  | [], _ => ⟨rfl, rfl, rfl⟩
  | p :: ps, h => by
    simp only [tames, Bool.and_eq_true] at h
    obtain ⟨a1, a2, a3⟩ := tame_ok hk h57 p h.1
    obtain ⟨b1, b2, b3⟩ := tames_ok hk h57 ps h.2
    simp [PyData.canLayAll0, PyData.showableAll, PyData.intsShortAll, *]
end
theorem showOk_of (k : Nat) {p : PyData} (h : tame k p = true) (h7 : 7 ≤ k) (h57 : k ≤ 570) (hd : p.depth ≤ 64) (hb : (k + 3) * p.bulk + (k + 1) ≤ lim) : showOk p = true := by
  obtain ⟨h1, h2, h3⟩ := tame_ok (by omega) h57 p h
  have h4 := PyData.leavesShort_of_canLay0 (k + 1) p h1 h3
  have h5 := PyData.shown_le_bulk (k + 1) (by omega) p h4
  simp only [showOk, SeqAt.shaped, h1, h2, hd, decide_true, Bool.and_self, Bool.true_and, decide_eq_true_eq]
  exact Nat.le_trans h5 hb
/-! plain data -/
mutual
def Dv.flat : Dv → Option PyData
  | .non => some .none
  | .bl b => some (.bool b)
  | .int i => some (.int i)
  | .str x => some (.str x)
  | .tup ds => (Dv.flats ds).map .tuple
  | .fz ds => (Dv.flats ds).map .list
  | .ref _ => none
def Dv.flats : List Dv → Option (List PyData)
  | [] => some []
  | d :: ds => match d.flat, Dv.flats ds with
    | some p, some ps => some (p :: ps)
    | _, _ => none
end
mutual
theorem flat_pyW (r : Nat → Option PyData) : ∀ (d : Dv) (p : PyData), d.flat = some p → d.pyW r = some p
  | .non, _, h => h
  | .bl _, _, h => h
  | .int _, _, h => h
  | .str _, _, h => h
  | .tup ds, p, h => by
    simp only [Dv.flat] at h
    obtain ⟨q, h1, rfl⟩ := Option.map_eq_some_iff.mp h
    simp [Dv.pyW, flats_pysW r ds q h1]
  | .fz ds, p, h => by
    simp only [Dv.flat] at h
    obtain ⟨q, h1, rfl⟩ := Option.map_eq_some_iff.mp h
    simp [Dv.pyW, flats_pysW r ds q h1]
  | .ref _, _, h => by cases h
theorem flats_pysW (r : Nat → Option PyData) : ∀ (ds : List Dv) (ps : List PyData), Dv.flats ds = some ps → Dv.pysW r ds = some ps
  | [], _, h => h
  | d :: ds, p, h => by
    simp only [Dv.flats] at h
    split at h
    · rename_i a b e1 e2
      cases h
      simp [Dv.pysW, flat_pyW r d a e1, flats_pysW r ds b e2]
    · cases h
end
theorem flat_py {d : Dv} {p : PyData} (h : d.flat = some p) (S : Sto) : d.py S = some p := flat_pyW _ d p h
theorem lst_py {S : Sto} {n : Nat} {ds : List Dv} {ps : List PyData} (h : S[n]? = some (.lst ds)) (h2 : Dv.flats ds = some ps) : (Dv.ref n).py S = some (.list ps) := by
  simp only [Dv.py, Dv.pyW, pyRef, h, flats_pysW _ ds ps h2, Option.map_some]
theorem flats_map {α : Type} {f : α → Dv} {g : α → PyData} : ∀ xs : List α, (∀ x ∈ xs, (f x).flat = some (g x)) → Dv.flats (xs.map f) = some (xs.map g)
  | [], _ => rfl
  | x :: xs, h => by
    have := flats_map xs fun y hy => h y (List.mem_cons_of_mem _ hy)
    simp [Dv.flats, this, h x (List.mem_cons_self ..)]
theorem flats_ints {α : Type} (f : α → Int) (xs : List α) : Dv.flats (xs.map fun x => .int (f x)) = some (xs.map fun x => .int (f x)) := flats_map xs fun _ _ => rfl
theorem bulkAll_le {c : Nat} : ∀ xs : List PyData, (∀ x ∈ xs, x.bulk ≤ c) → PyData.bulkAll xs ≤ xs.length * (c + 1)
  | [], _ => by simp [PyData.bulkAll]
  | x :: xs, h => by
    have h1 := bulkAll_le xs fun y hy => h y (List.mem_cons_of_mem _ hy)
    have h2 := h x (List.mem_cons_self ..)
    simp only [PyData.bulkAll, List.length_cons, Nat.add_mul]
    omega
theorem depthAll_le {c : Nat} : ∀ xs : List PyData, (∀ x ∈ xs, x.depth ≤ c) → PyData.depthAll xs ≤ c
  | [], _ => by simp [PyData.depthAll]
  | x :: xs, h => by
    have h1 := depthAll_le xs fun y hy => h y (List.mem_cons_of_mem _ hy)
    have h2 := h x (List.mem_cons_self ..)
    simp only [PyData.depthAll]
    omega
/-! ### ratios -/
theorem gcd_dvd {a b : Int} (hb : 0 < b) : ∃ g : Int, 0 < g ∧ g = (Int.gcd a b : Nat) ∧ a = (ratioF a b).1 * g ∧ b = (ratioF a b).2 * g ∧ 0 < (ratioF a b).2 := by
  have hg : 0 < Int.gcd a b := Int.gcd_pos_of_ne_zero_right a (by omega)
  have h1 : ((Int.gcd a b : Nat) : Int) ∣ a := Int.gcd_dvd_left ..
  have h2 : ((Int.gcd a b : Nat) : Int) ∣ b := Int.gcd_dvd_right ..
  have e2 := (Int.ediv_mul_cancel h2).symm
  refine ⟨_, by omega, rfl, (Int.ediv_mul_cancel h1).symm, e2, ?_⟩
  exact Int.ediv_pos_of_pos_of_dvd hb (by omega) h2
/-- equal ratios have one lowest form -/
theorem ratioF_eq {a b c d : Int} (hb : 0 < b) (hd : 0 < d) (h : a * d = c * b) : ratioF a b = ratioF c d := by
  have key : ∀ {a b c d : Int}, 0 < b → 0 < d → a * d = c * b → (Int.gcd a b : Int) * d = (Int.gcd c d : Int) * b := by
    intro a b c d hb hd h
    have e1 : Int.gcd (a * d) (b * d) = Int.gcd a b * d.natAbs := Int.gcd_mul_right ..
    have e2 : Int.gcd (c * b) (d * b) = Int.gcd c d * b.natAbs := Int.gcd_mul_right ..
    rw [h, Int.mul_comm b d, e2] at e1
    have : ((Int.gcd c d * b.natAbs : Nat) : Int) = ((Int.gcd a b * d.natAbs : Nat) : Int) := by rw [e1]
    simp only [Int.natCast_mul] at this
    rw [Int.natAbs_of_nonneg (by omega), Int.natAbs_of_nonneg (by omega)] at this
    exact this.symm
  have k := key hb hd h
  obtain ⟨g, g0, eg, ea, eb, p1⟩ := gcd_dvd (a := a) hb
  obtain ⟨g', g0', eg', ec, ed, p2⟩ := gcd_dvd (a := c) hd
  rw [← eg, ← eg'] at k
  have hgg : g * g' ≠ 0 := by
    have := Int.mul_pos g0 g0'
    omega
  have x2 : (ratioF a b).2 = (ratioF c d).2 := by
    have : g * g' * (ratioF c d).2 = g * g' * (ratioF a b).2 := by
      have h1 : g * d = g' * b := k
      rw [ed, eb] at h1
      grind
    exact (Int.eq_of_mul_eq_mul_left hgg this).symm
  have x1 : (ratioF a b).1 = (ratioF c d).1 := by
    have h2 : a * d = c * b := h
    rw [ea, ed, ec, eb, x2] at h2
    have p3 : (ratioF c d).2 ≠ 0 := by omega
    have : g * g' * (ratioF c d).2 * (ratioF a b).1 = g * g' * (ratioF c d).2 * (ratioF c d).1 := by grind
    exact Int.eq_of_mul_eq_mul_left (by simp [p3]; omega) this
  exact Prod.ext x1 x2
theorem ratioF_mul {a b k : Int} (hb : 0 < b) (hk : 0 < k) : ratioF (a * k) (b * k) = ratioF a b := ratioF_eq (Int.mul_pos hb hk) hb (by grind)
theorem ratioF_pos {a b : Int} (hb : 0 < b) : 0 < (ratioF a b).2 := by
  obtain ⟨_, _, _, _, _, h⟩ := gcd_dvd (a := a) hb
  exact h
theorem ratioF_abs {a b : Int} (hb : 0 < b) : (ratioF a b).1.natAbs ≤ a.natAbs ∧ (ratioF a b).2.natAbs ≤ b.natAbs := ⟨Int.natAbs_ediv_le_natAbs .., Int.natAbs_ediv_le_natAbs ..⟩
theorem ratioF_cross {a b : Int} (hb : 0 < b) : (ratioF a b).1 * b = a * (ratioF a b).2 := by
  obtain ⟨g, g0, eg, ea, e2, p1⟩ := gcd_dvd (a := a) hb
  generalize ratioF a b = r at *
  grind
theorem ok4_le {i j : Int} (h : ok4 j = true) (hi : i.natAbs ≤ j.natAbs) : ok4 i = true := by
  have := ok4_iff.mp h
  exact ok4_iff.mpr (by omega)
theorem plusO_ratio {a b c d : Int} (hb : 0 < b) (hd : 0 < d) (h1 : ok4 a = true) (h2 : ok4 b = true) (h3 : ok4 c = true) (h4 : ok4 d = true) : plusO (ratioF a b) (ratioF c d) = some (ratioF (a * d + c * b) (b * d)) := by
  have p1 := ratioF_pos (a := a) hb
  have p2 := ratioF_pos (a := c) hd
  have a1 := ratioF_abs (a := a) hb
  have a2 := ratioF_abs (a := c) hd
  unfold plusO
  rw [ok4_le h1 a1.1, ok4_le h2 a1.2, ok4_le h3 a2.1, ok4_le h4 a2.2]
  simp only [p1, p2, decide_true, Bool.and_self, if_true, Option.some.injEq]
  refine ratioF_eq (Int.mul_pos p1 p2) (Int.mul_pos hb hd) ?_
  have c1 := ratioF_cross (a := a) hb
  have c2 := ratioF_cross (a := c) hd
  generalize ratioF a b = r at *
  generalize ratioF c d = t at *
  grind
/-- a sum over one bottom -/
theorem sum_ratios {b : Int} (hb : 0 < b) (h4 : ok4 b = true) : ∀ (ns : List Int) (t : Int), (∀ (k : Nat), ok4 (t + (ns.take k).sum) = true) → (∀ n ∈ ns, ok4 n = true) → (ns.map fun n => ratioF n b).foldlM plusO (ratioF t b) = some (ratioF (t + ns.sum) b)
  | [], t, _, _ => by simp
  | n :: ns, t, h, hn => by
    rw [List.map_cons, List.foldlM_cons, plusO_ratio hb hb (by simpa using h 0) h4 (hn n (List.mem_cons_self ..)) h4]
    have e : ratioF (t * b + n * b) (b * b) = ratioF (t + n) b := by
      rw [← ratioF_mul (a := t + n) hb hb, Int.add_mul]
    simp only [Option.bind_eq_bind, Option.bind_some]
    rw [e, sum_ratios hb h4 ns (t + n) (fun k => by simpa [Int.add_assoc] using h (k + 1)) fun m hm => hn m (List.mem_cons_of_mem _ hm)]
    simp [Int.add_assoc]
end Fc

/-! FcLawC: drawn chances are chances. -/
namespace Fc
open PySem L2
local macro_rules | `(tactic| walk_at "fc") => `(tactic| try simp only [runB, cSeq, cNil, cRet, cExpr, cIf, cSet, cAsg, cPar, cAug, cRaise, cStore, cPass, toS_ok, toS_exn, toS_stuck, Res.bd_ok, Res.bd_exn, Res.bd_stuck, Res.bdN_ok, Res.bdN_exn, Res.bdN_stuck,
  eVar, eC, eTup, eLst, eOp, eChain, eUn, eAnd, eOr, eNot, eIf, tTs, tAnd2, tOr2, tNot2, tTrue, eCall, eBi, eIsi, eMtL, eSl, oNo, oSo, lNil, lCons, iSeq, iRange1, iRange2, zAdd, zSub, zMul, zDiv, zMod, ofO, opInt, opIn, opNotIn, opEq, opNe, opIs, opIsnt,
  List.map_cons, List.map_nil, List.length_cons, List.length_nil, List.replicate, List.append_nil, List.nil_append, List.cons_append, List.getElem?_cons_zero, List.getElem?_cons_succ, List.getElem?_nil, List.set_cons_zero, List.set_cons_succ, List.set_nil, lm0, lm1, lm2, lm3, lm4, lm5, lm6, lm7, lm8, lm9, asg_nm, asg_tp, asgs_nil, asgs_cons, Option.bind_some, Option.bind_none, Option.map_some, Option.map_none,
  Nat.reduceSub, Nat.reduceAdd, Nat.zero_add, Nat.add_zero, Nat.sub_self, if_true, if_false, reduceIte, Bool.false_eq_true, Bool.true_eq_false, reduceCtorEq])
local macro_rules | `(tactic| walk_at "fo") => `(tactic| try simp only [*, runB, cSeq, cNil, cRet, cExpr, cIf, cSet, cAsg, cPar, cAug, cRaise, cStore, cPass, toS_ok, toS_exn, toS_stuck, Res.bd_ok, Res.bd_exn, Res.bd_stuck, Res.bdN_ok, Res.bdN_exn, Res.bdN_stuck,
  eVar, eC, eTup, eLst, eOp, eChain, eUn, eAnd, eOr, eNot, eIf, tTs, tAnd2, tOr2, tNot2, tTrue, eCall, eBi, eIsi, eMtL, eSl, oNo, oSo, lNil, lCons, iSeq, iRange1, iRange2, zAdd, zSub, zMul, zDiv, zMod, ofO, opInt, opIn, opNotIn, opEq, opNe, opIs, opIsnt,
  List.map_cons, List.map_nil, List.length_cons, List.length_nil, List.replicate, List.append_nil, List.nil_append, List.cons_append, List.getElem?_cons_zero, List.getElem?_cons_succ, List.getElem?_nil, List.set_cons_zero, List.set_cons_succ, List.set_nil, lm0, lm1, lm2, lm3, lm4, lm5, lm6, lm7, lm8, lm9, asg_nm, asg_tp, asgs_nil, asgs_cons, Option.bind_some, Option.bind_none, Option.map_some, Option.map_none,
  Nat.reduceSub, Nat.reduceAdd, Nat.zero_add, Nat.add_zero, Nat.sub_self, if_true, if_false, reduceIte, Bool.false_eq_true, Bool.true_eq_false, reduceCtorEq, and_self, Bool.and_self, decide_true, decide_false])
local macro_rules | `(tactic| walk_at "fg") => `(tactic| try simp only [*, runB, cSeq, cNil, cRet, cExpr, cIf, cSet, cAsg, cPar, cAug, cRaise, cStore, cPass, toS_ok, toS_exn, toS_stuck, Res.bd_ok, Res.bd_exn, Res.bd_stuck, Res.bdN_ok, Res.bdN_exn, Res.bdN_stuck,
  eVar, eC, eTup, eLst, eOp, eChain, eUn, eAnd, eOr, eNot, eIf, tTs, tAnd2, tOr2, tNot2, tTrue, eCall, eBi, eIsi, eMtL, eSl, oNo, oSo, lNil, lCons, iSeq, iRange1, iRange2, zAdd, zSub, zMul, zDiv, zMod, ofO, opInt, opIn, opNotIn, opEq, opNe, opIs, opIsnt,
  List.map_cons, List.map_nil, List.length_cons, List.length_nil, List.replicate, List.append_nil, List.nil_append, List.cons_append, List.getElem?_cons_zero, List.getElem?_cons_succ, List.getElem?_nil, List.set_cons_zero, List.set_cons_succ, List.set_nil, lm0, lm1, lm2, lm3, lm4, lm5, lm6, lm7, lm8, lm9, asg_nm, asg_tp, asgs_nil, asgs_cons, Option.bind_some, Option.bind_none, Option.map_some, Option.map_none,
  Nat.reduceSub, Nat.reduceAdd, Nat.zero_add, Nat.add_zero, Nat.sub_self, if_true, if_false, reduceIte, Bool.false_eq_true, Bool.true_eq_false, reduceCtorEq, and_self, Bool.and_self, decide_true, decide_false, List.append_assoc, List.length_append, Nat.add_assoc, at_new, at_newk, add_rr, ix_ref, seq_ref, list_ref, seq_tup, seq_fz, list_fz, ix_tup, ix_fz, neg_int, app_ref, set_newk, set_new0, iZ, slD, eLc, len_tup, len_ref])
local macro_rules | `(tactic| walk_at "fs") => `(tactic| try simp [runB, cSeq, cNil, cRet, cExpr, cIf, cSet, cAsg, cPar, cAug, cRaise, cStore, cPass, toS_ok, toS_exn, toS_stuck, Res.bd_ok, Res.bd_exn, Res.bd_stuck, Res.bdN_ok, Res.bdN_exn, Res.bdN_stuck,
  eVar, eC, eTup, eLst, eOp, eChain, eUn, eAnd, eOr, eNot, eIf, tTs, tAnd2, tOr2, tNot2, tTrue, eCall, eBi, eIsi, eMtL, eSl, oNo, oSo, lNil, lCons, iSeq, iRange1, iRange2, zAdd, zSub, zMul, zDiv, zMod, ofO, opInt, opIn, opNotIn, opEq, opNe, opIs, opIsnt,
  List.map_cons, List.map_nil, List.length_cons, List.length_nil, List.replicate, List.append_nil, List.nil_append, List.cons_append, List.getElem?_cons_zero, List.getElem?_cons_succ, List.getElem?_nil, List.set_cons_zero, List.set_cons_succ, List.set_nil, lm0, lm1, lm2, lm3, lm4, lm5, lm6, lm7, lm8, lm9, asg_nm, asg_tp, asgs_nil, asgs_cons, Option.bind_some, Option.bind_none, Option.map_some, Option.map_none,
  Nat.reduceSub, Nat.reduceAdd, Nat.zero_add, Nat.add_zero, Nat.sub_self, if_true, if_false, reduceIte, Bool.false_eq_true, Bool.true_eq_false, reduceCtorEq, len_tup, ty_non, ty_bl, ty_int, ty_str, ty_tup, ty_fz, isT, eqD_int, seq_tup, seq_fz, list_fz])
structure Drawn (ps : List Fr) : Prop where
  ex : ∃ (ns : List Int) (b : Int), ps = ns.map (fun n => ratioF n b) ∧ 0 < b ∧ b ≤ 30 ∧ (∀ n ∈ ns, 0 ≤ n) ∧ ns.sum = b ∧ 1 ≤ ns.length ∧ ns.length ≤ 6
theorem gcd_ratioF {a b : Int} (hb : 0 < b) : Int.gcd (ratioF a b).1 (ratioF a b).2 = 1 := by
  have hg : 0 < Int.gcd a b := Int.gcd_pos_of_ne_zero_right a (by omega)
  unfold ratioF
  exact Int.gcd_ediv_gcd_ediv_gcd hg
theorem ok4_30 {i : Int} (h0 : 0 ≤ i) (h1 : i ≤ 1000) : ok4 i = true := ok4_iff.mpr (Nat.lt_of_lt_of_le (by omega : i.natAbs < 2 ^ 10) (Nat.pow_le_pow_right (by decide) (by decide)))
theorem le_sum {ns : List Int} (h : ∀ n ∈ ns, 0 ≤ n) : (∀ n ∈ ns, n ≤ ns.sum) ∧ 0 ≤ ns.sum := by
  induction ns with
  | nil => simp
  | cons m ns ih =>
    obtain ⟨h1, h2⟩ := ih fun n hn => h n (List.mem_cons_of_mem _ hn)
    have h3 := h m (List.mem_cons_self ..)
    simp only [List.sum_cons]
    refine ⟨fun n hn => ?_, by omega⟩
    rcases List.mem_cons.mp hn with rfl | hn
    · omega
    · have := h1 n hn
      omega
theorem take_sum {ns : List Int} (h : ∀ n ∈ ns, 0 ≤ n) (k : Nat) : 0 ≤ (ns.take k).sum ∧ (ns.take k).sum ≤ ns.sum := by
  have e : ns.sum = (ns.take k).sum + (ns.drop k).sum := by rw [← List.sum_append, List.take_append_drop]
  have h1 := (le_sum (ns := ns.take k) fun n hn => h n (List.mem_of_mem_take hn)).2
  have h2 := (le_sum (ns := ns.drop k) fun n hn => h n (List.mem_of_mem_drop hn)).2
  omega
/-- a part of a ratio's bottom -/
theorem ratioF_bot {n b : Int} (hb : 0 < b) : (ratioF n b).2 ∣ b ∧ (ratioF n b).2 ≤ b := by
  obtain ⟨g, g0, _, _, e, h⟩ := gcd_dvd (a := n) hb
  have : (ratioF n b).2 ∣ b := ⟨g, e⟩
  exact ⟨this, Int.le_of_dvd hb this⟩
theorem ratioF_top {n b : Int} (hb : 0 < b) (h0 : 0 ≤ n) (h1 : n ≤ b) : 0 ≤ (ratioF n b).1 ∧ (ratioF n b).1 ≤ (ratioF n b).2 := by
  have h2 := ratioF_pos (a := n) hb
  have h3 := ratioF_cross (a := n) hb
  constructor
  · have : 0 ≤ n * (ratioF n b).2 := Int.mul_nonneg h0 (by omega)
    rw [← h3] at this
    exact Int.nonneg_of_mul_nonneg_left this hb
  · have : n * (ratioF n b).2 ≤ b * (ratioF n b).2 := Int.mul_le_mul_of_nonneg_right h1 (by omega)
    rw [← h3, Int.mul_comm b] at this
    exact Int.le_of_mul_le_mul_right this hb
theorem Drawn.parts {ps : List Fr} (h : Drawn ps) : ps.length ≤ 6 ∧ 1 ≤ ps.length ∧ ∀ p ∈ ps, 0 < p.2 ∧ p.2 ≤ 30 ∧ 0 ≤ p.1 ∧ p.1 ≤ p.2 ∧ Int.gcd p.1 p.2 = 1 := by
  obtain ⟨ns, b, rfl, hb, h30, h0, hs, h1, h6⟩ := h.ex
  refine ⟨by simpa using h6, by simpa using h1, fun p hp => ?_⟩
  obtain ⟨n, hn, rfl⟩ := List.mem_map.mp hp
  have e1 := ratioF_bot (n := n) hb
  have e2 := ratioF_top hb (h0 n hn) (by have := (le_sum h0).1 n hn; omega)
  exact ⟨ratioF_pos hb, by omega, e2.1, e2.2, gcd_ratioF hb⟩
theorem Drawn.okP {ps : List Fr} (h : Drawn ps) {p : Fr} (hp : p ∈ ps) : okP p = true := by
  obtain ⟨h1, h2, h3, h4, h5⟩ := h.parts.2.2 p hp
  exact okP_iff.mpr ⟨h1, ok4_30 h3 (by omega), ok4_30 (by omega) (by omega)⟩
theorem Drawn.chs {ps : List Fr} (h : Drawn ps) : chs (.tup (ps.map fr)) = some ps := by
  have h6 := h.parts.1
  have h2 : ps.length ≤ 64 := by omega
  have h3 : ps.all Fc.okP = true := List.all_eq_true.mpr fun p hp => h.okP hp
  simp [Fc.chs, h2, h3]
theorem Drawn.added {ps : List Fr} (h : Drawn ps) : addedO ps = some (1, 1) := by
  obtain ⟨ns, b, rfl, hb, h30, h0, hs, h1, h6⟩ := h.ex
  have e := sum_ratios hb (ok4_30 (by omega) (by omega)) ns 0 (fun k => by
    have := take_sum h0 k
    exact ok4_30 (by omega) (by omega)) (fun n hn => by
    have := (le_sum h0).1 n hn
    exact ok4_30 (h0 n hn) (by omega))
  have z : ratioF 0 b = (0, 1) := by
    rw [ratioF_eq (a := 0) (b := b) (c := 0) (d := 1) hb (by decide) (by simp)]
    rfl
  have o : ratioF (0 + ns.sum) b = (1, 1) := by
    rw [ratioF_eq (a := 0 + ns.sum) (b := b) (c := 1) (d := 1) hb (by decide) (by omega)]
    rfl
  rw [z, o] at e
  exact e
theorem lcmI_dvd {r b B : Int} (hr : 0 < r) (hb : 0 < b) (h1 : r ∣ B) (h2 : b ∣ B) : lcmI r b ∣ B ∧ 0 < lcmI r b ∧ r ∣ lcmI r b ∧ b ∣ lcmI r b := by
  have e : lcmI r b = (Int.lcm r b : Nat) := by
    unfold lcmI
    have hg : 0 < Int.gcd r b := Int.gcd_pos_of_ne_zero_right r (by omega)
    have := Int.gcd_mul_lcm r b
    have h3 : ((Int.gcd r b * Int.lcm r b : Nat) : Int) = r * b := by
      rw [this, Int.natCast_mul, Int.natAbs_of_nonneg (by omega), Int.natAbs_of_nonneg (by omega)]
    rw [← h3, Int.natCast_mul, Int.mul_ediv_cancel_left _ (by omega)]
  rw [e]
  refine ⟨?_, ?_, Int.dvd_lcm_left .., Int.dvd_lcm_right ..⟩
  · exact Int.coe_lcm_dvd h1 h2
  · have := Int.lcm_pos (m := r) (n := b) (by omega) (by omega)
    omega
theorem bot_dvd {B : Int} (hB : 0 < B) (h4 : ok4 B = true) : ∀ (ps : List Fr) (r : Int), 0 < r → r ∣ B → (∀ p ∈ ps, 0 < p.2 ∧ p.2 ∣ B) → ∃ r', botO ps r = some r' ∧ 0 < r' ∧ r' ∣ B ∧ r ∣ r' ∧ ∀ p ∈ ps, p.2 ∣ r'
  | [], r, h0, h1, _ => ⟨r, rfl, h0, h1, Int.dvd_refl r, fun _ h => nomatch h⟩
  | p :: ps, r, h0, h1, hp => by
    obtain ⟨a1, a2⟩ := hp p (List.mem_cons_self ..)
    obtain ⟨b1, b2, b3, b4⟩ := lcmI_dvd h0 a1 h1 a2
    obtain ⟨r', e, c1, c2, c3, c4⟩ := bot_dvd hB h4 ps (lcmI r p.2) b2 b1 fun q hq => hp q (List.mem_cons_of_mem _ hq)
    have le1 := Int.le_of_dvd hB h1
    have le2 := Int.le_of_dvd hB a2
    refine ⟨r', ?_, c1, c2, Int.dvd_trans b3 c3, fun q hq => ?_⟩
    · unfold botO
      rw [ok4_le h4 (i := r) (by omega), ok4_le h4 (i := p.2) (by omega)]
      simp [a1, h0, e]
    · rcases List.mem_cons.mp hq with rfl | hq
      · exact Int.dvd_trans b4 c3
      · exact c4 q hq
theorem Drawn.bot {ps : List Fr} (h : Drawn ps) : ∃ b, botO ps 1 = some b ∧ 0 < b ∧ b ≤ 30 ∧ ∀ p ∈ ps, p.2 ∣ b := by
  obtain ⟨ns, b, rfl, hb, h30, h0, hs, h1, h6⟩ := h.ex
  obtain ⟨r, e, c1, c2, c3, c4⟩ := bot_dvd hb (ok4_30 (by omega) (by omega)) (ns.map fun n => ratioF n b) 1 (by decide) (Int.one_dvd b) fun p hp => by
    obtain ⟨n, hn, rfl⟩ := List.mem_map.mp hp
    exact ⟨ratioF_pos hb, (ratioF_bot hb).1⟩
  exact ⟨r, e, c1, by have := Int.le_of_dvd hb c2; omega, c4⟩
theorem fracO_fr {S : Sto} {p : Fr} (h : 0 < p.2) (h8 : ok8 p.2 = true) : fracO S (fr p) = some (decide (Int.gcd p.1 p.2 = 1)) := by
  have : ¬ p.2 < 1 := by omega
  simp [fr, fracO, this, h8]
theorem Drawn.chO {ps : List Fr} (h : Drawn ps) (S : Sto) : chO S (.tup (ps.map fr)) = some true := by
  obtain ⟨h6, h1, hp⟩ := h.parts
  obtain ⟨b, e, b0, b30, _⟩ := h.bot
  have fo : ∀ p ∈ ps, fracO S (fr p) = some true := fun p hm => by
    obtain ⟨q1, q2, q3, q4, q5⟩ := hp p hm
    rw [fracO_fr q1 (ok8_iff.mpr (Nat.lt_of_lt_of_le (by omega : p.2.natAbs < 2 ^ 5) (Nat.pow_le_pow_right (by decide) (by decide)))), q5]
    rfl
  have a1 : ((ps.map fr).all fun x => (fracO S x).isSome) = true := List.all_eq_true.mpr fun x hx => by
    obtain ⟨p, hm, rfl⟩ := List.mem_map.mp hx
    rw [fo p hm]
    rfl
  have a2 : ((ps.map fr).all fun x => fracO S x == some true && nonneg x) = true := List.all_eq_true.mpr fun x hx => by
    obtain ⟨p, hm, rfl⟩ := List.mem_map.mp hx
    rw [fo p hm, nonneg_fr, decide_eq_true (hp p hm).2.2.1]
    rfl
  have l1 : (decide (1 ≤ (ps.map fr).length) && decide ((ps.map fr).length ≤ 6)) = true := by simp [h1, h6]
  simp only [Fc.chO]
  rw [if_pos l1, if_pos a1, if_pos a2, unfrs_map]
  simp [h.added, e, b30]
/-! ### the drawn ones are such -/
theorem difs_len : ∀ (x : Int) (l : List Int), (difs (x :: l)).length = l.length
  | _, [] => rfl
  | x, y :: l => by simp [difs, difs_len y l]
theorem difs_sum : ∀ (x : Int) (l : List Int) (z : Int), (difs (x :: (l ++ [z]))).sum = z - x
  | x, [], z => by simp [difs]
  | x, y :: l, z => by
    have := difs_sum y l z
    simp only [List.cons_append, difs, List.sum_cons, this]
    omega
theorem difs_nonneg : ∀ (l : List Int), l.Pairwise (· ≤ ·) → ∀ d ∈ difs l, 0 ≤ d
  | [], _, d, h => by simp [difs] at h
  | [_], _, d, h => by simp [difs] at h
  | x :: y :: l, hp, d, h => by
    rw [List.pairwise_cons] at hp
    simp only [difs, List.mem_cons] at h
    rcases h with rfl | h
    · have := hp.1 y (List.mem_cons_self ..)
      omega
    · exact difs_nonneg (y :: l) hp.2 d h
theorem sortI_mem {x : Int} {l : List Int} : x ∈ sortI l ↔ x ∈ l := (sortI_perm l).mem_iff
theorem chF_drawn (p : Pen) : Drawn (chF p).ps := by
  simp only [chF, Dr.ps]
  have hb := draw_lt p (m := 30) (by decide)
  generalize draw p 30 = q1 at *
  have hv := draw_lt q1.2 (m := 6) (by decide)
  generalize draw q1.2 6 = q2 at *
  have hr := drawN_lt q2.2 (m := 1 + q1.1 + 1) (by omega) q2.1.toNat
  have hl := drawN_len q2.2 (1 + q1.1 + 1) q2.1.toNat
  generalize (drawN q2.2 (1 + q1.1 + 1) q2.1.toNat).1 = vs at *
  refine ⟨_, _, rfl, by omega, by omega, difs_nonneg _ ?_, ?_, ?_, ?_⟩
  · simp only [List.cons_append, List.nil_append]
    refine List.pairwise_cons.mpr ⟨fun a ha => ?_, List.pairwise_append.mpr ⟨sortI_sorted _, by simp, fun a ha c hc => ?_⟩⟩
    · rcases List.mem_append.mp ha with ha | ha
      · exact (hr a (sortI_mem.mp ha)).1
      · simp at ha
        omega
    · simp at hc
      have := (hr a (sortI_mem.mp ha)).2
      omega
  · simp only [List.cons_append, List.nil_append, difs_sum]
    omega
  · simp only [List.cons_append, List.nil_append, difs_len, List.length_append, List.length_cons, List.length_nil]
    omega
  · simp only [List.cons_append, List.nil_append, difs_len, List.length_append, List.length_cons, List.length_nil, sortI_len, hl]
    omega
/-! ### comprehensions by their places -/
theorem lc_idx {it : Itf} {tg : Tg} {elt : DE} {ρ : Ev} {S : Sto} (N : Nat) (x h : Nat → Dv) (hl : N ≤ lim) (hit : ∀ acc i, i < N → it (S ++ [.lst acc]) i = some (some (x i))) (hend : ∀ acc, it (S ++ [.lst acc]) N = some none)
    (hx : ∀ i, i < N → ∀ acc, ∃ ρ2, tg.asg (x i) ρ = some ρ2 ∧ elt ρ2 (S ++ [.lst acc]) = .ok (h i) (S ++ [.lst acc])) :
    lcL it tg tTrue elt ρ S.length big 0 (S ++ [.lst []]) = .ok (.ref S.length) (S ++ [.lst ((List.range N).map h)]) := by
  obtain ⟨acc', S', e, rfl, rfl⟩ := lcL_run (it := it) (tg := tg) (cond := tTrue) (elt := elt) (ρ := ρ) (n := S.length) (N := N) (fun i acc S1 => acc = (List.range i).map h ∧ S1 = S ++ [.lst acc])
    (fun i acc S1 hi hh => by
      obtain ⟨ha, rfl⟩ := hh
      obtain ⟨ρ2, e1, e2⟩ := hx i hi acc
      refine ⟨x i, ρ2, hit _ _ hi, e1, true, S ++ [.lst acc], rfl, fun hc => (by cases hc), fun _ => ⟨h i, S ++ [.lst acc], e2, by simp, ?_, ?_, ?_⟩⟩
      · rw [ha]
        simp
        omega
      · rw [ha, List.range_succ]
        simp
      · simp)
    (fun acc S1 hh => by
      obtain ⟨_, rfl⟩ := hh
      exact hend acc)
    big 0 [] _ (Nat.zero_le _) (by have := lim_big hl; omega) ⟨by simp, rfl⟩
  exact e
def pAt (ps : List Fr) (i : Nat) : Fr := ps[i]?.getD (0, 1)
theorem pAt_get {ps : List Fr} {i : Nat} (h : i < ps.length) : ps[i]? = some (pAt ps i) := by
  unfold pAt
  rw [List.getElem?_eq_getElem h]
  rfl
theorem pAt_ix {ps : List Fr} {i : Nat} (h : i < ps.length) : ps[i] = pAt ps i := by
  have := pAt_get h
  rw [List.getElem?_eq_getElem h] at this
  exact Option.some.inj this
theorem pAt_mem {ps : List Fr} {i : Nat} (h : i < ps.length) : pAt ps i ∈ ps := List.mem_of_getElem? (pAt_get h)
theorem map_range {α : Type} (ps : List Fr) (f : Fr → α) : (List.range ps.length).map (fun i => f (pAt ps i)) = ps.map f := by
  apply List.ext_getElem?
  intro i
  simp only [List.getElem?_map]
  by_cases h : i < ps.length
  · rw [List.getElem?_range h, pAt_get h]
    rfl
  · rw [List.getElem?_eq_none (by simpa using Nat.le_of_not_lt h), List.getElem?_eq_none (by omega)]
    rfl
/-! ### what is left, and open words -/
theorem rat_parts {n b : Int} (hb : 0 < b) (m : Int) : ratioF (m * (ratioF n b).1 % (ratioF n b).2) (ratioF n b).2 = ratioF (m * n % b) b ∧ m * (ratioF n b).1 / (ratioF n b).2 = m * n / b := by
  obtain ⟨g, g0, _, e1, e2, h⟩ := gcd_dvd (a := n) hb
  generalize ratioF n b = p at *
  have a1 : m * n = m * p.1 * g := by rw [e1]; grind
  constructor
  · rw [a1]
    conv => rhs; rw [e2]
    rw [Int.mul_comm _ g, Int.mul_comm _ g, Int.mul_emod_mul_of_pos _ _ g0, Int.mul_comm g, Int.mul_comm g]
    exact (ratioF_mul h g0).symm
  · rw [a1]
    conv => rhs; rw [e2]
    rw [Int.mul_ediv_mul_of_pos_left _ _ g0]
def lef (s : Int) (i : Nat) (p : Fr) : Int := s ^ i * p.1 % p.2
def opens (s : Int) (k : Nat) (ps : List Fr) : Int := s ^ k - (ps.map (flo s k)).sum
theorem sum_mod {b : Int} (hb : 0 < b) (m : Int) : ∀ ns : List Int, (ns.map fun n => m * n % b).sum = m * ns.sum - b * (ns.map fun n => m * n / b).sum ∧ 0 ≤ (ns.map fun n => m * n % b).sum ∧ (ns.map fun n => m * n % b).sum ≤ b * ns.length
  | [] => by simp
  | n :: ns => by
    obtain ⟨h1, h2, h3⟩ := sum_mod hb m ns
    have e := Int.emod_add_mul_ediv (m * n) b
    have a := Int.emod_nonneg (m * n) (by omega : b ≠ 0)
    have c := Int.emod_lt_of_pos (m * n) hb
    simp only [List.map_cons, List.sum_cons, List.length_cons]
    have l : b * ((ns.length + 1 : Nat) : Int) = b * (ns.length : Int) + b := by rw [Int.natCast_add, Int.mul_add]; simp
    rw [l, Int.mul_add, Int.mul_add]
    refine ⟨?_, by omega, by omega⟩
    rw [h1]
    omega
theorem opens_of {ps : List Fr} (h : Drawn ps) (s : Int) (k : Nat) : addedO (ps.map fun p => ratioF (lef s k p) p.2) = some (opens s k ps, 1) ∧ 0 ≤ opens s k ps ∧ opens s k ps ≤ 6 := by
  obtain ⟨ns, b, rfl, hb, h30, h0, hs, h1, h6⟩ := h.ex
  have m1 : ((ns.map fun n => ratioF n b).map fun p => ratioF (lef s k p) p.2) = (ns.map fun n => s ^ k * n % b).map fun n => ratioF n b := by
    rw [List.map_map, List.map_map]
    exact List.map_congr_left fun n _ => (rat_parts hb (s ^ k)).1
  have m2 : ((ns.map fun n => ratioF n b).map (flo s k)) = ns.map fun n => s ^ k * n / b := by
    rw [List.map_map]
    exact List.map_congr_left fun n _ => (rat_parts hb (s ^ k)).2
  obtain ⟨e1, e2, e3⟩ := sum_mod hb (s ^ k) ns
  unfold opens
  rw [m1, m2]
  have e4 : (ns.map fun n => s ^ k * n % b).sum = (s ^ k - (ns.map fun n => s ^ k * n / b).sum) * b := by
    rw [e1, hs, Int.sub_mul, Int.mul_comm b]
  have len : b * (ns.length : Int) ≤ b * 6 := Int.mul_le_mul_of_nonneg_left (by omega) (by omega)
  have nn : ∀ n ∈ ns.map fun n => s ^ k * n % b, 0 ≤ n := fun n hn => by
    obtain ⟨m, _, rfl⟩ := List.mem_map.mp hn
    exact Int.emod_nonneg _ (by omega)
  have sr := sum_ratios hb (ok4_30 (by omega) (by omega)) (ns.map fun n => s ^ k * n % b) 0 (fun j => by
    have := take_sum nn j
    exact ok4_30 (by omega) (by omega)) (fun n hn => by
    have := (le_sum nn).1 n hn
    exact ok4_30 (nn n hn) (by omega))
  have z : ratioF 0 b = (0, 1) := by
    rw [ratioF_eq (a := 0) (b := b) (c := 0) (d := 1) hb (by decide) (by simp)]
    rfl
  generalize s ^ k - (ns.map fun n => s ^ k * n / b).sum = o at *
  have f : ratioF (0 + (ns.map fun n => s ^ k * n % b).sum) b = (o, 1) := by
    rw [ratioF_eq (a := 0 + (ns.map fun n => s ^ k * n % b).sum) (b := b) (c := o) (d := 1) hb (by decide) (by omega)]
    simp [ratioF]
  rw [z, f] at sr
  refine ⟨sr, ?_, ?_⟩
  · refine Int.nonneg_of_mul_nonneg_left (b := b) ?_ hb
    omega
  · have le6 : o * b ≤ 6 * b := by omega
    exact Int.le_of_mul_le_mul_right le6 hb
theorem chF_pen {p : Pen} {N : Nat} (h : penB p N) : penB (chF p).pen (N + 8) := by
  simp only [chF]
  have h1 := h.draw 30
  have h2 := h1.draw 6
  have hv := draw_lt (draw p 30).2 (m := 6) (by decide)
  have h3 := h2.drawN (1 + (draw p 30).1 + 1) (draw (draw p 30).2 6).1.toNat
  exact h3.mono (by omega)
theorem penB.okPn {p : Pen} {N : Nat} (h : penB p N) (hN : N ≤ 1000000) : okPn p = true := by
  obtain ⟨h1, h2, h3, h4⟩ := h
  simp only [Fc.okPn, Bool.and_eq_true, decide_eq_true_eq]
  refine ⟨⟨⟨h1, h2⟩, h3⟩, ?_⟩
  have : (1000000 : Int) ≤ 2 ^ 100 := by decide
  generalize (2 : Int) ^ 100 = x at *
  omega
def frP (p : Fr) : PyData := .tuple [.int p.1, .int p.2]
theorem flat_fr (p : Fr) : (fr p).flat = some (frP p) := rfl
theorem frs_flat (ps : List Fr) : (Dv.tup (ps.map fr)).flat = some (.tuple (ps.map frP)) := by
  simp only [Dv.flat, flats_map ps (fun p _ => flat_fr p), Option.map_some]
theorem Drawn.show {ps : List Fr} (h : Drawn ps) : showOk (.tuple (ps.map frP)) = true := by
  obtain ⟨h6, h1, hp⟩ := h.parts
  refine showOk_of 7 ?_ (by decide) (by decide) ?_ ?_
  · simp only [tame, tames_all, List.all_eq_true]
    intro x hx
    obtain ⟨p, hm, rfl⟩ := List.mem_map.mp hx
    obtain ⟨q1, q2, q3, q4, q5⟩ := hp p hm
    simp [frP, tame, tames]
    omega
  · simp only [PyData.depth]
    have := depthAll_le (c := 1) (ps.map frP) (fun x hx => by
      obtain ⟨p, _, rfl⟩ := List.mem_map.mp hx
      simp [frP, PyData.depth, PyData.depthAll])
    omega
  · simp only [PyData.bulk]
    have := bulkAll_le (c := 2) (ps.map frP) (fun x hx => by
      obtain ⟨p, _, rfl⟩ := List.mem_map.mp hx
      simp [frP, PyData.bulk, PyData.bulkAll])
    have l := lim_eq
    simp at this
    omega
theorem Drawn.repr {ps : List Fr} (h : Drawn ps) (S : Sto) : ∃ x, fRepr [.tup (ps.map fr)] S = some (.str x, S) := by
  have e := flat_py (frs_flat ps) S
  have e2 := h.show
  unfold showOk at e2
  exact ⟨(PyData.tuple (ps.map frP)).shown, by simp only [fRepr, e, e2, if_true]⟩
end Fc

/-! L_k02: the law's own defs. -/
namespace Fc
open PySem L2
local macro_rules | `(tactic| walk_at "fc") => `(tactic| try simp only [runB, cSeq, cNil, cRet, cExpr, cIf, cSet, cAsg, cPar, cAug, cRaise, cStore, cPass, toS_ok, toS_exn, toS_stuck, Res.bd_ok, Res.bd_exn, Res.bd_stuck, Res.bdN_ok, Res.bdN_exn, Res.bdN_stuck,
  eVar, eC, eTup, eLst, eOp, eChain, eUn, eAnd, eOr, eNot, eIf, tTs, tAnd2, tOr2, tNot2, tTrue, eCall, eBi, eIsi, eMtL, eSl, oNo, oSo, lNil, lCons, iSeq, iRange1, iRange2, zAdd, zSub, zMul, zDiv, zMod, ofO, opInt, opIn, opNotIn, opEq, opNe, opIs, opIsnt,
  List.map_cons, List.map_nil, List.length_cons, List.length_nil, List.replicate, List.append_nil, List.nil_append, List.cons_append, List.getElem?_cons_zero, List.getElem?_cons_succ, List.getElem?_nil, List.set_cons_zero, List.set_cons_succ, List.set_nil, lm0, lm1, lm2, lm3, lm4, lm5, lm6, lm7, lm8, lm9, asg_nm, asg_tp, asgs_nil, asgs_cons, Option.bind_some, Option.bind_none, Option.map_some, Option.map_none,
  Nat.reduceSub, Nat.reduceAdd, Nat.zero_add, Nat.add_zero, Nat.sub_self, if_true, if_false, reduceIte, Bool.false_eq_true, Bool.true_eq_false, reduceCtorEq])
local macro_rules | `(tactic| walk_at "fo") => `(tactic| try simp only [*, runB, cSeq, cNil, cRet, cExpr, cIf, cSet, cAsg, cPar, cAug, cRaise, cStore, cPass, toS_ok, toS_exn, toS_stuck, Res.bd_ok, Res.bd_exn, Res.bd_stuck, Res.bdN_ok, Res.bdN_exn, Res.bdN_stuck,
  eVar, eC, eTup, eLst, eOp, eChain, eUn, eAnd, eOr, eNot, eIf, tTs, tAnd2, tOr2, tNot2, tTrue, eCall, eBi, eIsi, eMtL, eSl, oNo, oSo, lNil, lCons, iSeq, iRange1, iRange2, zAdd, zSub, zMul, zDiv, zMod, ofO, opInt, opIn, opNotIn, opEq, opNe, opIs, opIsnt,
  List.map_cons, List.map_nil, List.length_cons, List.length_nil, List.replicate, List.append_nil, List.nil_append, List.cons_append, List.getElem?_cons_zero, List.getElem?_cons_succ, List.getElem?_nil, List.set_cons_zero, List.set_cons_succ, List.set_nil, lm0, lm1, lm2, lm3, lm4, lm5, lm6, lm7, lm8, lm9, asg_nm, asg_tp, asgs_nil, asgs_cons, Option.bind_some, Option.bind_none, Option.map_some, Option.map_none,
  Nat.reduceSub, Nat.reduceAdd, Nat.zero_add, Nat.add_zero, Nat.sub_self, if_true, if_false, reduceIte, Bool.false_eq_true, Bool.true_eq_false, reduceCtorEq, and_self, Bool.and_self, decide_true, decide_false])
local macro_rules | `(tactic| walk_at "fg") => `(tactic| try simp only [*, runB, cSeq, cNil, cRet, cExpr, cIf, cSet, cAsg, cPar, cAug, cRaise, cStore, cPass, toS_ok, toS_exn, toS_stuck, Res.bd_ok, Res.bd_exn, Res.bd_stuck, Res.bdN_ok, Res.bdN_exn, Res.bdN_stuck,
  eVar, eC, eTup, eLst, eOp, eChain, eUn, eAnd, eOr, eNot, eIf, tTs, tAnd2, tOr2, tNot2, tTrue, eCall, eBi, eIsi, eMtL, eSl, oNo, oSo, lNil, lCons, iSeq, iRange1, iRange2, zAdd, zSub, zMul, zDiv, zMod, ofO, opInt, opIn, opNotIn, opEq, opNe, opIs, opIsnt,
  List.map_cons, List.map_nil, List.length_cons, List.length_nil, List.replicate, List.append_nil, List.nil_append, List.cons_append, List.getElem?_cons_zero, List.getElem?_cons_succ, List.getElem?_nil, List.set_cons_zero, List.set_cons_succ, List.set_nil, lm0, lm1, lm2, lm3, lm4, lm5, lm6, lm7, lm8, lm9, asg_nm, asg_tp, asgs_nil, asgs_cons, Option.bind_some, Option.bind_none, Option.map_some, Option.map_none,
  Nat.reduceSub, Nat.reduceAdd, Nat.zero_add, Nat.add_zero, Nat.sub_self, if_true, if_false, reduceIte, Bool.false_eq_true, Bool.true_eq_false, reduceCtorEq, and_self, Bool.and_self, decide_true, decide_false, List.append_assoc, List.length_append, Nat.add_assoc, at_new, at_newk, add_rr, ix_ref, seq_ref, list_ref, seq_tup, seq_fz, list_fz, ix_tup, ix_fz, neg_int, app_ref, set_newk, set_new0, iZ, slD, eLc, len_tup, len_ref])
local macro_rules | `(tactic| walk_at "fs") => `(tactic| try simp [runB, cSeq, cNil, cRet, cExpr, cIf, cSet, cAsg, cPar, cAug, cRaise, cStore, cPass, toS_ok, toS_exn, toS_stuck, Res.bd_ok, Res.bd_exn, Res.bd_stuck, Res.bdN_ok, Res.bdN_exn, Res.bdN_stuck,
  eVar, eC, eTup, eLst, eOp, eChain, eUn, eAnd, eOr, eNot, eIf, tTs, tAnd2, tOr2, tNot2, tTrue, eCall, eBi, eIsi, eMtL, eSl, oNo, oSo, lNil, lCons, iSeq, iRange1, iRange2, zAdd, zSub, zMul, zDiv, zMod, ofO, opInt, opIn, opNotIn, opEq, opNe, opIs, opIsnt,
  List.map_cons, List.map_nil, List.length_cons, List.length_nil, List.replicate, List.append_nil, List.nil_append, List.cons_append, List.getElem?_cons_zero, List.getElem?_cons_succ, List.getElem?_nil, List.set_cons_zero, List.set_cons_succ, List.set_nil, lm0, lm1, lm2, lm3, lm4, lm5, lm6, lm7, lm8, lm9, asg_nm, asg_tp, asgs_nil, asgs_cons, Option.bind_some, Option.bind_none, Option.map_some, Option.map_none,
  Nat.reduceSub, Nat.reduceAdd, Nat.zero_add, Nat.add_zero, Nat.sub_self, if_true, if_false, reduceIte, Bool.false_eq_true, Bool.true_eq_false, reduceCtorEq, len_tup, ty_non, ty_bl, ty_int, ty_str, ty_tup, ty_fz, isT, eqD_int, seq_tup, seq_fz, list_fz])
def foundL (s : Int) (p : Fr) (k : Nat) : List Dv := (List.range (k + 1)).map fun i => .int (dig s i p)
def leftL (s : Int) (p : Fr) (k : Nat) : List Dv := (List.range (k + 1)).map fun i => .int (lef s i p)
theorem foundL_succ (s : Int) (p : Fr) (k : Nat) : foundL s p (k + 1) = foundL s p k ++ [.int (dig s (k + 1) p)] := by simp [foundL, List.range_succ]
theorem leftL_succ (s : Int) (p : Fr) (k : Nat) : leftL s p (k + 1) = leftL s p k ++ [.int (lef s (k + 1) p)] := by simp [leftL, List.range_succ]
theorem leftL_last (s : Int) (p : Fr) (k : Nat) : atI (leftL s p k) (-1) = some (.int (lef s k p)) := by
  have : leftL s p k = (List.range k).map (fun i => .int (lef s i p)) ++ [.int (lef s k p)] := by simp [leftL, List.range_succ]
  rw [this, at_last]
theorem dig_step {s : Int} {p : Fr} (h : 0 < p.2) (i : Nat) : s * lef s i p / p.2 = dig s (i + 1) p ∧ s * lef s i p % p.2 = lef s (i + 1) p := by
  simp only [lef, dig, flo, Nat.succ_ne_zero, if_false, Nat.add_sub_cancel]
  rw [Int.pow_succ, Int.mul_right_comm]
  generalize s ^ i * p.1 = x
  have e := Int.emod_add_mul_ediv x p.2
  have e2 : x * s = s * (x % p.2) + p.2 * (s * (x / p.2)) := by
    generalize x % p.2 = r at *
    generalize x / p.2 = q at *
    subst e
    grind
  rw [e2]
  constructor
  · rw [Int.add_mul_ediv_left _ _ (by omega)]
    omega
  · rw [Int.add_mul_emod_self_left]
theorem lef_lt {s : Int} {p : Fr} (h : 0 < p.2) (i : Nat) : 0 ≤ lef s i p ∧ lef s i p < p.2 := ⟨Int.emod_nonneg _ (by omega), Int.emod_lt_of_pos _ h⟩
noncomputable def b_law_parts : DS :=
 (cSeq (cAsg (.tp [(.nm 3), (.nm 4)]) (eVar 0))
 (cSeq (cPar 5 6 (lCons (eLst (lCons (eOp opDiv (eVar 3) (eVar 4)) lNil)) (lCons (eLst (lCons (eOp opMod (eVar 3) (eVar 4)) lNil)) lNil)))
 (cSeq (cFor (iRange1 (lCons (eVar 2) lNil)) (.nm 7)
 (cSeq (cExpr (eMtL mAppend (eVar 5) (lCons (eOp opDiv (eOp opMul (eVar 1) (eOp opIx (eVar 6) (eUn dNeg (eC (.int 1))))) (eVar 4)) lNil)))
 (cSeq (cExpr (eMtL mAppend (eVar 6) (lCons (eOp opMod (eOp opMul (eVar 1) (eOp opIx (eVar 6) (eUn dNeg (eC (.int 1))))) (eVar 4)) lNil)))
 cNil)))
 (cSeq (cRet (eTup (lCons (eVar 5) (lCons (eVar 6) lNil))))
 cNil))))
noncomputable abbrev r_law_parts : Den := runB 8 b_law_parts
def s_law_parts : Den := fun ds S => match ds with
  | [.tup [.int a, .int b], .int s, .int k] => if okP (a, b) && okS s k && decide (0 ≤ k) then .ok (.tup [.ref S.length, .ref (S.length + 1)]) (S ++ [.lst (foundL s (a, b) k.toNat), .lst (leftL s (a, b) k.toNat)]) else .stuck
  | _ => .stuck
theorem le_law_parts : ∀ ds S, ds.length = 3 → Le S (s_law_parts ds S) (r_law_parts ds S) := by
  intro ds S h
  clear h
  unfold s_law_parts
  split
  · rename_i a b s k
    split
    · rename_i hc
      simp only [Bool.and_eq_true, decide_eq_true_eq] at hc
      obtain ⟨⟨hp, hs⟩, h0⟩ := hc
      obtain ⟨p0, pa, pb⟩ := okP_iff.mp hp
      simp only at p0 pa pb
      have hs' := hs
      simp only [okS, Bool.and_eq_true, decide_eq_true_eq] at hs'
      have db : divOk b = true := divOk_of (a := 4000) p0 (ok4_iff.mp pb) (by decide) (by decide)
      have l1 : (1 : Nat) ≤ lim := by decide
      have run : r_law_parts [.tup [.int a, .int b], .int s, .int k] S = .ok (.tup [.ref S.length, .ref (S.length + 1)]) (S ++ [.lst (foundL s (a, b) k.toNat), .lst (leftL s (a, b) k.toNat)]) := by
        unfold r_law_parts b_law_parts
        walk_at "fg"
        simp only [cFor]
        walk_at "fg"
        rw [rng_ok (by omega) (by omega)]
        walk_at "fc"
        generalize hf : forL (itRange 0 k.toNat) _ _ _ _ _ _ = r
        have key : ∃ o S', r = .ok o S' ∧ ∃ v, o = .nx [some (.tup [.int a, .int b]), some (.int s), some (.int k), some (.int a), some (.int b), some (.ref S.length), some (.ref (S.length + 1)), v] ∧ S' = S ++ [.lst (foundL s (a, b) k.toNat), .lst (leftL s (a, b) k.toNat)] := by
          rw [← hf]
          refine forL_run (N := k.toNat) (fun i ρ S1 => ∃ v, ρ = [some (.tup [.int a, .int b]), some (.int s), some (.int k), some (.int a), some (.int b), some (.ref S.length), some (.ref (S.length + 1)), v] ∧ S1 = S ++ [.lst (foundL s (a, b) i), .lst (leftL s (a, b) i)]) _ ?_ ?_ big 0 _ _ (Nat.zero_le _) ?_ ?_
          · rintro i ρ S1 hi ⟨v, rfl, rfl⟩
            clear hf r
            refine ⟨.int (0 + i), _, by simp [itRange, hi], rfl, ?_⟩
            have hlf := lef_lt (s := s) (p := (a, b)) p0 i
            have mf : mulOk s (lef s i (a, b)) = true := mulOk_of (a := 4) (b := 4000) (by omega) (by have := ok4_iff.mp pb; simp only at hlf; omega) (by decide) (by decide) (by decide)
            have ll := leftL_last s (a, b) i
            have st := dig_step (s := s) (p := (a, b)) p0 i
            simp only at st
            have f1 : (foundL s (a, b) i).length < lim := by simp [foundL]; have := lim_eq; omega
            have f2 : (leftL s (a, b) i).length < lim := by simp [leftL]; have := lim_eq; omega
            refine ⟨_, _, by
              walk_at "fg"
              rfl, ?_⟩
            exact ⟨_, rfl, by rw [foundL_succ, leftL_succ]⟩
          · rintro ρ S1 ⟨v, rfl, rfl⟩
            exact ⟨by simp [itRange], v, rfl, rfl⟩
          · rw [big_eq]
            omega
          · exact ⟨none, rfl, by simp [foundL, leftL, dig, flo, lef]⟩
        obtain ⟨o, S', rfl, v, rfl, rfl⟩ := key
        clear hf
        walk_at "fg"
      rw [run]
      exact .same _
    · exact .stuck _
  · exact .stuck _
/-! ### all chances, place by place -/
theorem flat_even {α : Type} (F G : α → Ob) : ∀ (ps : List α) (j : Nat), (ps.flatMap fun p => [F p, G p])[2 * j]? = ps[j]?.map F ∧ (ps.flatMap fun p => [F p, G p])[2 * j + 1]? = ps[j]?.map G
  | [], j => by simp
  | p :: ps, 0 => by simp
  | p :: ps, j + 1 => by
    have := flat_even F G ps j
    simp only [List.flatMap_cons, Nat.mul_add, Nat.mul_one]
    rw [show 2 * j + 2 + 1 = 2 * j + 1 + 2 from by omega]
    simpa using this
def rowAt (n i : Nat) : Dv := .tup [.ref (n + (1 + 2 * i)), .ref (n + (1 + 2 * i) + 1)]
def rowObs (s : Int) (k : Nat) (ps : List Fr) : Sto := ps.flatMap fun p => [Ob.lst (foundL s p k), Ob.lst (leftL s p k)]
theorem rowObs_len (s : Int) (k : Nat) : ∀ ps : List Fr, (rowObs s k ps).length = 2 * ps.length
  | [] => rfl
  | p :: ps => by
    have := rowObs_len s k ps
    simp only [rowObs, List.flatMap_cons, List.length_append, List.length_cons, List.length_nil] at this ⊢
    omega
theorem parts_eq {s k : Int} {p : Fr} (hp : okP p = true) (hs : okS s k = true) (h0 : 0 ≤ k) (S : Sto) : s_law_parts [fr p, .int s, .int k] S = .ok (.tup [.ref S.length, .ref (S.length + 1)]) (S ++ [.lst (foundL s p k.toNat), .lst (leftL s p k.toNat)]) := by
  have : (okP (p.1, p.2) && okS s k && decide (0 ≤ k)) = true := by
    simp [hs, h0]
    exact hp
  simp only [fr, s_law_parts, this, if_true]
theorem lc_parts {s k : Int} {ps : List Fr} (hp : ∀ p ∈ ps, okP p = true) (hs : okS s k = true) (h0 : 0 ≤ k) (hl : ps.length ≤ 64) (S : Sto) {tg : Tg} {elt : DE} {ρ : Ev}
    (he : ∀ (x : Dv) (S1 : Sto), ∃ ρ2, tg.asg x ρ = some ρ2 ∧ elt ρ2 S1 = s_law_parts [x, .int s, .int k] S1) :
    lcL (itSeq (.tup (ps.map fr))) tg tTrue elt ρ S.length big 0 (S ++ [.lst []]) = .ok (.ref S.length) (S ++ .lst ((List.range ps.length).map (rowAt S.length)) :: rowObs s k.toNat ps) := by
  obtain ⟨acc, S', e, rfl, h2⟩ := lcL_run (it := itSeq (.tup (ps.map fr))) (tg := tg) (cond := tTrue) (elt := elt) (ρ := ρ) (n := S.length) (N := ps.length) (fun i acc S1 => acc = (List.range i).map (rowAt S.length) ∧ S1 = S ++ .lst acc :: rowObs s k.toNat (ps.take i))
    (fun i acc S1 hi hh => by
      obtain ⟨rfl, rfl⟩ := hh
      have hpi := hp _ (pAt_mem hi)
      obtain ⟨ρ2, e1, e2⟩ := he (fr (pAt ps i)) (S ++ .lst ((List.range i).map (rowAt S.length)) :: rowObs s k.toNat (ps.take i))
      rw [parts_eq hpi hs h0] at e2
      refine ⟨fr (pAt ps i), ρ2, ?_, e1, true, _, rfl, fun hc => (by cases hc), fun _ => ⟨_, _, e2, ?_, ?_, ?_, ?_⟩⟩
      · simp [itSeq, seqOf, pAt_get hi]
      · simp
      · have := lim_eq
        simp
        omega
      · rw [List.range_succ]
        simp [rowAt, rowObs_len]
        rw [Nat.min_eq_left (by omega)]
        omega
      · rw [List.take_add_one, pAt_get hi]
        simp [rowObs, List.flatMap_append])
    (fun acc S1 hh => by
      simp [itSeq, seqOf])
    big 0 [] (S ++ [.lst []]) (Nat.zero_le _) (by
      rw [big_eq]
      omega) ⟨by simp, by simp [rowObs]⟩
  rw [e, h2, List.take_length]
open Classical in
noncomputable def s_law_right : Den := fun ds S => match ds with
  | [.tup es, .int s, .int k] => if (∃ ps, es = ps.map fr ∧ Drawn ps) ∧ 2 ≤ s ∧ s ≤ 6 ∧ 0 ≤ k ∧ k ≤ 60 then .ok (.bl true) S else .stuck
  | _ => .stuck
noncomputable def b_law_right : DS :=
 (cSeq (cSet 3 (eLc (iSeq (eVar 0)) (.nm 7) tTrue (eCall 3 s_law_parts (lCons (eVar 7) (lCons (eVar 1) (lCons (eVar 2) lNil)))) [7]))
 (cSeq (cFor (iRange1 (lCons (eOp opAdd (eVar 2) (eC (.int 1))) lNil)) (.nm 4)
 (cSeq (cSet 5 (eBi fTuple (lCons (eLc (iSeq (eVar 3)) (.tp [(.nm 8), (.nm 9)]) tTrue (eOp opIx (eVar 8) (eVar 4)) [8, 9]) lNil)))
 (cSeq (cIf (tNot2 (tTs (eCall 2 s_law_same (lCons (eLc (iRange1 (lCons (eC (.int 2)) lNil)) (.nm 10) tTrue (eCall 3 s_digits (lCons (eVar 0) (lCons (eVar 1) (lCons (eVar 4) lNil)))) [10]) (lCons (eLst (lCons (eVar 5) (lCons (eVar 5) lNil))) lNil)))))
 (cSeq (cRet (eC (.bl false)))
 cNil)
 cNil)
 (cSeq (cSet 6 (eCall 1 s_law_sum (lCons (eLc (iZ (lCons (eVar 3) (lCons (eVar 0) lNil))) (.tp [(.tp [(.nm 8), (.nm 9)]), (.nm 7)]) tTrue (eCall 2 s_law_fraction (lCons (eOp opIx (eVar 9) (eVar 4)) (lCons (eOp opIx (eVar 7) (eC (.int 1))) lNil))) [7, 8, 9]) lNil)))
 (cSeq (cIf (tNot2 (tTs (eCall 2 s_law_same (lCons (eVar 6) (lCons (eTup (lCons (eCall 3 s_least_open (lCons (eVar 0) (lCons (eVar 1) (lCons (eVar 4) lNil)))) (lCons (eC (.int 1)) lNil))) lNil)))))
 (cSeq (cRet (eC (.bl false)))
 cNil)
 cNil)
 cNil)))))
 (cSeq (cRet (eC (.bl true)))
 cNil)))
noncomputable abbrev r_law_right : Den := runB 11 b_law_right
theorem digits_eq {ps : List Fr} (h : Drawn ps) {s : Int} {k : Nat} (h2 : 2 ≤ s) (h6 : s ≤ 6) (hk : k ≤ 60) (S : Sto) : s_digits [.tup (ps.map fr), .int s, .int (k : Nat)] S = .ok (.tup (ps.map fun p => .int (dig s k p))) S := by
  have hs : okS s (k : Nat) = true := by
    simp only [okS, Bool.and_eq_true, decide_eq_true_eq]
    omega
  have b1 : btwO S (.int s) 2 6 = some true := by simp [btwO, h2, h6]
  have b2 : btwO S (.int (k : Nat)) 0 60 = some true := by
    have : (k : Int) ≤ 60 := by omega
    simp [btwO, this]
  simp only [s_digits, h.chO S, chkR, Res.bd_ok, b1, b2, s_digits_at, h.chs, hs]
  simp
theorem least_eq {ps : List Fr} (h : Drawn ps) {s : Int} {k : Nat} (h2 : 2 ≤ s) (h6 : s ≤ 6) (hk : k ≤ 60) (S : Sto) : s_least_open [.tup (ps.map fr), .int s, .int (k : Nat)] S = .ok (.int (opens s k ps)) S := by
  have hs : okS s (k : Nat) = true := by
    simp only [okS, Bool.and_eq_true, decide_eq_true_eq]
    omega
  have b1 : btwO S (.int s) 2 6 = some true := by simp [btwO, h2, h6]
  have b2 : btwO S (.int (k : Nat)) 0 60 = some true := by
    have : (k : Int) ≤ 60 := by omega
    simp [btwO, this]
  simp only [s_least_open, h.chO S, chkR, Res.bd_ok, b1, b2, s_open_at_least, h.chs, hs]
  simp [opens]
theorem foundL_at (s : Int) (p : Fr) {j k : Nat} (h : j ≤ k) : atI (foundL s p k) (j : Nat) = some (.int (dig s j p)) := atI_nat (by simp [foundL, List.getElem?_range (by omega : j < k + 1)])
theorem leftL_at (s : Int) (p : Fr) {j k : Nat} (h : j ≤ k) : atI (leftL s p k) (j : Nat) = some (.int (lef s j p)) := atI_nat (by simp [leftL, List.getElem?_range (by omega : j < k + 1)])
theorem dig_small {ps : List Fr} (h : Drawn ps) {s : Int} (h2 : 2 ≤ s) (h6 : s ≤ 6) (k : Nat) {p : Fr} (hp : p ∈ ps) : 0 ≤ dig s k p ∧ dig s k p ≤ 6 := by
  obtain ⟨q1, q2, q3, q4, q5⟩ := h.parts.2.2 p hp
  cases k with
  | zero =>
    simp only [dig, flo, if_true, Int.pow_zero, Int.one_mul]
    have a1 := Int.ediv_nonneg q3 (by omega : 0 ≤ p.2)
    have a2 : p.1 / p.2 ≤ 1 := Int.ediv_le_of_le_mul q1 (by omega)
    omega
  | succ k =>
    have e := (dig_step (s := s) q1 k).1
    have l := lef_lt (s := s) q1 k
    rw [← e]
    have n0 : 0 ≤ s * lef s k p := Int.mul_nonneg (by omega) l.1
    have a1 := Int.ediv_nonneg n0 (by omega : 0 ≤ p.2)
    have m : s * lef s k p ≤ s * p.2 := Int.mul_le_mul_of_nonneg_left (by omega) (by omega)
    have a2 : s * lef s k p / p.2 ≤ s := Int.ediv_le_of_le_mul q1 m
    omega
noncomputable def f_law_right : DS :=
 (cSeq (cSet 5 (eBi fTuple (lCons (eLc (iSeq (eVar 3)) (.tp [(.nm 8), (.nm 9)]) tTrue (eOp opIx (eVar 8) (eVar 4)) [8, 9]) lNil)))
 (cSeq (cIf (tNot2 (tTs (eCall 2 s_law_same (lCons (eLc (iRange1 (lCons (eC (.int 2)) lNil)) (.nm 10) tTrue (eCall 3 s_digits (lCons (eVar 0) (lCons (eVar 1) (lCons (eVar 4) lNil)))) [10]) (lCons (eLst (lCons (eVar 5) (lCons (eVar 5) lNil))) lNil)))))
 (cSeq (cRet (eC (.bl false)))
 cNil)
 cNil)
 (cSeq (cSet 6 (eCall 1 s_law_sum (lCons (eLc (iZ (lCons (eVar 3) (lCons (eVar 0) lNil))) (.tp [(.tp [(.nm 8), (.nm 9)]), (.nm 7)]) tTrue (eCall 2 s_law_fraction (lCons (eOp opIx (eVar 9) (eVar 4)) (lCons (eOp opIx (eVar 7) (eC (.int 1))) lNil))) [7, 8, 9]) lNil)))
 (cSeq (cIf (tNot2 (tTs (eCall 2 s_law_same (lCons (eVar 6) (lCons (eTup (lCons (eCall 3 s_least_open (lCons (eVar 0) (lCons (eVar 1) (lCons (eVar 4) lNil)))) (lCons (eC (.int 1)) lNil))) lNil)))))
 (cSeq (cRet (eC (.bl false)))
 cNil)
 cNil)
 cNil))))
theorem le_law_right : ∀ ds S, ds.length = 3 → Le S (s_law_right ds S) (r_law_right ds S) := by
  intro ds S h
  clear h
  unfold s_law_right
  split
  · rename_i es s k
    split
    · rename_i hc
      obtain ⟨⟨ps, rfl, hd⟩, h2, h6, k0, k60⟩ := hc
      obtain ⟨m, rfl⟩ : ∃ m : Nat, k = (m : Int) := ⟨k.toNat, by omega⟩
      have hok : ∀ p ∈ ps, okP p = true := fun p hp => hd.okP hp
      have hs : okS s (m : Nat) = true := by
        simp only [okS, Bool.and_eq_true, decide_eq_true_eq]
        omega
      have hl6 := hd.parts.1
      have run : ∃ G, r_law_right [.tup (ps.map fr), .int s, .int (m : Nat)] S = .ok (.bl true) (S ++ G) := by
        have body : ∃ G v1 v2 v3 v4 v5 v6 v7, cFor (iRange1 (lCons (eOp opAdd (eVar 2) (eC (.int 1))) lNil)) (.nm 4) f_law_right [some (.tup (ps.map fr)), some (.int s), some (.int (m : Nat)), some (.ref S.length), none, none, none, none, none, none, none] (S ++ .lst ((List.range ps.length).map (rowAt S.length)) :: rowObs s m ps) =
            .ok (.nx [some (.tup (ps.map fr)), some (.int s), some (.int (m : Nat)), some (.ref S.length), v1, v2, v3, v4, v5, v6, v7]) (S ++ G) := by
          have key : ∃ o S', forL (itRange 0 (m + 1)) (.nm 4) f_law_right big 0 [some (.tup (ps.map fr)), some (.int s), some (.int (m : Nat)), some (.ref S.length), none, none, none, none, none, none, none] (S ++ .lst ((List.range ps.length).map (rowAt S.length)) :: rowObs s m ps) = .ok o S' ∧ ∃ G v1 v2 v3 v4 v5 v6 v7, o = .nx [some (.tup (ps.map fr)), some (.int s), some (.int (m : Nat)), some (.ref S.length), v1, v2, v3, v4, v5, v6, v7] ∧ S' = S ++ G := by
            refine forL_run (N := m + 1) (fun i ρ S1 => ∃ G v1 v2 v3 v4 v5 v6 v7, ρ = [some (.tup (ps.map fr)), some (.int s), some (.int (m : Nat)), some (.ref S.length), v1, v2, v3, v4, v5, v6, v7] ∧ S1 = (S ++ .lst ((List.range ps.length).map (rowAt S.length)) :: rowObs s m ps) ++ G) _ ?_ ?_ big 0 _ _ (Nat.zero_le _) ?_ ?_
            · rintro i ρ S1 hi ⟨G, v1, v2, v3, v4, v5, v6, v7, rfl, rfl⟩
              have him : i ≤ m := by omega
              refine ⟨.int (0 + i), _, by simp only [itRange, hi, if_true], rfl, ?_⟩
              rw [Int.zero_add]
              generalize hT : (S ++ .lst ((List.range ps.length).map (rowAt S.length)) :: rowObs s m ps) ++ G = T
              have rowsAt : ∀ G2 : Sto, listOf (T ++ G2) (.ref S.length) = some ((List.range ps.length).map (rowAt S.length)) := fun G2 => by
                simp [listOf, ← hT]
              have cellF : ∀ (j : Nat) (G2 : Sto), j < ps.length → (T ++ G2)[S.length + (1 + 2 * j)]? = some (.lst (foundL s (pAt ps j) m)) := fun j G2 hj => by
                rw [← hT, List.append_assoc, List.append_assoc, at_newk, List.cons_append, Nat.add_comm 1, List.getElem?_cons_succ, List.getElem?_append_left (by rw [rowObs_len]; omega)]
                have := (flat_even (fun p => Ob.lst (foundL s p m)) (fun p => Ob.lst (leftL s p m)) ps j).1
                rw [pAt_get hj] at this
                exact this
              have cellL : ∀ (j : Nat) (G2 : Sto), j < ps.length → (T ++ G2)[S.length + (1 + 2 * j) + 1]? = some (.lst (leftL s (pAt ps j) m)) := fun j G2 hj => by
                rw [← hT, List.append_assoc, List.append_assoc, Nat.add_assoc, at_newk, List.cons_append, show 1 + 2 * j + 1 = 2 * j + 1 + 1 from by omega, List.getElem?_cons_succ, List.getElem?_append_left (by rw [rowObs_len]; omega)]
                have := (flat_even (fun p => Ob.lst (foundL s p m)) (fun p => Ob.lst (leftL s p m)) ps j).2
                rw [pAt_get hj] at this
                exact this
              obtain ⟨G', hTT⟩ : ∃ G', T = (S ++ .lst ((List.range ps.length).map (rowAt S.length)) :: rowObs s m ps) ++ G' := ⟨G, hT.symm⟩
              clear hT
              have hpl : ps.length ≤ lim := le_lim (by omega)
              let due : Dv := .tup (ps.map fun p => .int (dig s i p))
              -- the digits of the rows
              have c1 := lc_idx (it := itSeq (.ref S.length)) (tg := .tp [.nm 8, .nm 9]) (elt := eOp opIx (eVar 8) (eVar 4)) (ρ := wipeD [some (.tup (ps.map fr)), some (.int s), some (.int (m : Nat)), some (.ref S.length), some (.int (i : Nat)), v2, v3, v4, v5, v6, v7] [8, 9]) (S := T) ps.length (rowAt S.length) (fun j => .int (dig s i (pAt ps j))) hpl
                (fun acc j hj => by simp [itSeq, seqOf, rowsAt, hj]) (fun acc => by simp [itSeq, seqOf, rowsAt]) (fun j hj acc => by
                  refine ⟨_, rfl, ?_⟩
                  simp only [wipeD]
                  walk_at "fc"
                  simp only [ix_ref, cellF j _ hj, foundL_at s _ him])
              rw [map_range ps (fun p => Dv.int (dig s i p))] at c1
              -- .. and those that the program tells
              let T1 : Sto := T ++ [.lst (ps.map fun p => .int (dig s i p))]
              have c2 := lc_idx (it := itRange 0 2) (tg := .nm 10) (elt := eCall 3 s_digits (lCons (eVar 0) (lCons (eVar 1) (lCons (eVar 4) lNil)))) (ρ := wipeD [some (.tup (ps.map fr)), some (.int s), some (.int (m : Nat)), some (.ref S.length), some (.int (i : Nat)), some due, v3, v4, v5, v6, v7] [10]) (S := T1) 2 (fun j => .int (0 + (j : Nat))) (fun _ => due) (le_lim (by decide))
                (fun acc j hj => by simp [itRange, hj]) (fun acc => by simp [itRange]) (fun j hj acc => by
                  refine ⟨_, rfl, ?_⟩
                  simp only [wipeD]
                  walk_at "fc"
                  exact digits_eq hd h2 h6 (by omega) _)
              have r2 : (List.range 2).map (fun _ => due) = [due, due] := rfl
              rw [r2] at c2
              let T3 : Sto := T ++ [.lst (ps.map fun p => .int (dig s i p)), .lst [due, due], .lst [due, due]]
              have fd : due.flat = some (.tuple (ps.map fun p => .int (dig s i p))) := by
                simp only [due, Dv.flat, flats_ints, Option.map_some]
              have fd2 : Dv.flats [due, due] = some [.tuple (ps.map fun p => .int (dig s i p)), .tuple (ps.map fun p => .int (dig s i p))] := by simp [Dv.flats, fd]
              have g1 : T3[T1.length]? = some (.lst [due, due]) := by
                simp only [T3, T1, List.length_append, List.length_cons, List.length_nil, at_newk]
                rfl
              have g2 : T3[T1.length + 1]? = some (.lst [due, due]) := by
                simp only [T3, T1, List.length_append, List.length_cons, List.length_nil, Nat.add_assoc, at_newk]
                rfl
              have tm : PyData.bulk (.tuple (ps.map fun p => .int (dig s i p))) ≤ 6 ∧ PyData.depth (.tuple (ps.map fun p => .int (dig s i p))) ≤ 1 ∧ tame 7 (.tuple (ps.map fun p => .int (dig s i p))) = true := by
                refine ⟨?_, ?_, ?_⟩
                · simp only [PyData.bulk]
                  have := bulkAll_le (c := 0) (ps.map fun p => PyData.int (dig s i p)) (fun x hx => by
                    obtain ⟨p, _, rfl⟩ := List.mem_map.mp hx
                    simp [PyData.bulk])
                  simp at this
                  omega
                · simp only [PyData.depth]
                  have := depthAll_le (c := 0) (ps.map fun p => PyData.int (dig s i p)) (fun x hx => by
                    obtain ⟨p, _, rfl⟩ := List.mem_map.mp hx
                    simp [PyData.depth])
                  omega
                · simp only [tame, tames_all, List.all_eq_true]
                  intro x hx
                  obtain ⟨p, hp, rfl⟩ := List.mem_map.mp hx
                  have := dig_small hd h2 h6 i hp
                  simp only [tame, decide_eq_true_eq]
                  omega
              have ok1 : showOk (.list [.tuple (ps.map fun p => .int (dig s i p)), .tuple (ps.map fun p => .int (dig s i p))]) = true := by
                refine showOk_of 7 ?_ (by decide) (by decide) ?_ ?_
                · simp [tame, tames] at tm ⊢
                  exact tm.2.2
                · have := tm.2.1
                  simp only [PyData.depth, PyData.depthAll] at this ⊢
                  omega
                · have := tm.1
                  have l := lim_eq
                  simp only [PyData.bulk, PyData.bulkAll] at this ⊢
                  omega
              have same1 : s_law_same [.ref T1.length, .ref (T1.length + 1)] T3 = .ok (.bl true) T3 := same_eq (lst_py g1 fd2) (lst_py g2 fd2) ok1
              have c3 := lc_idx (it := itZip (.ref S.length) (.tup (ps.map fr))) (tg := .tp [.tp [.nm 8, .nm 9], .nm 7]) (elt := eCall 2 s_law_fraction (lCons (eOp opIx (eVar 9) (eVar 4)) (lCons (eOp opIx (eVar 7) (eC (.int 1))) lNil)))
                (ρ := wipeD [some (.tup (ps.map fr)), some (.int s), some (.int (m : Nat)), some (.ref S.length), some (.int (i : Nat)), some due, v3, v4, v5, v6, v7] [7, 8, 9]) (S := T3) ps.length (fun j => .tup [rowAt S.length j, fr (pAt ps j)]) (fun j => fr (ratioF (lef s i (pAt ps j)) (pAt ps j).2)) hpl
                (fun acc j hj => by simp only [T3]; rw [List.append_assoc]; simp [itZip, seqOf, rowsAt, hj, pAt_ix hj]) (fun acc => by simp only [T3]; rw [List.append_assoc]; simp [itZip, seqOf, rowsAt]) (fun j hj acc => by
                  refine ⟨_, rfl, ?_⟩
                  simp only [wipeD]
                  walk_at "fc"
                  have cl := cellL j ([.lst (ps.map fun p => .int (dig s i p)), .lst [due, due], .lst [due, due]] ++ [.lst acc]) hj
                  rw [← List.append_assoc] at cl
                  simp only [T3, ix_ref, cl, leftL_at s _ him]
                  walk_at "fc"
                  have pp := hd.parts.2.2 _ (pAt_mem hj)
                  have o8 : ok8 (pAt ps j).2 = true := ok8_iff.mpr (Nat.lt_of_lt_of_le (by omega : (pAt ps j).2.natAbs < 2 ^ 5) (Nat.pow_le_pow_right (by decide) (by decide)))
                  simp only [show ∀ S1 : Sto, opIx (fr (pAt ps j)) (.int 1) S1 = some (.int (pAt ps j).2, S1) from fun _ => ix1]
                  walk_at "fc"
                  simp only [s_law_fraction, s_ratio, decide_eq_true pp.1, o8, Bool.and_self, if_true])
              rw [map_range ps (fun p => fr (ratioF (lef s i p) p.2))] at c3
              obtain ⟨ho1, ho2, ho3⟩ := opens_of hd s i
              have sm : s_law_sum [.ref T3.length] (T3 ++ [.lst (ps.map fun p => fr (ratioF (lef s i p) p.2))]) = .ok (fr (opens s i ps, 1)) (T3 ++ [.lst (ps.map fun p => fr (ratioF (lef s i p) p.2))]) := by
                have e : (ps.map fun p => fr (ratioF (lef s i p) p.2)) = (ps.map fun p => ratioF (lef s i p) p.2).map fr := by rw [List.map_map]; rfl
                simp only [s_law_sum, s_added, seqOf_new, e, unfrs_map, ho1]
                simp [hpl]
              have ok2 : showOk (.tuple [.int (opens s i ps), .int 1]) = true := by
                refine showOk_of 7 ?_ (by decide) (by decide) (by simp [PyData.depth, PyData.depthAll]) ?_
                · simp [tame, tames]
                  omega
                · have l := lim_eq
                  simp [PyData.bulk, PyData.bulkAll]
                  omega
              have same2 : ∀ S1 : Sto, s_law_same [fr (opens s i ps, 1), .tup [.int (opens s i ps), .int 1]] S1 = .ok (.bl true) S1 := fun S1 => same_eq rfl rfl ok2
              have q0 : seqOf T (.ref S.length) = some ((List.range ps.length).map (rowAt S.length)) := by
                have := rowsAt []
                rw [List.append_nil] at this
                exact this
              have q3 : seqOf T3 (.ref S.length) = some ((List.range ps.length).map (rowAt S.length)) := rowsAt _
              have e3 : T1 ++ [Ob.lst [due, due]] ++ [Ob.lst [due, due]] = T3 := by simp [T1, T3]
              have e4 : (T1 ++ [Ob.lst [due, due]]).length = T1.length + 1 := by simp
              have r3 : ∀ S1 : Sto, s_least_open [.tup (ps.map fr), .int s, .int (i : Nat)] S1 = .ok (.int (opens s i ps)) S1 := fun S1 => least_eq hd h2 h6 (by omega) S1
              have rg : rngB 2 = true := rng_ok (by decide) (by decide)
              have t2 : (2 : Int).toNat = 2 := rfl
              refine ⟨.nx [some (.tup (ps.map fr)), some (.int s), some (.int (m : Nat)), some (.ref S.length), some (.int (i : Nat)), some due, some (fr (opens s i ps, 1)), v4, v5, v6, v7], T3 ++ [.lst (ps.map fun p => fr (ratioF (lef s i p) p.2))], ?_, ?_⟩
              · refine seq_go (set_go (d := due) (S1 := T1) ?_) (seq_go (if_f (S1 := T3) ?_ nil_go) (seq_go (set_go (d := fr (opens s i ps, 1)) (S1 := T3 ++ [.lst (ps.map fun p => fr (ratioF (lef s i p) p.2))]) ?_) (seq_go (if_f (S1 := T3 ++ [.lst (ps.map fun p => fr (ratioF (lef s i p) p.2))]) ?_ nil_go) nil_go)))
                · walk_at "fc"
                  simp only [eLc]
                  walk_at "fc"
                  rw [q0]
                  walk_at "fc"
                  rw [c1]
                  walk_at "fc"
                  simp only [fTuple, seqOf_new]
                  rfl
                · clear_value T3 due
                  walk_at "fc"
                  simp only [eLc]
                  walk_at "fc"
                  rw [rg]
                  walk_at "fc"
                  rw [t2, c2]
                  walk_at "fc"
                  rw [e3, e4, same1]
                  walk_at "fc"
                  rfl
                · clear_value T3 due
                  walk_at "fc"
                  simp only [eLc, iZ]
                  walk_at "fc"
                  rw [q3, seq_tup]
                  walk_at "fc"
                  rw [c3]
                  walk_at "fc"
                  rw [sm]
                · clear_value T3 due
                  walk_at "fc"
                  rw [r3]
                  walk_at "fc"
                  rw [same2]
                  walk_at "fc"
                  rfl
              · exact ⟨G' ++ [.lst (ps.map fun p => .int (dig s i p)), .lst [due, due], .lst [due, due]] ++ [.lst (ps.map fun p => fr (ratioF (lef s i p) p.2))], _, _, _, _, _, _, _, rfl, by
                  simp only [T3]
                  rw [hTT]
                  simp only [List.append_assoc]⟩
            · rintro ρ S1 ⟨G, v1, v2, v3, v4, v5, v6, v7, rfl, rfl⟩
              exact ⟨by simp [itRange], _, v1, v2, v3, v4, v5, v6, v7, rfl, by rw [List.append_assoc]⟩
            · rw [big_eq]
              omega
            · exact ⟨[], none, none, none, none, none, none, none, rfl, by simp⟩
          obtain ⟨o, S', e, G, v1, v2, v3, v4, v5, v6, v7, rfl, rfl⟩ := key
          refine ⟨G, v1, v2, v3, v4, v5, v6, v7, for_go (it := itRange 0 (m + 1)) (S1 := S ++ .lst ((List.range ps.length).map (rowAt S.length)) :: rowObs s m ps) ?_ e⟩
          walk_at "fc"
          rw [rng_ok (by omega) (by omega)]
          walk_at "fc"
          congr 1
        obtain ⟨G, v1, v2, v3, v4, v5, v6, v7, e⟩ := body
        refine ⟨G, run_rt (ρ0 := [some (.tup (ps.map fr)), some (.int s), some (.int (m : Nat)), none, none, none, none, none, none, none, none]) rfl ?_⟩
        refine seq_go (set_go (d := .ref S.length) (S1 := S ++ .lst ((List.range ps.length).map (rowAt S.length)) :: rowObs s m ps) ?_) (seq_go e (seq_rt (ret_go rfl)))
        walk_at "fc"
        simp only [eLc]
        walk_at "fc"
        simp only [seq_tup]
        walk_at "fc"
        exact lc_parts hok hs (by omega) (by omega) S (fun x S1 => ⟨_, rfl, by
          simp only [wipeD]
          walk_at "fc"⟩)
      obtain ⟨G, run⟩ := run
      rw [run]
      exact .drop _ S G rfl (Kept.refl S)
    · exact .stuck _
  · exact .stuck _
noncomputable def b_law : DS :=
 (cSeq (cFor (iRange1 (lCons (eBi fMax2 (lCons (eC (.int 1)) (lCons (eBi fMin2 (lCons (eBi fLen (lCons (eVar 0) lNil)) (lCons (eC (.int 3)) lNil))) lNil))) lNil)) (.nm 1)
 (cSeq (cSet 2 (eCall 1 s_law_pen (lCons (eCall 2 s_law_cell_at (lCons (eVar 0) (lCons (eVar 1) lNil))) lNil)))
 (cSeq (cFor (iSeq (eTup (lCons (eC (.int 4)) (lCons (eC (.int 12)) (lCons (eC (.int 60)) lNil))))) (.nm 3)
 (cSeq (cPar 4 5 (lCons (eCall 1 s_law_chances (lCons (eVar 2) lNil)) (lCons (eOp opAdd (eC (.int 2)) (eCall 2 s_law_draw (lCons (eVar 2) (lCons (eC (.int 5)) lNil)))) lNil)))
 (cSeq (cSet 6 (eBi fRepr (lCons (eVar 4) lNil)))
 (cSeq (cIf (tOr2 (tNot2 (tTs (eCall 3 s_law_right (lCons (eVar 4) (lCons (eVar 5) (lCons (eVar 3) lNil)))))) (tTs (eOp opNe (eBi fRepr (lCons (eVar 4) lNil)) (eVar 6))))
 (cSeq (cRet (eC (.bl false)))
 cNil)
 cNil)
 cNil))))
 cNil)))
 (cSeq (cRet (eC (.bl true)))
 cNil))
noncomputable abbrev r_law : Den := runB 7 b_law
open Classical in
noncomputable def s_law : Den := fun ds S => match ds with
  | [.fz es] => if ∃ ns : List Int, es = ns.map Dv.int ∧ ns.length ≤ 63 then .ok (.bl true) S else .stuck
  | _ => .stuck
theorem says_law : Says s_law := fun ns h => ⟨[], by
  unfold s_law
  exact if_pos ⟨ns, rfl, h⟩⟩
noncomputable def in_law : DS :=
 (cSeq (cPar 4 5 (lCons (eCall 1 s_law_chances (lCons (eVar 2) lNil)) (lCons (eOp opAdd (eC (.int 2)) (eCall 2 s_law_draw (lCons (eVar 2) (lCons (eC (.int 5)) lNil)))) lNil)))
 (cSeq (cSet 6 (eBi fRepr (lCons (eVar 4) lNil)))
 (cSeq (cIf (tOr2 (tNot2 (tTs (eCall 3 s_law_right (lCons (eVar 4) (lCons (eVar 5) (lCons (eVar 3) lNil)))))) (tTs (eOp opNe (eBi fRepr (lCons (eVar 4) lNil)) (eVar 6))))
 (cSeq (cRet (eC (.bl false)))
 cNil)
 cNil)
 cNil)))
noncomputable def out_law : DS :=
 (cSeq (cSet 2 (eCall 1 s_law_pen (lCons (eCall 2 s_law_cell_at (lCons (eVar 0) (lCons (eVar 1) lNil))) lNil)))
 (cSeq (cFor (iSeq (eTup (lCons (eC (.int 4)) (lCons (eC (.int 12)) (lCons (eC (.int 60)) lNil))))) (.nm 3)
 (cSeq (cPar 4 5 (lCons (eCall 1 s_law_chances (lCons (eVar 2) lNil)) (lCons (eOp opAdd (eC (.int 2)) (eCall 2 s_law_draw (lCons (eVar 2) (lCons (eC (.int 5)) lNil)))) lNil)))
 (cSeq (cSet 6 (eBi fRepr (lCons (eVar 4) lNil)))
 (cSeq (cIf (tOr2 (tNot2 (tTs (eCall 3 s_law_right (lCons (eVar 4) (lCons (eVar 5) (lCons (eVar 3) lNil)))))) (tTs (eOp opNe (eBi fRepr (lCons (eVar 4) lNil)) (eVar 6))))
 (cSeq (cRet (eC (.bl false)))
 cNil)
 cNil)
 cNil))))
 cNil))
theorem in_step {S1 : Sto} {sc k v4 v5 v6 : Option Dv} {p : Pen} {N : Nat} (hp : penB p N) (hN : N ≤ 1000) {m : Int} (hm : 0 ≤ m ∧ m ≤ 60) :
    ∃ w4 w5 w6, in_law [sc, k, some (.ref S1.length), some (.int m), v4, v5, v6] (S1 ++ [p.ob]) = .ok (.nx [sc, k, some (.ref S1.length), some (.int m), w4, w5, w6]) (S1 ++ [(draw (chF p).pen 5).2.ob]) := by
  have hd := chF_drawn p
  have hp2 := chF_pen hp
  have e1 : s_law_chances [.ref S1.length] (S1 ++ [p.ob]) = .ok (.tup ((chF p).ps.map fr)) (S1 ++ [(chF p).pen.ob]) := by
    have : penAt (S1 ++ [p.ob]) S1.length = some p := penAt_of (by simp)
    simp only [s_law_chances, this, hp.okPn (by omega), if_true, Dr.dv]
    simp
  have e2 : s_law_draw [.ref S1.length, .int 5] (S1 ++ [(chF p).pen.ob]) = .ok (.int (draw (chF p).pen 5).1) (S1 ++ [(draw (chF p).pen 5).2.ob]) := by
    rw [draw_eq (p := (chF p).pen) (by simp) hp2 (by omega) (okM_small (by decide) (by decide))]
    simp
  have hs := draw_lt (chF p).pen (m := 5) (by decide)
  obtain ⟨x, ex⟩ := hd.repr (S1 ++ [(draw (chF p).pen 5).2.ob])
  have er : s_law_right [.tup ((chF p).ps.map fr), .int (2 + (draw (chF p).pen 5).1), .int m] (S1 ++ [(draw (chF p).pen 5).2.ob]) = .ok (.bl true) (S1 ++ [(draw (chF p).pen 5).2.ob]) := by
    unfold s_law_right
    exact if_pos ⟨⟨_, rfl, hd⟩, by omega, by omega, hm.1, hm.2⟩
  refine ⟨some (.tup ((chF p).ps.map fr)), some (.int (2 + (draw (chF p).pen 5).1)), some (.str x), ?_⟩
  generalize (chF p).ps = ps at *
  generalize S1 ++ [(draw (chF p).pen 5).2.ob] = T at *
  generalize (draw (chF p).pen 5).1 = d at *
  unfold in_law
  refine seq_go (ρ1 := [sc, k, some (.ref S1.length), some (.int m), some (.tup (ps.map fr)), some (.int (2 + d)), v6]) (S1 := T) ?_ (seq_go (set_go (d := .str x) (S1 := T) ?_) (seq_go (if_f (S1 := T) ?_ nil_go) nil_go))
  · walk_at "fc"
    rw [e1]
    walk_at "fc"
    rw [e2]
    walk_at "fc"
  · walk_at "fc"
    rw [ex]
  · walk_at "fc"
    rw [er]
    walk_at "fc"
    rw [ex]
    walk_at "fc"
    simp [eqD]
theorem out_step {S : Sto} {ns : List Int} {k : Nat} {v2 v3 v4 v5 v6 : Option Dv} :
    ∃ G w2 w3 w4 w5 w6, out_law [some (.fz (ns.map Dv.int)), some (.int (k : Nat)), v2, v3, v4, v5, v6] S = .ok (.nx [some (.fz (ns.map Dv.int)), some (.int (k : Nat)), w2, w3, w4, w5, w6]) (S ++ G) := by
  have key : ∃ o S', forL (itSeq (.tup [.int 4, .int 12, .int 60])) (.nm 3) in_law big 0 [some (.fz (ns.map Dv.int)), some (.int (k : Nat)), some (.ref S.length), v3, v4, v5, v6] (S ++ [(pen0 (ns[k]?.getD 0)).ob]) = .ok o S' ∧
      ∃ G w3 w4 w5 w6, o = .nx [some (.fz (ns.map Dv.int)), some (.int (k : Nat)), some (.ref S.length), w3, w4, w5, w6] ∧ S' = S ++ G := by
    refine forL_run (N := 3) (fun j ρ S1 => ∃ p w3 w4 w5 w6, penB p (10 * j) ∧ ρ = [some (.fz (ns.map Dv.int)), some (.int (k : Nat)), some (.ref S.length), w3, w4, w5, w6] ∧ S1 = S ++ [p.ob]) _ ?_ ?_ big 0 _ _ (Nat.zero_le _) ?_ ?_
    · rintro j ρ S1 hj ⟨p, w3, w4, w5, w6, hp, rfl, rfl⟩
      obtain ⟨m, hm, hx⟩ : ∃ m : Int, (0 ≤ m ∧ m ≤ 60) ∧ ([Dv.int 4, .int 12, .int 60])[j]? = some (.int m) := by
        match j, hj with
        | 0, _ => exact ⟨4, by decide, rfl⟩
        | 1, _ => exact ⟨12, by decide, rfl⟩
        | 2, _ => exact ⟨60, by decide, rfl⟩
      obtain ⟨u4, u5, u6, e⟩ := in_step (S1 := S) (sc := some (.fz (ns.map Dv.int))) (k := some (.int (k : Nat))) (v4 := w4) (v5 := w5) (v6 := w6) hp (by omega) hm
      exact ⟨.int m, [some (.fz (ns.map Dv.int)), some (.int (k : Nat)), some (.ref S.length), some (.int m), w4, w5, w6], by rw [it_tup, hx], rfl, _, _, e, (draw (chF p).pen 5).2, _, _, _, _, ((chF_pen hp).draw 5).mono (by omega), rfl, rfl⟩
    · rintro ρ S1 ⟨p, w3, w4, w5, w6, hp, rfl, rfl⟩
      exact ⟨rfl, _, _, _, _, _, rfl, rfl⟩
    · rw [big_eq]
      decide
    · exact ⟨pen0 (ns[k]?.getD 0), v3, v4, v5, v6, penB0 _, rfl, rfl⟩
  obtain ⟨o, S', e, G, w3, w4, w5, w6, rfl, rfl⟩ := key
  refine ⟨G, some (.ref S.length), w3, w4, w5, w6, ?_⟩
  unfold out_law
  refine seq_go (set_go (d := .ref S.length) (S1 := S ++ [(pen0 (ns[k]?.getD 0)).ob]) ?_) (seq_go (for_go (it := itSeq (.tup [.int 4, .int 12, .int 60])) (S1 := S ++ [(pen0 (ns[k]?.getD 0)).ob]) ?_ e) nil_go)
  · walk_at "fc"
    have : s_law_cell_at [.fz (ns.map Dv.int), .int (k : Nat)] S = .ok (.int (ns[k]?.getD 0)) S := by
      simp [s_law_cell_at]
      try (cases ns[k]? <;> rfl)
    rw [this]
    walk_at "fc"
    rfl
  · walk_at "fc"
    rfl
theorem le_law : ∀ ds S, ds.length = 1 → Le S (s_law ds S) (r_law ds S) := by
  intro ds S h
  clear h
  unfold s_law
  split
  · rename_i es
    split
    · rename_i hc
      obtain ⟨ns, rfl, hl⟩ := hc
      have run : ∃ G, r_law [.fz (ns.map Dv.int)] S = .ok (.bl true) (S ++ G) := by
        obtain ⟨M, hM, h1, h3⟩ : ∃ M : Int, M = (if (if (3 : Int) < (ns.length : Int) then 3 else (ns.length : Int)) > 1 then (if (3 : Int) < (ns.length : Int) then 3 else (ns.length : Int)) else 1) ∧ 1 ≤ M ∧ M ≤ 3 := ⟨_, rfl, by split <;> omega, by split <;> split <;> omega⟩
        have key : ∃ o S', forL (itRange 0 M.toNat) (.nm 1) out_law big 0 [some (.fz (ns.map Dv.int)), none, none, none, none, none, none] S = .ok o S' ∧ ∃ G w1 w2 w3 w4 w5 w6, o = .nx [some (.fz (ns.map Dv.int)), w1, w2, w3, w4, w5, w6] ∧ S' = S ++ G := by
          refine forL_run (N := M.toNat) (fun j ρ S1 => ∃ G w1 w2 w3 w4 w5 w6, ρ = [some (.fz (ns.map Dv.int)), w1, w2, w3, w4, w5, w6] ∧ S1 = S ++ G) _ ?_ ?_ big 0 _ _ (Nat.zero_le _) ?_ ?_
          · rintro j ρ S1 hj ⟨G, w1, w2, w3, w4, w5, w6, rfl, rfl⟩
            obtain ⟨G2, u2, u3, u4, u5, u6, e⟩ := out_step (S := S ++ G) (ns := ns) (k := j) (v2 := w2) (v3 := w3) (v4 := w4) (v5 := w5) (v6 := w6)
            refine ⟨.int (0 + (j : Nat)), [some (.fz (ns.map Dv.int)), some (.int (j : Nat)), w2, w3, w4, w5, w6], by simp only [itRange, hj, if_true], by rw [Int.zero_add]; rfl, _, _, e, G ++ G2, _, _, _, _, _, _, rfl, by rw [List.append_assoc]⟩
          · rintro ρ S1 ⟨G, w1, w2, w3, w4, w5, w6, rfl, rfl⟩
            exact ⟨by simp [itRange], G, _, _, _, _, _, _, rfl, rfl⟩
          · rw [big_eq]
            omega
          · exact ⟨[], _, _, _, _, _, _, rfl, by simp⟩
        obtain ⟨o, S', e, G, w1, w2, w3, w4, w5, w6, rfl, rfl⟩ := key
        refine ⟨G, run_rt (ρ0 := [some (.fz (ns.map Dv.int)), none, none, none, none, none, none]) rfl ?_⟩
        refine seq_go (for_go (it := itRange 0 M.toNat) (S1 := S) ?_ e) (seq_rt (ret_go rfl))
        walk_at "fc"
        simp only [fLen, seqOf, listOf, List.length_map]
        walk_at "fc"
        simp only [fMin2]
        walk_at "fc"
        simp only [fMax2]
        walk_at "fc"
        rw [← hM, rng_ok (by omega) (by omega)]
        walk_at "fc"
      obtain ⟨G, run⟩ := run
      rw [run]
      exact .drop _ S G rfl (Kept.refl S)
    · exact .stuck _
  · exact .stuck _
end Fc

set_option maxHeartbeats 0
namespace Fc
open PySem L2
section
abbrev top (i : Nat) : Stmt := PySem.Challenge.pw_flipchoice_k02_digits_and_open_words.main.body.getD i (.Pass ⟨0, 0, 0, 0⟩)
abbrev D_law_cell_at : Stmt := top 33
abbrev N_law_cell_at : List Str := ["_law_script", "_law_k"]
theorem sc_law_cell_at : FnScope N_law_cell_at ["_law_script", "_law_k"] (defScope D_law_cell_at) := ⟨rfl, rfl, rfl, by decide +kernel, rfl, by decide +kernel, by decide +kernel⟩
abbrev D_law_pen : Stmt := top 34
abbrev N_law_pen : List Str := ["_law_cell"]
theorem sc_law_pen : FnScope N_law_pen ["_law_cell"] (defScope D_law_pen) := ⟨rfl, rfl, rfl, by decide +kernel, rfl, by decide +kernel, by decide +kernel⟩
abbrev D_law_draw : Stmt := top 35
abbrev N_law_draw : List Str := ["_law_pen_here", "_law_many", "_law_found", "_law_mixed"]
theorem sc_law_draw : FnScope N_law_draw ["_law_pen_here", "_law_many"] (defScope D_law_draw) := ⟨rfl, rfl, rfl, by decide +kernel, rfl, by decide +kernel, by decide +kernel⟩
abbrev D_law_fraction : Stmt := top 37
abbrev N_law_fraction : List Str := ["_law_top", "_law_bottom", "_law_one", "_law_other"]
theorem sc_law_fraction : FnScope N_law_fraction ["_law_top", "_law_bottom"] (defScope D_law_fraction) := ⟨rfl, rfl, rfl, by decide +kernel, rfl, by decide +kernel, by decide +kernel⟩
abbrev D_law_chances : Stmt := top 40
abbrev N_law_chances : List Str := ["_law_pen_here", "_law_bottom", "_law_many", "_law_cuts", "_law_ends", "_law_lap", "_law_one", "_law_later"]
theorem sc_law_chances : FnScope N_law_chances ["_law_pen_here"] (defScope D_law_chances) := ⟨rfl, rfl, rfl, by decide +kernel, rfl, by decide +kernel, by decide +kernel⟩
abbrev D_law_parts : Stmt := top 41
abbrev N_law_parts : List Str := ["_law_chance", "_law_sides", "_law_many", "_law_top", "_law_bottom", "_law_found", "_law_left", "_law_lap"]
theorem sc_law_parts : FnScope N_law_parts ["_law_chance", "_law_sides", "_law_many"] (defScope D_law_parts) := ⟨rfl, rfl, rfl, by decide +kernel, rfl, by decide +kernel, by decide +kernel⟩
abbrev D_is_integer : Stmt := top 8
abbrev N_is_integer : List Str := ["value"]
theorem sc_is_integer : FnScope N_is_integer ["value"] (defScope D_is_integer) := ⟨rfl, rfl, rfl, by decide +kernel, rfl, by decide +kernel, by decide +kernel⟩
abbrev D_greatest_divisor : Stmt := top 10
abbrev N_greatest_divisor : List Str := ["one", "other"]
theorem sc_greatest_divisor : FnScope N_greatest_divisor ["one", "other"] (defScope D_greatest_divisor) := ⟨rfl, rfl, rfl, by decide +kernel, rfl, by decide +kernel, by decide +kernel⟩
abbrev D_is_fraction : Stmt := top 12
abbrev N_is_fraction : List Str := ["value"]
theorem sc_is_fraction : FnScope N_is_fraction ["value"] (defScope D_is_fraction) := ⟨rfl, rfl, rfl, by decide +kernel, rfl, by decide +kernel, by decide +kernel⟩
abbrev D_ratio : Stmt := top 11
abbrev N_ratio : List Str := ["top", "bottom", "divisor"]
theorem sc_ratio : FnScope N_ratio ["top", "bottom"] (defScope D_ratio) := ⟨rfl, rfl, rfl, by decide +kernel, rfl, by decide +kernel, by decide +kernel⟩
abbrev D_plus : Stmt := top 13
abbrev N_plus : List Str := ["one", "other"]
theorem sc_plus : FnScope N_plus ["one", "other"] (defScope D_plus) := ⟨rfl, rfl, rfl, by decide +kernel, rfl, by decide +kernel, by decide +kernel⟩
abbrev D_added : Stmt := top 14
abbrev N_added : List Str := ["values", "result", "value"]
theorem sc_added : FnScope N_added ["values"] (defScope D_added) := ⟨rfl, rfl, rfl, by decide +kernel, rfl, by decide +kernel, by decide +kernel⟩
abbrev D_common_bottom : Stmt := top 16
abbrev N_common_bottom : List Str := ["values", "result", "top", "bottom"]
theorem sc_common_bottom : FnScope N_common_bottom ["values"] (defScope D_common_bottom) := ⟨rfl, rfl, rfl, by decide +kernel, rfl, by decide +kernel, by decide +kernel⟩
abbrev D_is_chances : Stmt := top 23
abbrev N_is_chances : List Str := ["value", "chance"]
theorem sc_is_chances : FnScope N_is_chances ["value"] (defScope D_is_chances) := ⟨rfl, rfl, rfl, by decide +kernel, rfl, by decide +kernel, by decide +kernel⟩
abbrev D_check_chances : Stmt := top 24
abbrev N_check_chances : List Str := ["value"]
theorem sc_check_chances : FnScope N_check_chances ["value"] (defScope D_check_chances) := ⟨rfl, rfl, rfl, by decide +kernel, rfl, by decide +kernel, by decide +kernel⟩
abbrev D_is_between : Stmt := top 9
abbrev N_is_between : List Str := ["value", "low", "high"]
theorem sc_is_between : FnScope N_is_between ["value", "low", "high"] (defScope D_is_between) := ⟨rfl, rfl, rfl, by decide +kernel, rfl, by decide +kernel, by decide +kernel⟩
abbrev D_check_sides : Stmt := top 25
abbrev N_check_sides : List Str := ["value"]
theorem sc_check_sides : FnScope N_check_sides ["value"] (defScope D_check_sides) := ⟨rfl, rfl, rfl, by decide +kernel, rfl, by decide +kernel, by decide +kernel⟩
abbrev D_check_throws : Stmt := top 26
abbrev N_check_throws : List Str := ["value", "most"]
theorem sc_check_throws : FnScope N_check_throws ["value", "most"] (defScope D_check_throws) := ⟨rfl, rfl, rfl, by decide +kernel, rfl, by decide +kernel, by decide +kernel⟩
abbrev D_power : Stmt := top 15
abbrev N_power : List Str := ["base", "exponent", "result", "turn"]
theorem sc_power : FnScope N_power ["base", "exponent"] (defScope D_power) := ⟨rfl, rfl, rfl, by decide +kernel, rfl, by decide +kernel, by decide +kernel⟩
abbrev D_floors : Stmt := top 27
abbrev N_floors : List Str := ["chances", "sides", "throws", "scale", "top", "bottom"]
theorem sc_floors : FnScope N_floors ["chances", "sides", "throws"] (defScope D_floors) := ⟨rfl, rfl, rfl, by decide +kernel, rfl, by decide +kernel, by decide +kernel⟩
abbrev D_digits_at : Stmt := top 29
abbrev N_digits_at : List Str := ["chances", "sides", "place", "later", "own", "before"]
theorem sc_digits_at : FnScope N_digits_at ["chances", "sides", "place"] (defScope D_digits_at) := ⟨rfl, rfl, rfl, by decide +kernel, rfl, by decide +kernel, by decide +kernel⟩
abbrev D_digits : Stmt := top 30
abbrev N_digits : List Str := ["chances", "sides", "place"]
theorem sc_digits : FnScope N_digits ["chances", "sides", "place"] (defScope D_digits) := ⟨rfl, rfl, rfl, by decide +kernel, rfl, by decide +kernel, by decide +kernel⟩
abbrev D_law_same : Stmt := top 36
abbrev N_law_same : List Str := ["_law_found", "_law_due"]
theorem sc_law_same : FnScope N_law_same ["_law_found", "_law_due"] (defScope D_law_same) := ⟨rfl, rfl, rfl, by decide +kernel, rfl, by decide +kernel, by decide +kernel⟩
abbrev D_law_add : Stmt := top 38
abbrev N_law_add : List Str := ["_law_one", "_law_other"]
theorem sc_law_add : FnScope N_law_add ["_law_one", "_law_other"] (defScope D_law_add) := ⟨rfl, rfl, rfl, by decide +kernel, rfl, by decide +kernel, by decide +kernel⟩
abbrev D_law_sum : Stmt := top 39
abbrev N_law_sum : List Str := ["_law_some", "_law_found", "_law_part"]
theorem sc_law_sum : FnScope N_law_sum ["_law_some"] (defScope D_law_sum) := ⟨rfl, rfl, rfl, by decide +kernel, rfl, by decide +kernel, by decide +kernel⟩
abbrev D_open_at_least : Stmt := top 28
abbrev N_open_at_least : List Str := ["chances", "sides", "throws"]
theorem sc_open_at_least : FnScope N_open_at_least ["chances", "sides", "throws"] (defScope D_open_at_least) := ⟨rfl, rfl, rfl, by decide +kernel, rfl, by decide +kernel, by decide +kernel⟩
abbrev D_least_open : Stmt := top 31
abbrev N_least_open : List Str := ["chances", "sides", "throws"]
theorem sc_least_open : FnScope N_least_open ["chances", "sides", "throws"] (defScope D_least_open) := ⟨rfl, rfl, rfl, by decide +kernel, rfl, by decide +kernel, by decide +kernel⟩
abbrev D_law_right : Stmt := top 42
abbrev N_law_right : List Str := ["_law_chances_here", "_law_sides", "_law_most", "_law_rows", "_law_place", "_law_due", "_law_whole", "_law_chance", "_law_found", "_law_left", "_law_lap"]
theorem sc_law_right : FnScope N_law_right ["_law_chances_here", "_law_sides", "_law_most"] (defScope D_law_right) := ⟨rfl, rfl, rfl, by decide +kernel, rfl, by decide +kernel, by decide +kernel⟩
abbrev D_law : Stmt := top 43
abbrev N_law : List Str := ["_law_script", "_law_k", "_law_pen_here", "_law_most", "_law_chances_here", "_law_sides", "_law_kept"]
theorem sc_law : FnScope N_law ["_law_script"] (defScope D_law) := ⟨rfl, rfl, rfl, by decide +kernel, rfl, by decide +kernel, by decide +kernel⟩
structure Txt (K : PySem.W.Frag) (mg : Str → Option Value) (C : Nat → Addr) : Prop where
  n_abs : mg "abs" = none
  n_all : mg "all" = none
  n_bool : mg "bool" = none
  n_int : mg "int" = none
  n_isinstance : mg "isinstance" = none
  n_len : mg "len" = none
  n_max : mg "max" = none
  n_min : mg "min" = none
  n_range : mg "range" = none
  n_repr : mg "repr" = none
  n_sorted : mg "sorted" = none
  n_sum : mg "sum" = none
  n_tuple : mg "tuple" = none
  n_zip : mg "zip" = none
  g_LEAST_SIDES : GC K mg "LEAST_SIDES" (.int 2)
  g_MOST_BOTTOM : GC K mg "MOST_BOTTOM" (.int 30)
  g_MOST_OUTCOMES : GC K mg "MOST_OUTCOMES" (.int 6)
  g_MOST_SIDES : GC K mg "MOST_SIDES" (.int 6)
  g_MOST_THROWS : GC K mg "MOST_THROWS" (.int 60)
  g_ONE : GC K mg "ONE" (.tup [.int 1, .int 1])
  g_ZERO : GC K mg "ZERO" (.tup [.int 0, .int 1])
  x_ChancesError : XC K mg "ChancesError" (C 2)
  x_SidesError : XC K mg "SidesError" (C 0)
  x_ThrowsError : XC K mg "ThrowsError" (C 1)
  d_law_cell_at : Fact K mg "_law_cell_at" D_law_cell_at
  d_law_pen : Fact K mg "_law_pen" D_law_pen
  d_law_draw : Fact K mg "_law_draw" D_law_draw
  d_law_fraction : Fact K mg "_law_fraction" D_law_fraction
  d_law_chances : Fact K mg "_law_chances" D_law_chances
  d_law_parts : Fact K mg "_law_parts" D_law_parts
  d_is_integer : Fact K mg "is_integer" D_is_integer
  d_greatest_divisor : Fact K mg "greatest_divisor" D_greatest_divisor
  d_is_fraction : Fact K mg "is_fraction" D_is_fraction
  d_ratio : Fact K mg "ratio" D_ratio
  d_plus : Fact K mg "plus" D_plus
  d_added : Fact K mg "added" D_added
  d_common_bottom : Fact K mg "common_bottom" D_common_bottom
  d_is_chances : Fact K mg "is_chances" D_is_chances
  d_check_chances : Fact K mg "check_chances" D_check_chances
  d_is_between : Fact K mg "is_between" D_is_between
  d_check_sides : Fact K mg "check_sides" D_check_sides
  d_check_throws : Fact K mg "check_throws" D_check_throws
  d_power : Fact K mg "power" D_power
  d_floors : Fact K mg "floors" D_floors
  d_digits_at : Fact K mg "digits_at" D_digits_at
  d_digits : Fact K mg "digits" D_digits
  d_law_same : Fact K mg "_law_same" D_law_same
  d_law_add : Fact K mg "_law_add" D_law_add
  d_law_sum : Fact K mg "_law_sum" D_law_sum
  d_open_at_least : Fact K mg "open_at_least" D_open_at_least
  d_least_open : Fact K mg "least_open" D_least_open
  d_law_right : Fact K mg "_law_right" D_law_right
  d_law : Fact K mg "law" D_law
section
variable {P : Program} {w : World} {K : PySem.W.Frag} {mg : Str → Option Value} {base : Heap} {C : Nat → Addr}
theorem ok_law_cell_at (T : Txt K mg C)  : Df P w K mg base C "_law_cell_at" 2 1 s_law_cell_at :=
 (df_of (k := 0) T.d_law_cell_at sc_law_cell_at (fun _ _ _ _ _ _ us hl => match us, hl with | [_, _], _ => rfl) fun f cdv A outer s H E c =>
 (ss_cons (ss_if (st_cmp ops_lt (se_name 1) (se_bi cas_len T.n_len PySem.boot_len (sl_cons (se_name 0) sl_nil)))
 (ss_cons (ss_ret (se_ix (se_name 0) (se_name 1)))
 ss_nil)
 ss_nil)
 (ss_cons (ss_ret se_int)
 ss_nil))).imp le_law_cell_at
theorem ok_law_pen (T : Txt K mg C)  : Df P w K mg base C "_law_pen" 1 1 s_law_pen :=
 (df_of (k := 0) T.d_law_pen sc_law_pen (fun _ _ _ _ _ _ us hl => match us, hl with | [_], _ => rfl) fun f cdv A outer s H E c =>
 (ss_cons (ss_ret (se_lst (sl_cons (se_bi (cas_max2 c.calm) T.n_max PyProof.Rows.boot_max (sl_cons se_int (sl_cons (se_op ops_sub (se_name 0) (se_op ops_pow se_int se_int)) sl_nil))) (sl_cons (se_op ops_add (se_op ops_mod (se_name 0) se_int) se_int) (sl_cons se_int sl_nil)))))
 ss_nil)).imp le_law_pen
theorem ok_law_draw (T : Txt K mg C)  : Df P w K mg base C "_law_draw" 2 1 s_law_draw :=
 (df_of (k := 0) T.d_law_draw sc_law_draw (fun _ _ _ _ _ _ us hl => match us, hl with | [_, _], _ => rfl) fun f cdv A outer s H E c =>
 (ss_cons (ss_if (st_cmp ops_gt (se_ix (se_name 0) se_int) se_int)
 (ss_cons (ss_set 2 c.nd (se_op ops_mod (se_ix (se_name 0) se_int) (se_name 1)))
 (ss_cons (ss_store (se_op ops_div (se_ix (se_name 0) se_int) (se_name 1)) (se_name 0) se_int)
 (ss_cons (ss_ret (se_name 2))
 ss_nil)))
 ss_nil)
 (ss_cons (ss_store (se_op ops_add (se_ix (se_name 0) se_int) se_int) (se_name 0) se_int)
 (ss_cons (ss_store (se_op ops_mod (se_op ops_add (se_op ops_add (se_op ops_mul (se_ix (se_name 0) se_int) se_int) (se_op ops_mul se_int (se_ix (se_name 0) se_int))) se_int) se_int) (se_name 0) se_int)
 (ss_cons (ss_set 3 c.nd (se_op ops_mod (se_op ops_add (se_op ops_add (se_op ops_mul (se_ix (se_name 0) se_int) (se_ix (se_name 0) se_int)) (se_op ops_mul se_int (se_ix (se_name 0) se_int))) se_int) se_int))
 (ss_cons (ss_set 3 c.nd (se_op ops_mod (se_op ops_add (se_op ops_mul (se_name 3) (se_name 3)) (se_op ops_mul se_int (se_name 3))) se_int))
 (ss_cons (ss_ret (se_op ops_mod (se_op ops_div (se_name 3) se_int) (se_name 1)))
 ss_nil))))))).imp le_law_draw
theorem ok_law_fraction (T : Txt K mg C)  : Df P w K mg base C "_law_fraction" 2 1 s_law_fraction :=
 (df_of (k := 0) T.d_law_fraction sc_law_fraction (fun _ _ _ _ _ _ us hl => match us, hl with | [_, _], _ => rfl) fun f cdv A outer s H E c =>
 (ss_cons (ss_par 2 3 c.calm c.nd (sl_cons (se_bi cas_abs T.n_abs PyProof.Rows.boot_abs (sl_cons (se_name 0) sl_nil)) (sl_cons (se_name 1) sl_nil)))
 (ss_cons (ss_while c (st_cmp ops_gt (se_name 3) se_int)
 (ss_cons (ss_par 2 3 c.calm c.nd (sl_cons (se_name 3) (sl_cons (se_op ops_mod (se_name 2) (se_name 3)) sl_nil)))
 ss_nil))
 (ss_cons (ss_ret (se_tup (sl_cons (se_op ops_div (se_name 0) (se_name 2)) (sl_cons (se_op ops_div (se_name 1) (se_name 2)) sl_nil))))
 ss_nil)))).imp le_law_fraction
theorem ok_law_chances (T : Txt K mg C) (G_law_draw : Df P w K mg base C "_law_draw" 2 1 s_law_draw) (G_law_fraction : Df P w K mg base C "_law_fraction" 2 1 s_law_fraction) : Df P w K mg base C "_law_chances" 1 2 s_law_chances :=
 (df_of (k := 1) T.d_law_chances sc_law_chances (fun _ _ _ _ _ _ us hl => match us, hl with | [_], _ => rfl) fun f cdv A outer s H E c =>
 (ss_cons (ss_set 1 c.nd (se_op ops_add se_int (se_call c G_law_draw (sl_cons (se_name 0) (sl_cons se_int sl_nil)))))
 (ss_cons (ss_set 2 c.nd (se_op ops_add se_int (se_call c G_law_draw (sl_cons (se_name 0) (sl_cons se_int sl_nil)))))
 (ss_cons (ss_set 3 c.nd (se_bi cas_sorted T.n_sorted PyProof.Rows.boot_sorted (sl_cons (se_lc c (si_range1 T.n_range (sl_cons (se_op ops_sub (se_name 2) se_int) sl_nil)) (blkOk_by (own := [("_law_lap", 5)]) (N := N_law_chances) (sc := defScope D_law_chances) (by decide +kernel)) (by decide) (fun _ _ _ _ _ => (sg_name 5 (c.blk).nd)) (fun _ _ _ _ _ => sts_nil) (fun _ _ _ _ _ => (se_call (c.blk) G_law_draw (sl_cons (se_name 0) (sl_cons (se_op ops_add (se_name 1) se_int) sl_nil))))) sl_nil)))
 (ss_cons (ss_set 4 c.nd (se_op ops_add (se_op ops_add (se_lst (sl_cons se_int sl_nil)) (se_name 3)) (se_lst (sl_cons (se_name 1) sl_nil))))
 (ss_cons (ss_ret (se_ty cas_tuple T.n_tuple (by decide +kernel) (sl_cons (se_lc c (si_z T.n_zip (sl_cons (se_name 4) (sl_cons (se_sl (se_name 4) (so_so se_int) so_no) sl_nil))) (blkOk_by (own := [("_law_one", 6), ("_law_later", 7)]) (N := N_law_chances) (sc := defScope D_law_chances) (by decide +kernel)) (by decide) (fun _ _ _ _ _ => (sg_tup (c.blk).calm (sgs_cons (sg_name 6 (c.blk).nd) (sgs_cons (sg_name 7 (c.blk).nd) sgs_nil)))) (fun _ _ _ _ _ => sts_nil) (fun _ _ _ _ _ => (se_call (c.blk) G_law_fraction (sl_cons (se_op ops_sub (se_name 7) (se_name 6)) (sl_cons (se_name 1) sl_nil))))) sl_nil)))
 ss_nil)))))).imp le_law_chances
theorem ok_law_parts (T : Txt K mg C)  : Df P w K mg base C "_law_parts" 3 1 s_law_parts :=
 (df_of (k := 0) T.d_law_parts sc_law_parts (fun _ _ _ _ _ _ us hl => match us, hl with | [_, _, _], _ => rfl) fun f cdv A outer s H E c =>
 (ss_cons (ss_asg (se_name 0) (sg_tup c.calm (sgs_cons (sg_name 3 c.nd) (sgs_cons (sg_name 4 c.nd) sgs_nil))))
 (ss_cons (ss_par 5 6 c.calm c.nd (sl_cons (se_lst (sl_cons (se_op ops_div (se_name 3) (se_name 4)) sl_nil)) (sl_cons (se_lst (sl_cons (se_op ops_mod (se_name 3) (se_name 4)) sl_nil)) sl_nil)))
 (ss_cons (ss_for c (si_range1 T.n_range (sl_cons (se_name 2) sl_nil)) (sg_name 7 c.nd)
 (ss_cons (ss_expr (se_mtL PySem.F.slot_list_append PySem.F.type_list_append mts_append (se_name 5) (sl_cons (se_op ops_div (se_op ops_mul (se_name 1) (se_ix (se_name 6) (se_neg2 se_int))) (se_name 4)) sl_nil)))
 (ss_cons (ss_expr (se_mtL PySem.F.slot_list_append PySem.F.type_list_append mts_append (se_name 6) (sl_cons (se_op ops_mod (se_op ops_mul (se_name 1) (se_ix (se_name 6) (se_neg2 se_int))) (se_name 4)) sl_nil)))
 ss_nil)))
 (ss_cons (ss_ret (se_tup (sl_cons (se_name 5) (sl_cons (se_name 6) sl_nil))))
 ss_nil))))).imp le_law_parts
theorem ok_is_integer (T : Txt K mg C)  : Df P w K mg base C "is_integer" 1 1 s_is_integer :=
 (df_of (k := 0) T.d_is_integer sc_is_integer (fun _ _ _ _ _ _ us hl => match us, hl with | [_], _ => rfl) fun f cdv A outer s H E c =>
 (ss_cons (ss_ret (se_and (se_isi .int (se_name 0) T.n_isinstance T.n_int) (se_one (se_not (se_isi .bl (se_name 0) T.n_isinstance T.n_bool)))))
 ss_nil)).imp le_is_integer
theorem ok_greatest_divisor (T : Txt K mg C)  : Df P w K mg base C "greatest_divisor" 2 1 s_greatest_divisor :=
 (df_of (k := 0) T.d_greatest_divisor sc_greatest_divisor (fun _ _ _ _ _ _ us hl => match us, hl with | [_, _], _ => rfl) fun f cdv A outer s H E c =>
 (ss_cons (ss_par 0 1 c.calm c.nd (sl_cons (se_bi cas_abs T.n_abs PyProof.Rows.boot_abs (sl_cons (se_name 0) sl_nil)) (sl_cons (se_bi cas_abs T.n_abs PyProof.Rows.boot_abs (sl_cons (se_name 1) sl_nil)) sl_nil)))
 (ss_cons (ss_while c (st_cmp ops_gt (se_name 1) se_int)
 (ss_cons (ss_par 0 1 c.calm c.nd (sl_cons (se_name 1) (sl_cons (se_op ops_mod (se_name 0) (se_name 1)) sl_nil)))
 ss_nil))
 (ss_cons (ss_ret (se_name 0))
 ss_nil)))).imp le_greatest_divisor
theorem ok_is_fraction (T : Txt K mg C) (G_is_integer : Df P w K mg base C "is_integer" 1 1 s_is_integer) (G_greatest_divisor : Df P w K mg base C "greatest_divisor" 2 1 s_greatest_divisor) : Df P w K mg base C "is_fraction" 1 2 s_is_fraction :=
 (df_of (k := 1) T.d_is_fraction sc_is_fraction (fun _ _ _ _ _ _ us hl => match us, hl with | [_], _ => rfl) fun f cdv A outer s H E c =>
 (ss_cons (ss_if (st_of (sw_or (st_not (st_val (se_isi .tup (se_name 0) T.n_isinstance T.n_tuple))) (sw_or1 (st_cmp (ops_ne c.h64) (se_bi cas_len T.n_len PySem.boot_len (sl_cons (se_name 0) sl_nil)) se_int))))
 (ss_cons (ss_ret se_bl)
 ss_nil)
 ss_nil)
 (ss_cons (ss_if (st_of (sw_or (st_not (st_val (se_call c G_is_integer (sl_cons (se_ix (se_name 0) se_int) sl_nil)))) (sw_or (st_not (st_val (se_call c G_is_integer (sl_cons (se_ix (se_name 0) se_int) sl_nil)))) (sw_or1 (st_cmp ops_lt (se_ix (se_name 0) se_int) se_int)))))
 (ss_cons (ss_ret se_bl)
 ss_nil)
 ss_nil)
 (ss_cons (ss_ret (se_cmp (ops_eq c.h64) (se_call c G_greatest_divisor (sl_cons (se_ix (se_name 0) se_int) (sl_cons (se_ix (se_name 0) se_int) sl_nil))) se_int))
 ss_nil)))).imp le_is_fraction
theorem ok_ratio (T : Txt K mg C) (G_greatest_divisor : Df P w K mg base C "greatest_divisor" 2 1 s_greatest_divisor) : Df P w K mg base C "ratio" 2 2 s_ratio :=
 (df_of (k := 1) T.d_ratio sc_ratio (fun _ _ _ _ _ _ us hl => match us, hl with | [_, _], _ => rfl) fun f cdv A outer s H E c =>
 (ss_cons (ss_set 2 c.nd (se_call c G_greatest_divisor (sl_cons (se_name 0) (sl_cons (se_name 1) sl_nil))))
 (ss_cons (ss_ret (se_tup (sl_cons (se_op ops_div (se_name 0) (se_name 2)) (sl_cons (se_op ops_div (se_name 1) (se_name 2)) sl_nil))))
 ss_nil))).imp le_ratio
theorem ok_plus (T : Txt K mg C) (G_ratio : Df P w K mg base C "ratio" 2 2 s_ratio) : Df P w K mg base C "plus" 2 3 s_plus :=
 (df_of (k := 2) T.d_plus sc_plus (fun _ _ _ _ _ _ us hl => match us, hl with | [_, _], _ => rfl) fun f cdv A outer s H E c =>
 (ss_cons (ss_ret (se_call c G_ratio (sl_cons (se_op ops_add (se_op ops_mul (se_ix (se_name 0) se_int) (se_ix (se_name 1) se_int)) (se_op ops_mul (se_ix (se_name 1) se_int) (se_ix (se_name 0) se_int))) (sl_cons (se_op ops_mul (se_ix (se_name 0) se_int) (se_ix (se_name 1) se_int)) sl_nil))))
 ss_nil)).imp le_plus
theorem ok_added (T : Txt K mg C) (G_plus : Df P w K mg base C "plus" 2 3 s_plus) : Df P w K mg base C "added" 1 4 s_added :=
 (df_of (k := 3) T.d_added sc_added (fun _ _ _ _ _ _ us hl => match us, hl with | [_], _ => rfl) fun f cdv A outer s H E c =>
 (ss_cons (ss_set 1 c.nd (se_glob T.g_ZERO))
 (ss_cons (ss_for c (si_seq (se_name 0)) (sg_name 2 c.nd)
 (ss_cons (ss_set 1 c.nd (se_call c G_plus (sl_cons (se_name 1) (sl_cons (se_name 2) sl_nil))))
 ss_nil))
 (ss_cons (ss_ret (se_name 1))
 ss_nil)))).imp le_added
theorem ok_common_bottom (T : Txt K mg C) (G_greatest_divisor : Df P w K mg base C "greatest_divisor" 2 1 s_greatest_divisor) : Df P w K mg base C "common_bottom" 1 2 s_common_bottom :=
 (df_of (k := 1) T.d_common_bottom sc_common_bottom (fun _ _ _ _ _ _ us hl => match us, hl with | [_], _ => rfl) fun f cdv A outer s H E c =>
 (ss_cons (ss_set 1 c.nd se_int)
 (ss_cons (ss_for c (si_seq (se_name 0)) (sg_tup c.calm (sgs_cons (sg_name 2 c.nd) (sgs_cons (sg_name 3 c.nd) sgs_nil)))
 (ss_cons (ss_set 1 c.nd (se_op ops_div (se_op ops_mul (se_name 1) (se_name 3)) (se_call c G_greatest_divisor (sl_cons (se_name 1) (sl_cons (se_name 3) sl_nil)))))
 ss_nil))
 (ss_cons (ss_ret (se_name 1))
 ss_nil)))).imp le_common_bottom
theorem ok_is_chances (T : Txt K mg C) (G_is_fraction : Df P w K mg base C "is_fraction" 1 2 s_is_fraction) (G_added : Df P w K mg base C "added" 1 4 s_added) (G_common_bottom : Df P w K mg base C "common_bottom" 1 2 s_common_bottom) : Df P w K mg base C "is_chances" 1 5 s_is_chances :=
 (df_of (k := 4) T.d_is_chances sc_is_chances (fun _ _ _ _ _ _ us hl => match us, hl with | [_], _ => rfl) fun f cdv A outer s H E c =>
 (ss_cons (ss_if (st_of (sw_or (st_not (st_val (se_isi .tup (se_name 0) T.n_isinstance T.n_tuple))) (sw_or1 (st_not (st_chain ops_le ops_le se_int (se_bi cas_len T.n_len PySem.boot_len (sl_cons (se_name 0) sl_nil)) (se_glob T.g_MOST_OUTCOMES))))))
 (ss_cons (ss_ret se_bl)
 ss_nil)
 ss_nil)
 (ss_cons (ss_if (st_not (st_val (se_bi (cas_all c.calm) T.n_all PyProof.Rows.boot_all (sl_cons (se_lc c (si_seq (se_name 0)) (blkOk_by (own := [("chance", 1)]) (N := N_is_chances) (sc := defScope D_is_chances) (by decide +kernel)) (by decide) (fun _ _ _ _ _ => (sg_name 1 (c.blk).nd)) (fun _ _ _ _ _ => sts_nil) (fun _ _ _ _ _ => (se_and (se_call (c.blk) G_is_fraction (sl_cons (se_name 1) sl_nil)) (se_one (se_cmp ops_ge (se_ix (se_name 1) se_int) se_int))))) sl_nil))))
 (ss_cons (ss_ret se_bl)
 ss_nil)
 ss_nil)
 (ss_cons (ss_ret (se_and (se_cmp (ops_eq c.h64) (se_call c G_added (sl_cons (se_name 0) sl_nil)) (se_glob T.g_ONE)) (se_one (se_cmp ops_le (se_call c G_common_bottom (sl_cons (se_name 0) sl_nil)) (se_glob T.g_MOST_BOTTOM)))))
 ss_nil)))).imp le_is_chances
theorem ok_check_chances (T : Txt K mg C) (G_is_chances : Df P w K mg base C "is_chances" 1 5 s_is_chances) : Df P w K mg base C "check_chances" 1 6 s_check_chances :=
 (df_of (k := 5) T.d_check_chances sc_check_chances (fun _ _ _ _ _ _ us hl => match us, hl with | [_], _ => rfl) fun f cdv A outer s H E c =>
 (ss_cons (ss_if (st_not (st_val (se_call c G_is_chances (sl_cons (se_name 0) sl_nil))))
 (ss_cons (ss_raiseX c T.x_ChancesError)
 ss_nil)
 ss_nil)
 ss_nil)).imp le_check_chances
theorem ok_is_between (T : Txt K mg C) (G_is_integer : Df P w K mg base C "is_integer" 1 1 s_is_integer) : Df P w K mg base C "is_between" 3 2 s_is_between :=
 (df_of (k := 1) T.d_is_between sc_is_between (fun _ _ _ _ _ _ us hl => match us, hl with | [_, _, _], _ => rfl) fun f cdv A outer s H E c =>
 (ss_cons (ss_ret (se_and (se_call c G_is_integer (sl_cons (se_name 0) sl_nil)) (se_one (se_chain ops_le ops_le (se_name 1) (se_name 0) (se_name 2)))))
 ss_nil)).imp le_is_between
theorem ok_check_sides (T : Txt K mg C) (G_is_between : Df P w K mg base C "is_between" 3 2 s_is_between) : Df P w K mg base C "check_sides" 1 3 s_check_sides :=
 (df_of (k := 2) T.d_check_sides sc_check_sides (fun _ _ _ _ _ _ us hl => match us, hl with | [_], _ => rfl) fun f cdv A outer s H E c =>
 (ss_cons (ss_if (st_not (st_val (se_call c G_is_between (sl_cons (se_name 0) (sl_cons (se_glob T.g_LEAST_SIDES) (sl_cons (se_glob T.g_MOST_SIDES) sl_nil))))))
 (ss_cons (ss_raiseX c T.x_SidesError)
 ss_nil)
 ss_nil)
 ss_nil)).imp le_check_sides
theorem ok_check_throws (T : Txt K mg C) (G_is_between : Df P w K mg base C "is_between" 3 2 s_is_between) : Df P w K mg base C "check_throws" 2 3 s_check_throws :=
 (df_of (k := 2) T.d_check_throws sc_check_throws (fun _ _ _ _ _ _ us hl => match us, hl with | [_, _], _ => rfl) fun f cdv A outer s H E c =>
 (ss_cons (ss_if (st_not (st_val (se_call c G_is_between (sl_cons (se_name 0) (sl_cons se_int (sl_cons (se_name 1) sl_nil))))))
 (ss_cons (ss_raiseX c T.x_ThrowsError)
 ss_nil)
 ss_nil)
 ss_nil)).imp le_check_throws
theorem ok_power (T : Txt K mg C)  : Df P w K mg base C "power" 2 1 s_power :=
 (df_of (k := 0) T.d_power sc_power (fun _ _ _ _ _ _ us hl => match us, hl with | [_, _], _ => rfl) fun f cdv A outer s H E c =>
 (ss_cons (ss_set 2 c.nd se_int)
 (ss_cons (ss_for c (si_range1 T.n_range (sl_cons (se_name 1) sl_nil)) (sg_name 3 c.nd)
 (ss_cons (ss_set 2 c.nd (se_op ops_mul (se_name 2) (se_name 0)))
 ss_nil))
 (ss_cons (ss_ret (se_name 2))
 ss_nil)))).imp le_power
theorem ok_floors (T : Txt K mg C) (G_power : Df P w K mg base C "power" 2 1 s_power) : Df P w K mg base C "floors" 3 2 s_floors :=
 (df_of (k := 1) T.d_floors sc_floors (fun _ _ _ _ _ _ us hl => match us, hl with | [_, _, _], _ => rfl) fun f cdv A outer s H E c =>
 (ss_cons (ss_set 3 c.nd (se_call c G_power (sl_cons (se_name 1) (sl_cons (se_name 2) sl_nil))))
 (ss_cons (ss_ret (se_lc c (si_seq (se_name 0)) (blkOk_by (own := [("top", 4), ("bottom", 5)]) (N := N_floors) (sc := defScope D_floors) (by decide +kernel)) (by decide) (fun _ _ _ _ _ => (sg_tup (c.blk).calm (sgs_cons (sg_name 4 (c.blk).nd) (sgs_cons (sg_name 5 (c.blk).nd) sgs_nil)))) (fun _ _ _ _ _ => sts_nil) (fun _ _ _ _ _ => (se_op ops_div (se_op ops_mul (se_name 3) (se_name 4)) (se_name 5)))))
 ss_nil))).imp le_floors
theorem ok_digits_at (T : Txt K mg C) (G_floors : Df P w K mg base C "floors" 3 2 s_floors) : Df P w K mg base C "digits_at" 3 3 s_digits_at :=
 (df_of (k := 2) T.d_digits_at sc_digits_at (fun _ _ _ _ _ _ us hl => match us, hl with | [_, _, _], _ => rfl) fun f cdv A outer s H E c =>
 (ss_cons (ss_set 3 c.nd (se_call c G_floors (sl_cons (se_name 0) (sl_cons (se_name 1) (sl_cons (se_name 2) sl_nil)))))
 (ss_cons (ss_if (st_cmp (ops_eq c.h64) (se_name 2) se_int)
 (ss_cons (ss_ret (se_ty cas_tuple T.n_tuple (by decide +kernel) (sl_cons (se_name 3) sl_nil)))
 ss_nil)
 ss_nil)
 (ss_cons (ss_ret (se_ty cas_tuple T.n_tuple (by decide +kernel) (sl_cons (se_lc c (si_z T.n_zip (sl_cons (se_name 3) (sl_cons (se_call c G_floors (sl_cons (se_name 0) (sl_cons (se_name 1) (sl_cons (se_op ops_sub (se_name 2) se_int) sl_nil)))) sl_nil))) (blkOk_by (own := [("own", 4), ("before", 5)]) (N := N_digits_at) (sc := defScope D_digits_at) (by decide +kernel)) (by decide) (fun _ _ _ _ _ => (sg_tup (c.blk).calm (sgs_cons (sg_name 4 (c.blk).nd) (sgs_cons (sg_name 5 (c.blk).nd) sgs_nil)))) (fun _ _ _ _ _ => sts_nil) (fun _ _ _ _ _ => (se_op ops_sub (se_name 4) (se_op ops_mul (se_name 1) (se_name 5))))) sl_nil)))
 ss_nil)))).imp le_digits_at
theorem ok_digits (T : Txt K mg C) (G_check_chances : Df P w K mg base C "check_chances" 1 6 s_check_chances) (G_check_sides : Df P w K mg base C "check_sides" 1 3 s_check_sides) (G_check_throws : Df P w K mg base C "check_throws" 2 3 s_check_throws) (G_digits_at : Df P w K mg base C "digits_at" 3 3 s_digits_at) : Df P w K mg base C "digits" 3 7 s_digits :=
 (df_of (k := 6) T.d_digits sc_digits (fun _ _ _ _ _ _ us hl => match us, hl with | [_, _, _], _ => rfl) fun f cdv A outer s H E c =>
 (ss_cons (ss_expr (se_call c G_check_chances (sl_cons (se_name 0) sl_nil)))
 (ss_cons (ss_expr (se_call c G_check_sides (sl_cons (se_name 1) sl_nil)))
 (ss_cons (ss_expr (se_call c G_check_throws (sl_cons (se_name 2) (sl_cons (se_glob T.g_MOST_THROWS) sl_nil))))
 (ss_cons (ss_ret (se_call c G_digits_at (sl_cons (se_name 0) (sl_cons (se_name 1) (sl_cons (se_name 2) sl_nil)))))
 ss_nil))))).imp le_digits
theorem ok_law_same (T : Txt K mg C)  : Df P w K mg base C "_law_same" 2 1 s_law_same :=
 (df_of (k := 0) T.d_law_same sc_law_same (fun _ _ _ _ _ _ us hl => match us, hl with | [_, _], _ => rfl) fun f cdv A outer s H E c =>
 (ss_cons (ss_ret (se_cmp (ops_eq c.h64) (se_bi (cas_repr c.gd c.h100) T.n_repr PyProof.Rows.boot_repr (sl_cons (se_name 0) sl_nil)) (se_bi (cas_repr c.gd c.h100) T.n_repr PyProof.Rows.boot_repr (sl_cons (se_name 1) sl_nil))))
 ss_nil)).imp le_law_same
theorem ok_law_add (T : Txt K mg C) (G_law_fraction : Df P w K mg base C "_law_fraction" 2 1 s_law_fraction) : Df P w K mg base C "_law_add" 2 2 s_law_add :=
 (df_of (k := 1) T.d_law_add sc_law_add (fun _ _ _ _ _ _ us hl => match us, hl with | [_, _], _ => rfl) fun f cdv A outer s H E c =>
 (ss_cons (ss_ret (se_call c G_law_fraction (sl_cons (se_op ops_add (se_op ops_mul (se_ix (se_name 0) se_int) (se_ix (se_name 1) se_int)) (se_op ops_mul (se_ix (se_name 1) se_int) (se_ix (se_name 0) se_int))) (sl_cons (se_op ops_mul (se_ix (se_name 0) se_int) (se_ix (se_name 1) se_int)) sl_nil))))
 ss_nil)).imp le_law_add
theorem ok_law_sum (T : Txt K mg C) (G_law_add : Df P w K mg base C "_law_add" 2 2 s_law_add) : Df P w K mg base C "_law_sum" 1 3 s_law_sum :=
 (df_of (k := 2) T.d_law_sum sc_law_sum (fun _ _ _ _ _ _ us hl => match us, hl with | [_], _ => rfl) fun f cdv A outer s H E c =>
 (ss_cons (ss_set 1 c.nd (se_tup (sl_cons se_int (sl_cons se_int sl_nil))))
 (ss_cons (ss_for c (si_seq (se_name 0)) (sg_name 2 c.nd)
 (ss_cons (ss_set 1 c.nd (se_call c G_law_add (sl_cons (se_name 1) (sl_cons (se_name 2) sl_nil))))
 ss_nil))
 (ss_cons (ss_ret (se_name 1))
 ss_nil)))).imp le_law_sum
theorem ok_open_at_least (T : Txt K mg C) (G_power : Df P w K mg base C "power" 2 1 s_power) (G_floors : Df P w K mg base C "floors" 3 2 s_floors) : Df P w K mg base C "open_at_least" 3 3 s_open_at_least :=
 (df_of (k := 2) T.d_open_at_least sc_open_at_least (fun _ _ _ _ _ _ us hl => match us, hl with | [_, _, _], _ => rfl) fun f cdv A outer s H E c =>
 (ss_cons (ss_ret (se_op ops_sub (se_call c G_power (sl_cons (se_name 1) (sl_cons (se_name 2) sl_nil))) (se_bi (cas_sum c.calm) T.n_sum PyProof.Rows.boot_sum (sl_cons (se_call c G_floors (sl_cons (se_name 0) (sl_cons (se_name 1) (sl_cons (se_name 2) sl_nil)))) sl_nil))))
 ss_nil)).imp le_open_at_least
theorem ok_least_open (T : Txt K mg C) (G_check_chances : Df P w K mg base C "check_chances" 1 6 s_check_chances) (G_check_sides : Df P w K mg base C "check_sides" 1 3 s_check_sides) (G_check_throws : Df P w K mg base C "check_throws" 2 3 s_check_throws) (G_open_at_least : Df P w K mg base C "open_at_least" 3 3 s_open_at_least) : Df P w K mg base C "least_open" 3 7 s_least_open :=
 (df_of (k := 6) T.d_least_open sc_least_open (fun _ _ _ _ _ _ us hl => match us, hl with | [_, _, _], _ => rfl) fun f cdv A outer s H E c =>
 (ss_cons (ss_expr (se_call c G_check_chances (sl_cons (se_name 0) sl_nil)))
 (ss_cons (ss_expr (se_call c G_check_sides (sl_cons (se_name 1) sl_nil)))
 (ss_cons (ss_expr (se_call c G_check_throws (sl_cons (se_name 2) (sl_cons (se_glob T.g_MOST_THROWS) sl_nil))))
 (ss_cons (ss_ret (se_call c G_open_at_least (sl_cons (se_name 0) (sl_cons (se_name 1) (sl_cons (se_name 2) sl_nil)))))
 ss_nil))))).imp le_least_open
theorem ok_law_right (T : Txt K mg C) (G_law_parts : Df P w K mg base C "_law_parts" 3 1 s_law_parts) (G_digits : Df P w K mg base C "digits" 3 7 s_digits) (G_law_same : Df P w K mg base C "_law_same" 2 1 s_law_same) (G_law_fraction : Df P w K mg base C "_law_fraction" 2 1 s_law_fraction) (G_law_sum : Df P w K mg base C "_law_sum" 1 3 s_law_sum) (G_least_open : Df P w K mg base C "least_open" 3 7 s_least_open) : Df P w K mg base C "_law_right" 3 8 s_law_right :=
 (df_of (k := 7) T.d_law_right sc_law_right (fun _ _ _ _ _ _ us hl => match us, hl with | [_, _, _], _ => rfl) fun f cdv A outer s H E c =>
 (ss_cons (ss_setLc 3 c (si_seq (se_name 0)) (blkOk_by (own := [("_law_chance", 7)]) (N := N_law_right) (sc := defScope D_law_right) (by decide +kernel)) (by decide) (fun _ _ _ _ _ => (sg_name 7 (c.blk).nd)) (fun _ _ _ _ _ => sts_nil) (fun _ _ _ _ _ => (se_call (c.blk) G_law_parts (sl_cons (se_name 7) (sl_cons (se_name 1) (sl_cons (se_name 2) sl_nil))))) (sw_true rfl rfl rfl (by decide +kernel)))
 (ss_cons (ss_for c (si_range1 T.n_range (sl_cons (se_op ops_add (se_name 2) se_int) sl_nil)) (sg_name 4 c.nd)
 (ss_cons (ss_set 5 c.nd (se_ty cas_tuple T.n_tuple (by decide +kernel) (sl_cons (se_lc c (si_seq (se_name 3)) (blkOk_by (own := [("_law_found", 8), ("_law_left", 9)]) (N := N_law_right) (sc := defScope D_law_right) (by decide +kernel)) (by decide) (fun _ _ _ _ _ => (sg_tup (c.blk).calm (sgs_cons (sg_name 8 (c.blk).nd) (sgs_cons (sg_name 9 (c.blk).nd) sgs_nil)))) (fun _ _ _ _ _ => sts_nil) (fun _ _ _ _ _ => (se_ix (se_name 8) (se_name 4)))) sl_nil)))
 (ss_cons (ss_if (st_not (st_val (se_call c G_law_same (sl_cons (se_lc c (si_range1 T.n_range (sl_cons se_int sl_nil)) (blkOk_by (own := [("_law_lap", 10)]) (N := N_law_right) (sc := defScope D_law_right) (by decide +kernel)) (by decide) (fun _ _ _ _ _ => (sg_name 10 (c.blk).nd)) (fun _ _ _ _ _ => sts_nil) (fun _ _ _ _ _ => (se_call (c.blk) G_digits (sl_cons (se_name 0) (sl_cons (se_name 1) (sl_cons (se_name 4) sl_nil)))))) (sl_cons (se_lst (sl_cons (se_name 5) (sl_cons (se_name 5) sl_nil))) sl_nil)))))
 (ss_cons (ss_ret se_bl)
 ss_nil)
 ss_nil)
 (ss_cons (ss_set 6 c.nd (se_call c G_law_sum (sl_cons (se_lc c (si_z T.n_zip (sl_cons (se_name 3) (sl_cons (se_name 0) sl_nil))) (blkOk_by (own := [("_law_chance", 7), ("_law_found", 8), ("_law_left", 9)]) (N := N_law_right) (sc := defScope D_law_right) (by decide +kernel)) (by decide) (fun _ _ _ _ _ => (sg_tup (c.blk).calm (sgs_cons (sg_tup (c.blk).calm (sgs_cons (sg_name 8 (c.blk).nd) (sgs_cons (sg_name 9 (c.blk).nd) sgs_nil))) (sgs_cons (sg_name 7 (c.blk).nd) sgs_nil)))) (fun _ _ _ _ _ => sts_nil) (fun _ _ _ _ _ => (se_call (c.blk) G_law_fraction (sl_cons (se_ix (se_name 9) (se_name 4)) (sl_cons (se_ix (se_name 7) se_int) sl_nil))))) sl_nil)))
 (ss_cons (ss_if (st_not (st_val (se_call c G_law_same (sl_cons (se_name 6) (sl_cons (se_tup (sl_cons (se_call c G_least_open (sl_cons (se_name 0) (sl_cons (se_name 1) (sl_cons (se_name 4) sl_nil)))) (sl_cons se_int sl_nil))) sl_nil)))))
 (ss_cons (ss_ret se_bl)
 ss_nil)
 ss_nil)
 ss_nil)))))
 (ss_cons (ss_ret se_bl)
 ss_nil)))).imp le_law_right
theorem ok_law (T : Txt K mg C) (G_law_cell_at : Df P w K mg base C "_law_cell_at" 2 1 s_law_cell_at) (G_law_pen : Df P w K mg base C "_law_pen" 1 1 s_law_pen) (G_law_chances : Df P w K mg base C "_law_chances" 1 2 s_law_chances) (G_law_draw : Df P w K mg base C "_law_draw" 2 1 s_law_draw) (G_law_right : Df P w K mg base C "_law_right" 3 8 s_law_right) : Df P w K mg base C "law" 1 9 s_law :=
 (df_of (k := 8) T.d_law sc_law (fun _ _ _ _ _ _ us hl => match us, hl with | [_], _ => rfl) fun f cdv A outer s H E c =>
 (ss_cons (ss_for c (si_range1 T.n_range (sl_cons (se_bi (cas_max2 c.calm) T.n_max PyProof.Rows.boot_max (sl_cons se_int (sl_cons (se_bi (cas_min2 c.calm) T.n_min (by decide +kernel) (sl_cons (se_bi cas_len T.n_len PySem.boot_len (sl_cons (se_name 0) sl_nil)) (sl_cons se_int sl_nil))) sl_nil))) sl_nil)) (sg_name 1 c.nd)
 (ss_cons (ss_set 2 c.nd (se_call c G_law_pen (sl_cons (se_call c G_law_cell_at (sl_cons (se_name 0) (sl_cons (se_name 1) sl_nil))) sl_nil)))
 (ss_cons (ss_for c (si_seq (se_tup (sl_cons se_int (sl_cons se_int (sl_cons se_int sl_nil))))) (sg_name 3 c.nd)
 (ss_cons (ss_par 4 5 c.calm c.nd (sl_cons (se_call c G_law_chances (sl_cons (se_name 2) sl_nil)) (sl_cons (se_op ops_add se_int (se_call c G_law_draw (sl_cons (se_name 2) (sl_cons se_int sl_nil)))) sl_nil)))
 (ss_cons (ss_set 6 c.nd (se_bi (cas_repr c.gd c.h100) T.n_repr PyProof.Rows.boot_repr (sl_cons (se_name 4) sl_nil)))
 (ss_cons (ss_if (st_of (sw_or (st_not (st_val (se_call c G_law_right (sl_cons (se_name 4) (sl_cons (se_name 5) (sl_cons (se_name 3) sl_nil)))))) (sw_or1 (st_cmp (ops_ne c.h64) (se_bi (cas_repr c.gd c.h100) T.n_repr PyProof.Rows.boot_repr (sl_cons (se_name 4) sl_nil)) (se_name 6)))))
 (ss_cons (ss_ret se_bl)
 ss_nil)
 ss_nil)
 ss_nil))))
 ss_nil)))
 (ss_cons (ss_ret se_bl)
 ss_nil))).imp le_law
theorem all_mk {h : Heap} (X : K.In h) (G : h.Ns mainGlobals mg)
    {t_LEAST_SIDES : Tok}
    {t_MOST_BOTTOM : Tok}
    {t_MOST_OUTCOMES : Tok}
    {t_MOST_SIDES : Tok}
    {t_MOST_THROWS : Tok}
    {a_ONE : Addr} {t_ONE u_ONE : Tok} {dd_ONE : Option Addr} {n_ONE : Nat} {sl_ONE : Array (Option Value)}
    {a_ZERO : Addr} {t_ZERO u_ZERO : Tok} {dd_ZERO : Option Addr} {n_ZERO : Nat} {sl_ZERO : Array (Option Value)}
    {e_ChancesError : Addr}
    {e_SidesError : Addr}
    {e_ThrowsError : Addr}
    {f_law_cell_at : Addr} {oc_law_cell_at kV_law_cell_at dc_law_cell_at pm_law_cell_at cd_law_cell_at ct_law_cell_at : Value} {od_law_cell_at an_law_cell_at : Option Addr} {sl_law_cell_at : Array (Option Value)}
    {f_law_pen : Addr} {oc_law_pen kV_law_pen dc_law_pen pm_law_pen cd_law_pen ct_law_pen : Value} {od_law_pen an_law_pen : Option Addr} {sl_law_pen : Array (Option Value)}
    {f_law_draw : Addr} {oc_law_draw kV_law_draw dc_law_draw pm_law_draw cd_law_draw ct_law_draw : Value} {od_law_draw an_law_draw : Option Addr} {sl_law_draw : Array (Option Value)}
    {f_law_fraction : Addr} {oc_law_fraction kV_law_fraction dc_law_fraction pm_law_fraction cd_law_fraction ct_law_fraction : Value} {od_law_fraction an_law_fraction : Option Addr} {sl_law_fraction : Array (Option Value)}
    {f_law_chances : Addr} {oc_law_chances kV_law_chances dc_law_chances pm_law_chances cd_law_chances ct_law_chances : Value} {od_law_chances an_law_chances : Option Addr} {sl_law_chances : Array (Option Value)}
    {f_law_parts : Addr} {oc_law_parts kV_law_parts dc_law_parts pm_law_parts cd_law_parts ct_law_parts : Value} {od_law_parts an_law_parts : Option Addr} {sl_law_parts : Array (Option Value)}
    {f_is_integer : Addr} {oc_is_integer kV_is_integer dc_is_integer pm_is_integer cd_is_integer ct_is_integer : Value} {od_is_integer an_is_integer : Option Addr} {sl_is_integer : Array (Option Value)}
    {f_greatest_divisor : Addr} {oc_greatest_divisor kV_greatest_divisor dc_greatest_divisor pm_greatest_divisor cd_greatest_divisor ct_greatest_divisor : Value} {od_greatest_divisor an_greatest_divisor : Option Addr} {sl_greatest_divisor : Array (Option Value)}
    {f_is_fraction : Addr} {oc_is_fraction kV_is_fraction dc_is_fraction pm_is_fraction cd_is_fraction ct_is_fraction : Value} {od_is_fraction an_is_fraction : Option Addr} {sl_is_fraction : Array (Option Value)}
    {f_ratio : Addr} {oc_ratio kV_ratio dc_ratio pm_ratio cd_ratio ct_ratio : Value} {od_ratio an_ratio : Option Addr} {sl_ratio : Array (Option Value)}
    {f_plus : Addr} {oc_plus kV_plus dc_plus pm_plus cd_plus ct_plus : Value} {od_plus an_plus : Option Addr} {sl_plus : Array (Option Value)}
    {f_added : Addr} {oc_added kV_added dc_added pm_added cd_added ct_added : Value} {od_added an_added : Option Addr} {sl_added : Array (Option Value)}
    {f_common_bottom : Addr} {oc_common_bottom kV_common_bottom dc_common_bottom pm_common_bottom cd_common_bottom ct_common_bottom : Value} {od_common_bottom an_common_bottom : Option Addr} {sl_common_bottom : Array (Option Value)}
    {f_is_chances : Addr} {oc_is_chances kV_is_chances dc_is_chances pm_is_chances cd_is_chances ct_is_chances : Value} {od_is_chances an_is_chances : Option Addr} {sl_is_chances : Array (Option Value)}
    {f_check_chances : Addr} {oc_check_chances kV_check_chances dc_check_chances pm_check_chances cd_check_chances ct_check_chances : Value} {od_check_chances an_check_chances : Option Addr} {sl_check_chances : Array (Option Value)}
    {f_is_between : Addr} {oc_is_between kV_is_between dc_is_between pm_is_between cd_is_between ct_is_between : Value} {od_is_between an_is_between : Option Addr} {sl_is_between : Array (Option Value)}
    {f_check_sides : Addr} {oc_check_sides kV_check_sides dc_check_sides pm_check_sides cd_check_sides ct_check_sides : Value} {od_check_sides an_check_sides : Option Addr} {sl_check_sides : Array (Option Value)}
    {f_check_throws : Addr} {oc_check_throws kV_check_throws dc_check_throws pm_check_throws cd_check_throws ct_check_throws : Value} {od_check_throws an_check_throws : Option Addr} {sl_check_throws : Array (Option Value)}
    {f_power : Addr} {oc_power kV_power dc_power pm_power cd_power ct_power : Value} {od_power an_power : Option Addr} {sl_power : Array (Option Value)}
    {f_floors : Addr} {oc_floors kV_floors dc_floors pm_floors cd_floors ct_floors : Value} {od_floors an_floors : Option Addr} {sl_floors : Array (Option Value)}
    {f_digits_at : Addr} {oc_digits_at kV_digits_at dc_digits_at pm_digits_at cd_digits_at ct_digits_at : Value} {od_digits_at an_digits_at : Option Addr} {sl_digits_at : Array (Option Value)}
    {f_digits : Addr} {oc_digits kV_digits dc_digits pm_digits cd_digits ct_digits : Value} {od_digits an_digits : Option Addr} {sl_digits : Array (Option Value)}
    {f_law_same : Addr} {oc_law_same kV_law_same dc_law_same pm_law_same cd_law_same ct_law_same : Value} {od_law_same an_law_same : Option Addr} {sl_law_same : Array (Option Value)}
    {f_law_add : Addr} {oc_law_add kV_law_add dc_law_add pm_law_add cd_law_add ct_law_add : Value} {od_law_add an_law_add : Option Addr} {sl_law_add : Array (Option Value)}
    {f_law_sum : Addr} {oc_law_sum kV_law_sum dc_law_sum pm_law_sum cd_law_sum ct_law_sum : Value} {od_law_sum an_law_sum : Option Addr} {sl_law_sum : Array (Option Value)}
    {f_open_at_least : Addr} {oc_open_at_least kV_open_at_least dc_open_at_least pm_open_at_least cd_open_at_least ct_open_at_least : Value} {od_open_at_least an_open_at_least : Option Addr} {sl_open_at_least : Array (Option Value)}
    {f_least_open : Addr} {oc_least_open kV_least_open dc_least_open pm_least_open cd_least_open ct_least_open : Value} {od_least_open an_least_open : Option Addr} {sl_least_open : Array (Option Value)}
    {f_law_right : Addr} {oc_law_right kV_law_right dc_law_right pm_law_right cd_law_right ct_law_right : Value} {od_law_right an_law_right : Option Addr} {sl_law_right : Array (Option Value)}
    {f_law : Addr} {oc_law kV_law dc_law pm_law cd_law ct_law : Value} {od_law an_law : Option Addr} {sl_law : Array (Option Value)}
    (z_abs : PySem.W.nsIn K mainGlobals "abs" = some none)
    (z_all : PySem.W.nsIn K mainGlobals "all" = some none)
    (z_bool : PySem.W.nsIn K mainGlobals "bool" = some none)
    (z_int : PySem.W.nsIn K mainGlobals "int" = some none)
    (z_isinstance : PySem.W.nsIn K mainGlobals "isinstance" = some none)
    (z_len : PySem.W.nsIn K mainGlobals "len" = some none)
    (z_max : PySem.W.nsIn K mainGlobals "max" = some none)
    (z_min : PySem.W.nsIn K mainGlobals "min" = some none)
    (z_range : PySem.W.nsIn K mainGlobals "range" = some none)
    (z_repr : PySem.W.nsIn K mainGlobals "repr" = some none)
    (z_sorted : PySem.W.nsIn K mainGlobals "sorted" = some none)
    (z_sum : PySem.W.nsIn K mainGlobals "sum" = some none)
    (z_tuple : PySem.W.nsIn K mainGlobals "tuple" = some none)
    (z_zip : PySem.W.nsIn K mainGlobals "zip" = some none)
    (c_LEAST_SIDES : PySem.W.nsIn K mainGlobals "LEAST_SIDES" = some (some (.int 2 t_LEAST_SIDES)))
    (c_MOST_BOTTOM : PySem.W.nsIn K mainGlobals "MOST_BOTTOM" = some (some (.int 30 t_MOST_BOTTOM)))
    (c_MOST_OUTCOMES : PySem.W.nsIn K mainGlobals "MOST_OUTCOMES" = some (some (.int 6 t_MOST_OUTCOMES)))
    (c_MOST_SIDES : PySem.W.nsIn K mainGlobals "MOST_SIDES" = some (some (.int 6 t_MOST_SIDES)))
    (c_MOST_THROWS : PySem.W.nsIn K mainGlobals "MOST_THROWS" = some (some (.int 60 t_MOST_THROWS)))
    (c_ONE : PySem.W.nsIn K mainGlobals "ONE" = some (some (.ref a_ONE)))
    (l_ONE : K.lookup a_ONE = some ⟨.type "tuple", dd_ONE, .seq #[.int 1 t_ONE, .int 1 u_ONE] n_ONE, sl_ONE⟩)
    (c_ZERO : PySem.W.nsIn K mainGlobals "ZERO" = some (some (.ref a_ZERO)))
    (l_ZERO : K.lookup a_ZERO = some ⟨.type "tuple", dd_ZERO, .seq #[.int 0 t_ZERO, .int 1 u_ZERO] n_ZERO, sl_ZERO⟩)
    (xg_ChancesError : PySem.W.nsIn K mainGlobals "ChancesError" = some (some (.ref e_ChancesError)))
    (xk_ChancesError : PySem.W.keepIn K (.ref e_ChancesError) = true)
    (xb_ChancesError : PySem.W.subIn K (.ref e_ChancesError) (.type "BaseException") = some true)
    (xt_ChancesError : PySem.W.typeIn K (.ref e_ChancesError) = some (.type "type"))
    (xq_ChancesError : PySem.W.excIn K e_ChancesError [.type "ValueError", .type "Exception", .type "BaseException", .type "object"] "ValueError.__new__" = true)
    (xg_SidesError : PySem.W.nsIn K mainGlobals "SidesError" = some (some (.ref e_SidesError)))
    (xk_SidesError : PySem.W.keepIn K (.ref e_SidesError) = true)
    (xb_SidesError : PySem.W.subIn K (.ref e_SidesError) (.type "BaseException") = some true)
    (xt_SidesError : PySem.W.typeIn K (.ref e_SidesError) = some (.type "type"))
    (xq_SidesError : PySem.W.excIn K e_SidesError [.type "ValueError", .type "Exception", .type "BaseException", .type "object"] "ValueError.__new__" = true)
    (xg_ThrowsError : PySem.W.nsIn K mainGlobals "ThrowsError" = some (some (.ref e_ThrowsError)))
    (xk_ThrowsError : PySem.W.keepIn K (.ref e_ThrowsError) = true)
    (xb_ThrowsError : PySem.W.subIn K (.ref e_ThrowsError) (.type "BaseException") = some true)
    (xt_ThrowsError : PySem.W.typeIn K (.ref e_ThrowsError) = some (.type "type"))
    (xq_ThrowsError : PySem.W.excIn K e_ThrowsError [.type "ValueError", .type "Exception", .type "BaseException", .type "object"] "ValueError.__new__" = true)
    (a_law_cell_at : PySem.W.nsIn K mainGlobals "_law_cell_at" = some (some (.ref f_law_cell_at)))
    (l_law_cell_at : K.lookup f_law_cell_at = some ⟨oc_law_cell_at, od_law_cell_at, .func (PySem.W.fnOf "_law_cell_at" "_law_cell_at" (defArgs D_law_cell_at) (defBody D_law_cell_at) (defScope D_law_cell_at) .none kV_law_cell_at dc_law_cell_at pm_law_cell_at an_law_cell_at cd_law_cell_at ct_law_cell_at), sl_law_cell_at⟩)
    (cc_law_cell_at : PySem.W.codeIn K cd_law_cell_at "_law_cell_at" = true)
    (k_law_cell_at : PySem.W.keepIn K (.ref f_law_cell_at) = true)
    (a_law_pen : PySem.W.nsIn K mainGlobals "_law_pen" = some (some (.ref f_law_pen)))
    (l_law_pen : K.lookup f_law_pen = some ⟨oc_law_pen, od_law_pen, .func (PySem.W.fnOf "_law_pen" "_law_pen" (defArgs D_law_pen) (defBody D_law_pen) (defScope D_law_pen) .none kV_law_pen dc_law_pen pm_law_pen an_law_pen cd_law_pen ct_law_pen), sl_law_pen⟩)
    (cc_law_pen : PySem.W.codeIn K cd_law_pen "_law_pen" = true)
    (k_law_pen : PySem.W.keepIn K (.ref f_law_pen) = true)
    (a_law_draw : PySem.W.nsIn K mainGlobals "_law_draw" = some (some (.ref f_law_draw)))
    (l_law_draw : K.lookup f_law_draw = some ⟨oc_law_draw, od_law_draw, .func (PySem.W.fnOf "_law_draw" "_law_draw" (defArgs D_law_draw) (defBody D_law_draw) (defScope D_law_draw) .none kV_law_draw dc_law_draw pm_law_draw an_law_draw cd_law_draw ct_law_draw), sl_law_draw⟩)
    (cc_law_draw : PySem.W.codeIn K cd_law_draw "_law_draw" = true)
    (k_law_draw : PySem.W.keepIn K (.ref f_law_draw) = true)
    (a_law_fraction : PySem.W.nsIn K mainGlobals "_law_fraction" = some (some (.ref f_law_fraction)))
    (l_law_fraction : K.lookup f_law_fraction = some ⟨oc_law_fraction, od_law_fraction, .func (PySem.W.fnOf "_law_fraction" "_law_fraction" (defArgs D_law_fraction) (defBody D_law_fraction) (defScope D_law_fraction) .none kV_law_fraction dc_law_fraction pm_law_fraction an_law_fraction cd_law_fraction ct_law_fraction), sl_law_fraction⟩)
    (cc_law_fraction : PySem.W.codeIn K cd_law_fraction "_law_fraction" = true)
    (k_law_fraction : PySem.W.keepIn K (.ref f_law_fraction) = true)
    (a_law_chances : PySem.W.nsIn K mainGlobals "_law_chances" = some (some (.ref f_law_chances)))
    (l_law_chances : K.lookup f_law_chances = some ⟨oc_law_chances, od_law_chances, .func (PySem.W.fnOf "_law_chances" "_law_chances" (defArgs D_law_chances) (defBody D_law_chances) (defScope D_law_chances) .none kV_law_chances dc_law_chances pm_law_chances an_law_chances cd_law_chances ct_law_chances), sl_law_chances⟩)
    (cc_law_chances : PySem.W.codeIn K cd_law_chances "_law_chances" = true)
    (k_law_chances : PySem.W.keepIn K (.ref f_law_chances) = true)
    (a_law_parts : PySem.W.nsIn K mainGlobals "_law_parts" = some (some (.ref f_law_parts)))
    (l_law_parts : K.lookup f_law_parts = some ⟨oc_law_parts, od_law_parts, .func (PySem.W.fnOf "_law_parts" "_law_parts" (defArgs D_law_parts) (defBody D_law_parts) (defScope D_law_parts) .none kV_law_parts dc_law_parts pm_law_parts an_law_parts cd_law_parts ct_law_parts), sl_law_parts⟩)
    (cc_law_parts : PySem.W.codeIn K cd_law_parts "_law_parts" = true)
    (k_law_parts : PySem.W.keepIn K (.ref f_law_parts) = true)
    (a_is_integer : PySem.W.nsIn K mainGlobals "is_integer" = some (some (.ref f_is_integer)))
    (l_is_integer : K.lookup f_is_integer = some ⟨oc_is_integer, od_is_integer, .func (PySem.W.fnOf "is_integer" "is_integer" (defArgs D_is_integer) (defBody D_is_integer) (defScope D_is_integer) .none kV_is_integer dc_is_integer pm_is_integer an_is_integer cd_is_integer ct_is_integer), sl_is_integer⟩)
    (cc_is_integer : PySem.W.codeIn K cd_is_integer "is_integer" = true)
    (k_is_integer : PySem.W.keepIn K (.ref f_is_integer) = true)
    (a_greatest_divisor : PySem.W.nsIn K mainGlobals "greatest_divisor" = some (some (.ref f_greatest_divisor)))
    (l_greatest_divisor : K.lookup f_greatest_divisor = some ⟨oc_greatest_divisor, od_greatest_divisor, .func (PySem.W.fnOf "greatest_divisor" "greatest_divisor" (defArgs D_greatest_divisor) (defBody D_greatest_divisor) (defScope D_greatest_divisor) .none kV_greatest_divisor dc_greatest_divisor pm_greatest_divisor an_greatest_divisor cd_greatest_divisor ct_greatest_divisor), sl_greatest_divisor⟩)
    (cc_greatest_divisor : PySem.W.codeIn K cd_greatest_divisor "greatest_divisor" = true)
    (k_greatest_divisor : PySem.W.keepIn K (.ref f_greatest_divisor) = true)
    (a_is_fraction : PySem.W.nsIn K mainGlobals "is_fraction" = some (some (.ref f_is_fraction)))
    (l_is_fraction : K.lookup f_is_fraction = some ⟨oc_is_fraction, od_is_fraction, .func (PySem.W.fnOf "is_fraction" "is_fraction" (defArgs D_is_fraction) (defBody D_is_fraction) (defScope D_is_fraction) .none kV_is_fraction dc_is_fraction pm_is_fraction an_is_fraction cd_is_fraction ct_is_fraction), sl_is_fraction⟩)
    (cc_is_fraction : PySem.W.codeIn K cd_is_fraction "is_fraction" = true)
    (k_is_fraction : PySem.W.keepIn K (.ref f_is_fraction) = true)
    (a_ratio : PySem.W.nsIn K mainGlobals "ratio" = some (some (.ref f_ratio)))
    (l_ratio : K.lookup f_ratio = some ⟨oc_ratio, od_ratio, .func (PySem.W.fnOf "ratio" "ratio" (defArgs D_ratio) (defBody D_ratio) (defScope D_ratio) .none kV_ratio dc_ratio pm_ratio an_ratio cd_ratio ct_ratio), sl_ratio⟩)
    (cc_ratio : PySem.W.codeIn K cd_ratio "ratio" = true)
    (k_ratio : PySem.W.keepIn K (.ref f_ratio) = true)
    (a_plus : PySem.W.nsIn K mainGlobals "plus" = some (some (.ref f_plus)))
    (l_plus : K.lookup f_plus = some ⟨oc_plus, od_plus, .func (PySem.W.fnOf "plus" "plus" (defArgs D_plus) (defBody D_plus) (defScope D_plus) .none kV_plus dc_plus pm_plus an_plus cd_plus ct_plus), sl_plus⟩)
    (cc_plus : PySem.W.codeIn K cd_plus "plus" = true)
    (k_plus : PySem.W.keepIn K (.ref f_plus) = true)
    (a_added : PySem.W.nsIn K mainGlobals "added" = some (some (.ref f_added)))
    (l_added : K.lookup f_added = some ⟨oc_added, od_added, .func (PySem.W.fnOf "added" "added" (defArgs D_added) (defBody D_added) (defScope D_added) .none kV_added dc_added pm_added an_added cd_added ct_added), sl_added⟩)
    (cc_added : PySem.W.codeIn K cd_added "added" = true)
    (k_added : PySem.W.keepIn K (.ref f_added) = true)
    (a_common_bottom : PySem.W.nsIn K mainGlobals "common_bottom" = some (some (.ref f_common_bottom)))
    (l_common_bottom : K.lookup f_common_bottom = some ⟨oc_common_bottom, od_common_bottom, .func (PySem.W.fnOf "common_bottom" "common_bottom" (defArgs D_common_bottom) (defBody D_common_bottom) (defScope D_common_bottom) .none kV_common_bottom dc_common_bottom pm_common_bottom an_common_bottom cd_common_bottom ct_common_bottom), sl_common_bottom⟩)
    (cc_common_bottom : PySem.W.codeIn K cd_common_bottom "common_bottom" = true)
    (k_common_bottom : PySem.W.keepIn K (.ref f_common_bottom) = true)
    (a_is_chances : PySem.W.nsIn K mainGlobals "is_chances" = some (some (.ref f_is_chances)))
    (l_is_chances : K.lookup f_is_chances = some ⟨oc_is_chances, od_is_chances, .func (PySem.W.fnOf "is_chances" "is_chances" (defArgs D_is_chances) (defBody D_is_chances) (defScope D_is_chances) .none kV_is_chances dc_is_chances pm_is_chances an_is_chances cd_is_chances ct_is_chances), sl_is_chances⟩)
    (cc_is_chances : PySem.W.codeIn K cd_is_chances "is_chances" = true)
    (k_is_chances : PySem.W.keepIn K (.ref f_is_chances) = true)
    (a_check_chances : PySem.W.nsIn K mainGlobals "check_chances" = some (some (.ref f_check_chances)))
    (l_check_chances : K.lookup f_check_chances = some ⟨oc_check_chances, od_check_chances, .func (PySem.W.fnOf "check_chances" "check_chances" (defArgs D_check_chances) (defBody D_check_chances) (defScope D_check_chances) .none kV_check_chances dc_check_chances pm_check_chances an_check_chances cd_check_chances ct_check_chances), sl_check_chances⟩)
    (cc_check_chances : PySem.W.codeIn K cd_check_chances "check_chances" = true)
    (k_check_chances : PySem.W.keepIn K (.ref f_check_chances) = true)
    (a_is_between : PySem.W.nsIn K mainGlobals "is_between" = some (some (.ref f_is_between)))
    (l_is_between : K.lookup f_is_between = some ⟨oc_is_between, od_is_between, .func (PySem.W.fnOf "is_between" "is_between" (defArgs D_is_between) (defBody D_is_between) (defScope D_is_between) .none kV_is_between dc_is_between pm_is_between an_is_between cd_is_between ct_is_between), sl_is_between⟩)
    (cc_is_between : PySem.W.codeIn K cd_is_between "is_between" = true)
    (k_is_between : PySem.W.keepIn K (.ref f_is_between) = true)
    (a_check_sides : PySem.W.nsIn K mainGlobals "check_sides" = some (some (.ref f_check_sides)))
    (l_check_sides : K.lookup f_check_sides = some ⟨oc_check_sides, od_check_sides, .func (PySem.W.fnOf "check_sides" "check_sides" (defArgs D_check_sides) (defBody D_check_sides) (defScope D_check_sides) .none kV_check_sides dc_check_sides pm_check_sides an_check_sides cd_check_sides ct_check_sides), sl_check_sides⟩)
    (cc_check_sides : PySem.W.codeIn K cd_check_sides "check_sides" = true)
    (k_check_sides : PySem.W.keepIn K (.ref f_check_sides) = true)
    (a_check_throws : PySem.W.nsIn K mainGlobals "check_throws" = some (some (.ref f_check_throws)))
    (l_check_throws : K.lookup f_check_throws = some ⟨oc_check_throws, od_check_throws, .func (PySem.W.fnOf "check_throws" "check_throws" (defArgs D_check_throws) (defBody D_check_throws) (defScope D_check_throws) .none kV_check_throws dc_check_throws pm_check_throws an_check_throws cd_check_throws ct_check_throws), sl_check_throws⟩)
    (cc_check_throws : PySem.W.codeIn K cd_check_throws "check_throws" = true)
    (k_check_throws : PySem.W.keepIn K (.ref f_check_throws) = true)
    (a_power : PySem.W.nsIn K mainGlobals "power" = some (some (.ref f_power)))
    (l_power : K.lookup f_power = some ⟨oc_power, od_power, .func (PySem.W.fnOf "power" "power" (defArgs D_power) (defBody D_power) (defScope D_power) .none kV_power dc_power pm_power an_power cd_power ct_power), sl_power⟩)
    (cc_power : PySem.W.codeIn K cd_power "power" = true)
    (k_power : PySem.W.keepIn K (.ref f_power) = true)
    (a_floors : PySem.W.nsIn K mainGlobals "floors" = some (some (.ref f_floors)))
    (l_floors : K.lookup f_floors = some ⟨oc_floors, od_floors, .func (PySem.W.fnOf "floors" "floors" (defArgs D_floors) (defBody D_floors) (defScope D_floors) .none kV_floors dc_floors pm_floors an_floors cd_floors ct_floors), sl_floors⟩)
    (cc_floors : PySem.W.codeIn K cd_floors "floors" = true)
    (k_floors : PySem.W.keepIn K (.ref f_floors) = true)
    (a_digits_at : PySem.W.nsIn K mainGlobals "digits_at" = some (some (.ref f_digits_at)))
    (l_digits_at : K.lookup f_digits_at = some ⟨oc_digits_at, od_digits_at, .func (PySem.W.fnOf "digits_at" "digits_at" (defArgs D_digits_at) (defBody D_digits_at) (defScope D_digits_at) .none kV_digits_at dc_digits_at pm_digits_at an_digits_at cd_digits_at ct_digits_at), sl_digits_at⟩)
    (cc_digits_at : PySem.W.codeIn K cd_digits_at "digits_at" = true)
    (k_digits_at : PySem.W.keepIn K (.ref f_digits_at) = true)
    (a_digits : PySem.W.nsIn K mainGlobals "digits" = some (some (.ref f_digits)))
    (l_digits : K.lookup f_digits = some ⟨oc_digits, od_digits, .func (PySem.W.fnOf "digits" "digits" (defArgs D_digits) (defBody D_digits) (defScope D_digits) .none kV_digits dc_digits pm_digits an_digits cd_digits ct_digits), sl_digits⟩)
    (cc_digits : PySem.W.codeIn K cd_digits "digits" = true)
    (k_digits : PySem.W.keepIn K (.ref f_digits) = true)
    (a_law_same : PySem.W.nsIn K mainGlobals "_law_same" = some (some (.ref f_law_same)))
    (l_law_same : K.lookup f_law_same = some ⟨oc_law_same, od_law_same, .func (PySem.W.fnOf "_law_same" "_law_same" (defArgs D_law_same) (defBody D_law_same) (defScope D_law_same) .none kV_law_same dc_law_same pm_law_same an_law_same cd_law_same ct_law_same), sl_law_same⟩)
    (cc_law_same : PySem.W.codeIn K cd_law_same "_law_same" = true)
    (k_law_same : PySem.W.keepIn K (.ref f_law_same) = true)
    (a_law_add : PySem.W.nsIn K mainGlobals "_law_add" = some (some (.ref f_law_add)))
    (l_law_add : K.lookup f_law_add = some ⟨oc_law_add, od_law_add, .func (PySem.W.fnOf "_law_add" "_law_add" (defArgs D_law_add) (defBody D_law_add) (defScope D_law_add) .none kV_law_add dc_law_add pm_law_add an_law_add cd_law_add ct_law_add), sl_law_add⟩)
    (cc_law_add : PySem.W.codeIn K cd_law_add "_law_add" = true)
    (k_law_add : PySem.W.keepIn K (.ref f_law_add) = true)
    (a_law_sum : PySem.W.nsIn K mainGlobals "_law_sum" = some (some (.ref f_law_sum)))
    (l_law_sum : K.lookup f_law_sum = some ⟨oc_law_sum, od_law_sum, .func (PySem.W.fnOf "_law_sum" "_law_sum" (defArgs D_law_sum) (defBody D_law_sum) (defScope D_law_sum) .none kV_law_sum dc_law_sum pm_law_sum an_law_sum cd_law_sum ct_law_sum), sl_law_sum⟩)
    (cc_law_sum : PySem.W.codeIn K cd_law_sum "_law_sum" = true)
    (k_law_sum : PySem.W.keepIn K (.ref f_law_sum) = true)
    (a_open_at_least : PySem.W.nsIn K mainGlobals "open_at_least" = some (some (.ref f_open_at_least)))
    (l_open_at_least : K.lookup f_open_at_least = some ⟨oc_open_at_least, od_open_at_least, .func (PySem.W.fnOf "open_at_least" "open_at_least" (defArgs D_open_at_least) (defBody D_open_at_least) (defScope D_open_at_least) .none kV_open_at_least dc_open_at_least pm_open_at_least an_open_at_least cd_open_at_least ct_open_at_least), sl_open_at_least⟩)
    (cc_open_at_least : PySem.W.codeIn K cd_open_at_least "open_at_least" = true)
    (k_open_at_least : PySem.W.keepIn K (.ref f_open_at_least) = true)
    (a_least_open : PySem.W.nsIn K mainGlobals "least_open" = some (some (.ref f_least_open)))
    (l_least_open : K.lookup f_least_open = some ⟨oc_least_open, od_least_open, .func (PySem.W.fnOf "least_open" "least_open" (defArgs D_least_open) (defBody D_least_open) (defScope D_least_open) .none kV_least_open dc_least_open pm_least_open an_least_open cd_least_open ct_least_open), sl_least_open⟩)
    (cc_least_open : PySem.W.codeIn K cd_least_open "least_open" = true)
    (k_least_open : PySem.W.keepIn K (.ref f_least_open) = true)
    (a_law_right : PySem.W.nsIn K mainGlobals "_law_right" = some (some (.ref f_law_right)))
    (l_law_right : K.lookup f_law_right = some ⟨oc_law_right, od_law_right, .func (PySem.W.fnOf "_law_right" "_law_right" (defArgs D_law_right) (defBody D_law_right) (defScope D_law_right) .none kV_law_right dc_law_right pm_law_right an_law_right cd_law_right ct_law_right), sl_law_right⟩)
    (cc_law_right : PySem.W.codeIn K cd_law_right "_law_right" = true)
    (k_law_right : PySem.W.keepIn K (.ref f_law_right) = true)
    (a_law : PySem.W.nsIn K mainGlobals "law" = some (some (.ref f_law)))
    (l_law : K.lookup f_law = some ⟨oc_law, od_law, .func (PySem.W.fnOf "law" "law" (defArgs D_law) (defBody D_law) (defScope D_law) .none kV_law dc_law pm_law an_law cd_law ct_law), sl_law⟩)
    (cc_law : PySem.W.codeIn K cd_law "law" = true)
    (k_law : PySem.W.keepIn K (.ref f_law) = true) :
    ∃ C, ∀ base : Heap, K.In base → base.Ns mainGlobals mg → Df P w K mg base C "law" 1 9 s_law := by
  have mgn : ∀ {x : Str}, PySem.W.nsIn K mainGlobals x = some none → mg x = none := fun e => PySem.W.mg_none_of X G e
  have T : Txt K mg (fun n => if n = 2 then e_ChancesError else if n = 0 then e_SidesError else if n = 1 then e_ThrowsError else 0) := ⟨mgn z_abs,
    mgn z_all,
    mgn z_bool,
    mgn z_int,
    mgn z_isinstance,
    mgn z_len,
    mgn z_max,
    mgn z_min,
    mgn z_range,
    mgn z_repr,
    mgn z_sorted,
    mgn z_sum,
    mgn z_tuple,
    mgn z_zip,
    gc_int (PySem.W.mg_of X G c_LEAST_SIDES),
    gc_int (PySem.W.mg_of X G c_MOST_BOTTOM),
    gc_int (PySem.W.mg_of X G c_MOST_OUTCOMES),
    gc_int (PySem.W.mg_of X G c_MOST_SIDES),
    gc_int (PySem.W.mg_of X G c_MOST_THROWS),
    gc_fr (PySem.W.mg_of X G c_ONE) l_ONE,
    gc_fr (PySem.W.mg_of X G c_ZERO) l_ZERO,
    ⟨PySem.W.mg_of X G xg_ChancesError, xk_ChancesError, xb_ChancesError, xt_ChancesError, xq_ChancesError⟩,
    ⟨PySem.W.mg_of X G xg_SidesError, xk_SidesError, xb_SidesError, xt_SidesError, xq_SidesError⟩,
    ⟨PySem.W.mg_of X G xg_ThrowsError, xk_ThrowsError, xb_ThrowsError, xt_ThrowsError, xq_ThrowsError⟩,
    fact_mk X G a_law_cell_at l_law_cell_at cc_law_cell_at k_law_cell_at,
    fact_mk X G a_law_pen l_law_pen cc_law_pen k_law_pen,
    fact_mk X G a_law_draw l_law_draw cc_law_draw k_law_draw,
    fact_mk X G a_law_fraction l_law_fraction cc_law_fraction k_law_fraction,
    fact_mk X G a_law_chances l_law_chances cc_law_chances k_law_chances,
    fact_mk X G a_law_parts l_law_parts cc_law_parts k_law_parts,
    fact_mk X G a_is_integer l_is_integer cc_is_integer k_is_integer,
    fact_mk X G a_greatest_divisor l_greatest_divisor cc_greatest_divisor k_greatest_divisor,
    fact_mk X G a_is_fraction l_is_fraction cc_is_fraction k_is_fraction,
    fact_mk X G a_ratio l_ratio cc_ratio k_ratio,
    fact_mk X G a_plus l_plus cc_plus k_plus,
    fact_mk X G a_added l_added cc_added k_added,
    fact_mk X G a_common_bottom l_common_bottom cc_common_bottom k_common_bottom,
    fact_mk X G a_is_chances l_is_chances cc_is_chances k_is_chances,
    fact_mk X G a_check_chances l_check_chances cc_check_chances k_check_chances,
    fact_mk X G a_is_between l_is_between cc_is_between k_is_between,
    fact_mk X G a_check_sides l_check_sides cc_check_sides k_check_sides,
    fact_mk X G a_check_throws l_check_throws cc_check_throws k_check_throws,
    fact_mk X G a_power l_power cc_power k_power,
    fact_mk X G a_floors l_floors cc_floors k_floors,
    fact_mk X G a_digits_at l_digits_at cc_digits_at k_digits_at,
    fact_mk X G a_digits l_digits cc_digits k_digits,
    fact_mk X G a_law_same l_law_same cc_law_same k_law_same,
    fact_mk X G a_law_add l_law_add cc_law_add k_law_add,
    fact_mk X G a_law_sum l_law_sum cc_law_sum k_law_sum,
    fact_mk X G a_open_at_least l_open_at_least cc_open_at_least k_open_at_least,
    fact_mk X G a_least_open l_least_open cc_least_open k_least_open,
    fact_mk X G a_law_right l_law_right cc_law_right k_law_right,
    fact_mk X G a_law l_law cc_law k_law⟩
  refine ⟨fun n => if n = 2 then e_ChancesError else if n = 0 then e_SidesError else if n = 1 then e_ThrowsError else 0, fun base _ _ => ?_⟩
  have G_law_cell_at := ok_law_cell_at (P := P) (w := w) (base := base) T 
  have G_law_pen := ok_law_pen (P := P) (w := w) (base := base) T 
  have G_law_draw := ok_law_draw (P := P) (w := w) (base := base) T 
  have G_law_fraction := ok_law_fraction (P := P) (w := w) (base := base) T 
  have G_law_chances := ok_law_chances (P := P) (w := w) (base := base) T G_law_draw G_law_fraction
  have G_law_parts := ok_law_parts (P := P) (w := w) (base := base) T 
  have G_is_integer := ok_is_integer (P := P) (w := w) (base := base) T 
  have G_greatest_divisor := ok_greatest_divisor (P := P) (w := w) (base := base) T 
  have G_is_fraction := ok_is_fraction (P := P) (w := w) (base := base) T G_is_integer G_greatest_divisor
  have G_ratio := ok_ratio (P := P) (w := w) (base := base) T G_greatest_divisor
  have G_plus := ok_plus (P := P) (w := w) (base := base) T G_ratio
  have G_added := ok_added (P := P) (w := w) (base := base) T G_plus
  have G_common_bottom := ok_common_bottom (P := P) (w := w) (base := base) T G_greatest_divisor
  have G_is_chances := ok_is_chances (P := P) (w := w) (base := base) T G_is_fraction G_added G_common_bottom
  have G_check_chances := ok_check_chances (P := P) (w := w) (base := base) T G_is_chances
  have G_is_between := ok_is_between (P := P) (w := w) (base := base) T G_is_integer
  have G_check_sides := ok_check_sides (P := P) (w := w) (base := base) T G_is_between
  have G_check_throws := ok_check_throws (P := P) (w := w) (base := base) T G_is_between
  have G_power := ok_power (P := P) (w := w) (base := base) T 
  have G_floors := ok_floors (P := P) (w := w) (base := base) T G_power
  have G_digits_at := ok_digits_at (P := P) (w := w) (base := base) T G_floors
  have G_digits := ok_digits (P := P) (w := w) (base := base) T G_check_chances G_check_sides G_check_throws G_digits_at
  have G_law_same := ok_law_same (P := P) (w := w) (base := base) T 
  have G_law_add := ok_law_add (P := P) (w := w) (base := base) T G_law_fraction
  have G_law_sum := ok_law_sum (P := P) (w := w) (base := base) T G_law_add
  have G_open_at_least := ok_open_at_least (P := P) (w := w) (base := base) T G_power G_floors
  have G_least_open := ok_least_open (P := P) (w := w) (base := base) T G_check_chances G_check_sides G_check_throws G_open_at_least
  have G_law_right := ok_law_right (P := P) (w := w) (base := base) T G_law_parts G_digits G_law_same G_law_fraction G_law_sum G_least_open
  have G_law := ok_law (P := P) (w := w) (base := base) T G_law_cell_at G_law_pen G_law_chances G_law_draw G_law_right
  exact G_law
end
end
end Fc
open PySem PySem.W PyProof.Rows
set_option maxRecDepth 100000 in
set_option maxHeartbeats 0 in
theorem PySem.Challenge.cw_flipchoice_k02_digits_and_open_words_holds : PySem.Challenge.rw_flipchoice_k02_digits_and_open_words.Holds := by
  w_on; o_law; k_head; (case hw => w_witness2)
  k_fill
  refine Fc.walk_den (l := PySem.Challenge.rw_flipchoice_k02_digits_and_open_words) (k := 9) (den := Fc.s_law) rfl rfl rfl ⟨rfl, by decide, by decide⟩ (fun w h Y => PySem.W.kIn_of Y) ?F Fc.says_law
  case F =>
    intro w mg h KX G
    refine' Fc.all_mk KX G ?z_abs ?z_all ?z_bool ?z_int ?z_isinstance ?z_len ?z_max ?z_min ?z_range ?z_repr ?z_sorted ?z_sum ?z_tuple ?z_zip ?c_LEAST_SIDES ?c_MOST_BOTTOM ?c_MOST_OUTCOMES ?c_MOST_SIDES ?c_MOST_THROWS ?c_ONE ?l_ONE ?c_ZERO ?l_ZERO ?xg_ChancesError ?xk_ChancesError ?xb_ChancesError ?xt_ChancesError ?xq_ChancesError ?xg_SidesError ?xk_SidesError ?xb_SidesError ?xt_SidesError ?xq_SidesError ?xg_ThrowsError ?xk_ThrowsError ?xb_ThrowsError ?xt_ThrowsError ?xq_ThrowsError ?a_law_cell_at ?l_law_cell_at ?cc_law_cell_at ?k_law_cell_at ?a_law_pen ?l_law_pen ?cc_law_pen ?k_law_pen ?a_law_draw ?l_law_draw ?cc_law_draw ?k_law_draw ?a_law_fraction ?l_law_fraction ?cc_law_fraction ?k_law_fraction ?a_law_chances ?l_law_chances ?cc_law_chances ?k_law_chances ?a_law_parts ?l_law_parts ?cc_law_parts ?k_law_parts ?a_is_integer ?l_is_integer ?cc_is_integer ?k_is_integer ?a_greatest_divisor ?l_greatest_divisor ?cc_greatest_divisor ?k_greatest_divisor ?a_is_fraction ?l_is_fraction ?cc_is_fraction ?k_is_fraction ?a_ratio ?l_ratio ?cc_ratio ?k_ratio ?a_plus ?l_plus ?cc_plus ?k_plus ?a_added ?l_added ?cc_added ?k_added ?a_common_bottom ?l_common_bottom ?cc_common_bottom ?k_common_bottom ?a_is_chances ?l_is_chances ?cc_is_chances ?k_is_chances ?a_check_chances ?l_check_chances ?cc_check_chances ?k_check_chances ?a_is_between ?l_is_between ?cc_is_between ?k_is_between ?a_check_sides ?l_check_sides ?cc_check_sides ?k_check_sides ?a_check_throws ?l_check_throws ?cc_check_throws ?k_check_throws ?a_power ?l_power ?cc_power ?k_power ?a_floors ?l_floors ?cc_floors ?k_floors ?a_digits_at ?l_digits_at ?cc_digits_at ?k_digits_at ?a_digits ?l_digits ?cc_digits ?k_digits ?a_law_same ?l_law_same ?cc_law_same ?k_law_same ?a_law_add ?l_law_add ?cc_law_add ?k_law_add ?a_law_sum ?l_law_sum ?cc_law_sum ?k_law_sum ?a_open_at_least ?l_open_at_least ?cc_open_at_least ?k_open_at_least ?a_least_open ?l_least_open ?cc_least_open ?k_least_open ?a_law_right ?l_law_right ?cc_law_right ?k_law_right ?a_law ?l_law ?cc_law ?k_law
    (case z_abs => k_is)
    (case z_all => k_is)
    (case z_bool => k_is)
    (case z_int => k_is)
    (case z_isinstance => k_is)
    (case z_len => k_is)
    (case z_max => k_is)
    (case z_min => k_is)
    (case z_range => k_is)
    (case z_repr => k_is)
    (case z_sorted => k_is)
    (case z_sum => k_is)
    (case z_tuple => k_is)
    (case z_zip => k_is)
    (case c_LEAST_SIDES => k_is)
    (case c_MOST_BOTTOM => k_is)
    (case c_MOST_OUTCOMES => k_is)
    (case c_MOST_SIDES => k_is)
    (case c_MOST_THROWS => k_is)
    (case c_ONE => k_is)
    (case l_ONE => k_is)
    (case c_ZERO => k_is)
    (case l_ZERO => k_is)
    (case xg_ChancesError => k_is)
    (case xk_ChancesError => k_is)
    (case xb_ChancesError => k_is)
    (case xt_ChancesError => k_is)
    (case xq_ChancesError => k_exc)
    (case xg_SidesError => k_is)
    (case xk_SidesError => k_is)
    (case xb_SidesError => k_is)
    (case xt_SidesError => k_is)
    (case xq_SidesError => k_exc)
    (case xg_ThrowsError => k_is)
    (case xk_ThrowsError => k_is)
    (case xb_ThrowsError => k_is)
    (case xt_ThrowsError => k_is)
    (case xq_ThrowsError => k_exc)
    (case a_law_cell_at => k_is)
    (case l_law_cell_at => k_is)
    (case cc_law_cell_at => k_is)
    (case k_law_cell_at => k_is)
    (case a_law_pen => k_is)
    (case l_law_pen => k_is)
    (case cc_law_pen => k_is)
    (case k_law_pen => k_is)
    (case a_law_draw => k_is)
    (case l_law_draw => k_is)
    (case cc_law_draw => k_is)
    (case k_law_draw => k_is)
    (case a_law_fraction => k_is)
    (case l_law_fraction => k_is)
    (case cc_law_fraction => k_is)
    (case k_law_fraction => k_is)
    (case a_law_chances => k_is)
    (case l_law_chances => k_is)
    (case cc_law_chances => k_is)
    (case k_law_chances => k_is)
    (case a_law_parts => k_is)
    (case l_law_parts => k_is)
    (case cc_law_parts => k_is)
    (case k_law_parts => k_is)
    (case a_is_integer => k_is)
    (case l_is_integer => k_is)
    (case cc_is_integer => k_is)
    (case k_is_integer => k_is)
    (case a_greatest_divisor => k_is)
    (case l_greatest_divisor => k_is)
    (case cc_greatest_divisor => k_is)
    (case k_greatest_divisor => k_is)
    (case a_is_fraction => k_is)
    (case l_is_fraction => k_is)
    (case cc_is_fraction => k_is)
    (case k_is_fraction => k_is)
    (case a_ratio => k_is)
    (case l_ratio => k_is)
    (case cc_ratio => k_is)
    (case k_ratio => k_is)
    (case a_plus => k_is)
    (case l_plus => k_is)
    (case cc_plus => k_is)
    (case k_plus => k_is)
    (case a_added => k_is)
    (case l_added => k_is)
    (case cc_added => k_is)
    (case k_added => k_is)
    (case a_common_bottom => k_is)
    (case l_common_bottom => k_is)
    (case cc_common_bottom => k_is)
    (case k_common_bottom => k_is)
    (case a_is_chances => k_is)
    (case l_is_chances => k_is)
    (case cc_is_chances => k_is)
    (case k_is_chances => k_is)
    (case a_check_chances => k_is)
    (case l_check_chances => k_is)
    (case cc_check_chances => k_is)
    (case k_check_chances => k_is)
    (case a_is_between => k_is)
    (case l_is_between => k_is)
    (case cc_is_between => k_is)
    (case k_is_between => k_is)
    (case a_check_sides => k_is)
    (case l_check_sides => k_is)
    (case cc_check_sides => k_is)
    (case k_check_sides => k_is)
    (case a_check_throws => k_is)
    (case l_check_throws => k_is)
    (case cc_check_throws => k_is)
    (case k_check_throws => k_is)
    (case a_power => k_is)
    (case l_power => k_is)
    (case cc_power => k_is)
    (case k_power => k_is)
    (case a_floors => k_is)
    (case l_floors => k_is)
    (case cc_floors => k_is)
    (case k_floors => k_is)
    (case a_digits_at => k_is)
    (case l_digits_at => k_is)
    (case cc_digits_at => k_is)
    (case k_digits_at => k_is)
    (case a_digits => k_is)
    (case l_digits => k_is)
    (case cc_digits => k_is)
    (case k_digits => k_is)
    (case a_law_same => k_is)
    (case l_law_same => k_is)
    (case cc_law_same => k_is)
    (case k_law_same => k_is)
    (case a_law_add => k_is)
    (case l_law_add => k_is)
    (case cc_law_add => k_is)
    (case k_law_add => k_is)
    (case a_law_sum => k_is)
    (case l_law_sum => k_is)
    (case cc_law_sum => k_is)
    (case k_law_sum => k_is)
    (case a_open_at_least => k_is)
    (case l_open_at_least => k_is)
    (case cc_open_at_least => k_is)
    (case k_open_at_least => k_is)
    (case a_least_open => k_is)
    (case l_least_open => k_is)
    (case cc_least_open => k_is)
    (case k_least_open => k_is)
    (case a_law_right => k_is)
    (case l_law_right => k_is)
    (case cc_law_right => k_is)
    (case k_law_right => k_is)
    (case a_law => k_is)
    (case l_law => k_is)
    (case cc_law => k_is)
    (case k_law => k_is)
