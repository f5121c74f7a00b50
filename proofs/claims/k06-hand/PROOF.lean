import PyProof.Rows.All
import Wide.All
import OpenK.AllK
import Wide.FinOn
import HandS.ForMost
import HandS.ForExc
import HandS.Wide
import HandS.IsInst
import HandS.Deep
import HandS.TupAny
import HandS.TupMul
import HandS.Zip
import HandS.Style
import HandS.Conv
import HandS.EndBits
import PyProof.Draws
import HandS.Property
import HandS.DictComp
import HandS.More
import HandS.Iter
import KE.KTupSum
import HandS.Head0
import HandS.Head1
import HandS.Head2
import HandS.HeadEnd
import HandS.HeadHook1
import HandS.HeadHook2
import PySem.Challenge.RW_flipchoice_k06_chances_by_hand
set_option Elab.async false
set_option linter.all false
set_option maxRecDepth 100000
set_option exponentiation.threshold 256
set_option maxHeartbeats 4000000
set_option maxHeartbeats 4000000
/-! Fc: an abstract machine over plain data (Dv) and a store of changing objects (Sto); each construct of Python as a total function on it. -/
namespace Fc
open PySem L2

/-- plain data; ref n is the n-th object of the store -/
inductive Dv where
  | non | bl (b : Bool) | int (i : Int) | str (x : Str) | tup (ds : List Dv) | fz (ds : List Dv) | ref (n : Nat) | obj (c : Nat) (fs : List (Str × Dv))
  deriving Inhabited
/-- the program's classes, by number: their names -/
def clsNm : Nat → Str
  | 0 => "Chooser" | 1 => "Best" | 2 => "Capped" | 3 => "Rejecting" | 4 => "Hand" | 5 => "Frozen" | 6 => "Trial" | _ => "object"
/-- where the class stands -/
def clsA (K : PySem.W.Frag) (c : Nat) : Addr := match PySem.W.nsIn K mainGlobals (clsNm c) with
  | some (some (.ref a)) => a
  | _ => 0
/-- what changes: a list, a dict (open or locked by a loop), an instance of the c-th class -/
inductive Ob where
  | lst (ds : List Dv) | dic (kvs : List (Key × Dv)) | ldic (kvs : List (Key × Dv)) | ins (c : Nat) (fs : List (Str × Dv))
  deriving Inhabited
abbrev Sto := List Ob
/-- how a piece of the text ends -/
inductive Res (α : Type) where
  | ok (a : α) (S : Sto) | exn (c : Nat) (S : Sto) | stuck
def Res.bd {α β : Type} (r : Res α) (f : α → Sto → Res β) : Res β :=
  match r with
  | .ok a S => f a S
  | .exn c S => .exn c S
  | .stuck => .stuck
@[simp] theorem Res.bd_ok {α β : Type} (a : α) (S : Sto) (f : α → Sto → Res β) : (Res.ok a S).bd f = f a S := rfl
@[simp] theorem Res.bd_exn {α β : Type} (c : Nat) (S : Sto) (f : α → Sto → Res β) : (Res.exn c S : Res α).bd f = .exn c S := rfl
@[simp] theorem Res.bd_stuck {α β : Type} (f : α → Sto → Res β) : (Res.stuck : Res α).bd f = .stuck := rfl
/-- locals by slot -/
abbrev Ev := List (Option Dv)
inductive Out where
  | nx (ρ : Ev) | rt (d : Dv) | bk (ρ : Ev) | ct (ρ : Ev) | ex (c : Nat) (ρ : Ev)
abbrev DE := Ev → Sto → Res Dv
abbrev DT := Ev → Sto → Res Bool
abbrev DL := Ev → Sto → Res (List Dv)
abbrev DS := Ev → Sto → Res Out
/-- a loop's bound: never met -/
theorem big_ex : ∃ n : Nat, n = 1000000000000 := ⟨_, rfl⟩
noncomputable def big : Nat := Classical.choose big_ex
theorem big_eq : big = 1000000000000 := Classical.choose_spec big_ex
theorem lt_big {n : Nat} (h : n < 1000000000000) : n < big := by
  rw [big_eq]
  exact h
/-- the longest list, tuple, text that is built -/
def lim : Nat := 100000

/-! ### what the data mean: values over the layer's heap -/
/-- the store's addresses; the addresses that no value speaks of -/
structure Mu where
  tr : List Addr
  hd : List Addr
def Mu.add (μ : Mu) (p : Addr) : Mu := ⟨μ.tr ++ [p], μ.hd⟩
def Mu.hide (μ : Mu) (p : Addr) : Mu := ⟨μ.tr, p :: μ.hd⟩
def Mu.out (μ : Mu) (a : Addr) : Prop := a ∉ μ.tr ∧ a ∉ μ.hd
/-- a list that nothing writes: it is locked, written, or no thing of the store -/
def Fzl (K : PySem.W.Frag) (H : Hp) (μ : Mu) (a : Addr) (xs : List V) : Prop :=
  (∃ o, H a = some (.frz o (.lst xs))) ∨ (SqL K (fun _ => none) a xs) ∨ (H a = some (.lst xs) ∧ μ.out a)
theorem Fzl.seq {K : PySem.W.Frag} {H : Hp} {μ : Mu} {a : Addr} {xs : List V} (h : Fzl K H μ a xs) : SqL K H a xs := by
  rcases h with h | h | h
  · exact .inl (.inr h)
  · rcases h with (h | ⟨o, h⟩) | h
    · cases h
    · cases h
    · exact .inr h
  · exact SqL.of h.1
mutual
def VR (K : PySem.W.Frag) (H : Hp) (μ : Mu) : Dv → V → Prop
  | .non, v => v = .non
  | .bl b, v => v = .bl b
  | .int i, v => v = .int i
  | .str x, v => v = .str x
  | .tup ds, v => ∃ a vs, v = .ref a ∧ SqT K H a vs ∧ VRs K H μ ds vs
  | .fz ds, v => ∃ a vs, v = .ref a ∧ Fzl K H μ a vs ∧ VRs K H μ ds vs
  | .ref n, v => ∃ a, μ.tr[n]? = some a ∧ v = .ref a
  | .obj c fs, v => ∃ a dx gs, v = .ref a ∧ μ.out a ∧ H a = some (.ins (clsA K c) dx gs) ∧ VRf K H μ fs gs
def VRf (K : PySem.W.Frag) (H : Hp) (μ : Mu) : List (Str × Dv) → List (Str × V) → Prop
  | [], gs => gs = []
  | (f, d) :: fs, gs => ∃ v r, gs = (f, v) :: r ∧ VR K H μ d v ∧ VRf K H μ fs r
def VRs (K : PySem.W.Frag) (H : Hp) (μ : Mu) : List Dv → List V → Prop
  | [], vs => vs = []
  | d :: ds, vs => ∃ v r, vs = v :: r ∧ VR K H μ d v ∧ VRs K H μ ds r
end
/-- later: addresses of the store stay, what never changes stays -/
structure Aw (K : PySem.W.Frag) (μ : Mu) (H : Hp) (μ' : Mu) (H' : Hp) : Prop where
  pre : ∃ ν, μ'.tr = μ.tr ++ ν ∧ ∀ x ∈ ν, H x = none
  hd : ∀ x o, x ∉ μ.hd → H x = some o → x ∉ μ'.hd
  keep : ∀ a o, μ.out a → H a = some o → H' a = some o
  there : ∀ a, H a ≠ none → H' a ≠ none
  tup : ∀ a xs, SqT K H a xs → SqT K H' a xs
  frz : ∀ a o u, H a = some (.frz o u) → H' a = some (.frz o u)
/-- .. and what is no thing of the store -/
structure Aft (K : PySem.W.Frag) (μ : Mu) (H : Hp) (μ' : Mu) (H' : Hp) : Prop where
  aw : Aw K μ H μ' H'
  hid : μ'.hd = μ.hd
  all : ∀ a o, a ∉ μ.tr → H a = some o → H' a = some o
section
variable {K : PySem.W.Frag} {H H' H1 H2 : Hp} {μ μ' μ1 μ2 : Mu}
theorem Aw.refl : Aw K μ H μ H := ⟨⟨[], by simp, by simp⟩, fun _ _ h _ => h, fun _ _ _ h => h, fun _ h => h, fun _ _ h => h, fun _ _ _ h => h⟩
theorem Aft.refl : Aft K μ H μ H := ⟨.refl, rfl, fun _ _ _ h => h⟩
theorem Aw.outTr (a : Aw K μ H μ' H') {x : Addr} {o : HO} (h : x ∉ μ.tr) (e : H x = some o) : x ∉ μ'.tr := by
  obtain ⟨ν, q, hn⟩ := a.pre
  rw [q]
  intro hm
  rcases List.mem_append.mp hm with z | z
  · exact h z
  · rw [hn x z] at e
    cases e
theorem Aw.out (a : Aw K μ H μ' H') {x : Addr} {o : HO} (h : μ.out x) (e : H x = some o) : μ'.out x := ⟨a.outTr h.1 e, a.hd x o h.2 e⟩
theorem Aw.trans (a : Aw K μ H μ1 H1) (b : Aw K μ1 H1 μ2 H2) : Aw K μ H μ2 H2 := by
  obtain ⟨ν, a0, a00⟩ := a.pre
  obtain ⟨ξ, b0, b00⟩ := b.pre
  refine ⟨⟨ν ++ ξ, by rw [b0, a0, List.append_assoc], fun x hx => ?_⟩, fun x o h e => ?_, fun x o h e => b.keep x o (a.out h e) (a.keep x o h e), fun x h => b.there x (a.there x h), fun x xs h => b.tup x xs (a.tup x xs h), fun x o xs h => b.frz x o xs (a.frz x o xs h)⟩
  · rcases List.mem_append.mp hx with z | z
    · exact a00 x z
    · cases e : H x with
      | none => rfl
      | some q => exact absurd (b00 x z) (a.there x (by rw [e]; exact Option.some_ne_none q))
  · have n1 := a.hd x o h e
    cases e1 : H1 x with
    | none => exact absurd e1 (a.there x (by rw [e]; exact Option.some_ne_none o))
    | some q => exact b.hd x q n1 e1
theorem Aft.trans (a : Aft K μ H μ1 H1) (b : Aft K μ1 H1 μ2 H2) : Aft K μ H μ2 H2 :=
  ⟨a.aw.trans b.aw, b.hid.trans a.hid, fun x o h e => b.all x o (a.aw.outTr h e) (a.all x o h e)⟩
theorem Aw.fzl (a : Aw K μ H μ' H') {x : Addr} {xs : List V} (h : Fzl K H μ x xs) : Fzl K H' μ' x xs := by
  rcases h with ⟨o, h⟩ | h | ⟨h, n⟩
  · exact .inl ⟨o, a.frz _ _ _ h⟩
  · exact .inr (.inl h)
  · exact .inr (.inr ⟨a.keep _ _ n h, a.out n h⟩)
theorem Aw.at (a : Aw K μ H μ' H') {n : Nat} {x : Addr} (h : μ.tr[n]? = some x) : μ'.tr[n]? = some x := by
  obtain ⟨ν, e, _⟩ := a.pre
  rw [e, List.getElem?_append_left (List.getElem?_eq_some_iff.mp h).1]
  exact h
theorem Aft.at (a : Aft K μ H μ' H') {n : Nat} {x : Addr} (h : μ.tr[n]? = some x) : μ'.tr[n]? = some x := a.aw.at h
mutual
theorem VR.weak (a : Aw K μ H μ' H') : ∀ {d : Dv} {v : V}, VR K H μ d v → VR K H' μ' d v
  | .non, _, h => by simpa [VR] using h
  | .bl _, _, h => by simpa [VR] using h
  | .int _, _, h => by simpa [VR] using h
  | .str _, _, h => by simpa [VR] using h
  | .tup ds, _, h => by
    simp only [VR] at h ⊢
    obtain ⟨x, vs, e, h1, h2⟩ := h
    exact ⟨x, vs, e, a.tup _ _ h1, VRs.weak a h2⟩
  | .fz ds, _, h => by
    simp only [VR] at h ⊢
    obtain ⟨x, vs, e, h1, h2⟩ := h
    exact ⟨x, vs, e, a.fzl h1, VRs.weak a h2⟩
  | .ref n, _, h => by
    simp only [VR] at h ⊢
    obtain ⟨x, h1, e⟩ := h
    exact ⟨x, a.at h1, e⟩
  | .obj c fs, _, h => by
    simp only [VR] at h ⊢
    obtain ⟨x, dx, gs, e, h1, h2, h3⟩ := h
    exact ⟨x, dx, gs, e, a.out h1 h2, a.keep _ _ h1 h2, VRf.weak a h3⟩
theorem VRf.weak (a : Aw K μ H μ' H') : ∀ {ds : List (Str × Dv)} {vs : List (Str × V)}, VRf K H μ ds vs → VRf K H' μ' ds vs
  | [], _, h => by simpa [VRf] using h
  | (f, d) :: ds, _, h => by
    simp only [VRf] at h ⊢
    obtain ⟨v, r, e, h1, h2⟩ := h
    exact ⟨v, r, e, VR.weak a h1, VRf.weak a h2⟩
theorem VRs.weak (a : Aw K μ H μ' H') : ∀ {ds : List Dv} {vs : List V}, VRs K H μ ds vs → VRs K H' μ' ds vs
  | [], _, h => by simpa [VRs] using h
  | d :: ds, _, h => by
    simp only [VRs] at h ⊢
    obtain ⟨v, r, e, h1, h2⟩ := h
    exact ⟨v, r, e, VR.weak a h1, VRs.weak a h2⟩
end
theorem VR.mono (a : Aft K μ H μ' H') {d : Dv} {v : V} (h : VR K H μ d v) : VR K H' μ' d v := h.weak a.aw
theorem VRs.mono (a : Aft K μ H μ' H') {ds : List Dv} {vs : List V} (h : VRs K H μ ds vs) : VRs K H' μ' ds vs := h.weak a.aw
theorem VRf.mono (a : Aft K μ H μ' H') {ds : List (Str × Dv)} {vs : List (Str × V)} (h : VRf K H μ ds vs) : VRf K H' μ' ds vs := h.weak a.aw
@[simp] theorem VR_non {v : V} : VR K H μ .non v ↔ v = .non := by simp [VR]
@[simp] theorem VR_bl {b : Bool} {v : V} : VR K H μ (.bl b) v ↔ v = .bl b := by simp [VR]
@[simp] theorem VR_int {i : Int} {v : V} : VR K H μ (.int i) v ↔ v = .int i := by simp [VR]
@[simp] theorem VR_str {x : Str} {v : V} : VR K H μ (.str x) v ↔ v = .str x := by simp [VR]
theorem VR_tup {ds : List Dv} {v : V} : VR K H μ (.tup ds) v ↔ ∃ a vs, v = .ref a ∧ SqT K H a vs ∧ VRs K H μ ds vs := by simp [VR]
theorem VR_fz {ds : List Dv} {v : V} : VR K H μ (.fz ds) v ↔ ∃ a vs, v = .ref a ∧ Fzl K H μ a vs ∧ VRs K H μ ds vs := by simp [VR]
theorem VR_ref {n : Nat} {v : V} : VR K H μ (.ref n) v ↔ ∃ a, μ.tr[n]? = some a ∧ v = .ref a := by simp [VR]
theorem VR_obj {c : Nat} {fs : List (Str × Dv)} {v : V} : VR K H μ (.obj c fs) v ↔ ∃ a dx gs, v = .ref a ∧ μ.out a ∧ H a = some (.ins (clsA K c) dx gs) ∧ VRf K H μ fs gs := by simp [VR]
theorem VRf_nil {gs : List (Str × V)} : VRf K H μ [] gs ↔ gs = [] := by simp [VRf]
theorem VRf_cons {f : Str} {d : Dv} {fs : List (Str × Dv)} {gs : List (Str × V)} : VRf K H μ ((f, d) :: fs) gs ↔ ∃ v r, gs = (f, v) :: r ∧ VR K H μ d v ∧ VRf K H μ fs r := by simp [VRf]
theorem VRs_nil {vs : List V} : VRs K H μ [] vs ↔ vs = [] := by simp [VRs]
theorem VRs_cons {d : Dv} {ds : List Dv} {vs : List V} : VRs K H μ (d :: ds) vs ↔ ∃ v r, vs = v :: r ∧ VR K H μ d v ∧ VRs K H μ ds r := by simp [VRs]
theorem VRs.length : ∀ {ds : List Dv} {vs : List V}, VRs K H μ ds vs → ds.length = vs.length
  | [], _, h => by rw [VRs_nil.mp h]; rfl
  | d :: ds, _, h => by
    obtain ⟨v, r, rfl, _, h2⟩ := VRs_cons.mp h
    simp [VRs.length h2]
theorem VRs.get : ∀ {ds : List Dv} {vs : List V} {i : Nat} {d : Dv}, VRs K H μ ds vs → ds[i]? = some d → ∃ v, vs[i]? = some v ∧ VR K H μ d v
  | [], _, _, _, _, e => by simp at e
  | d :: ds, _, 0, _, h, e => by
    obtain ⟨v, r, rfl, h1, h2⟩ := VRs_cons.mp h
    simp at e
    subst e
    exact ⟨v, rfl, h1⟩
  | d :: ds, _, i + 1, _, h, e => by
    obtain ⟨v, r, rfl, h1, h2⟩ := VRs_cons.mp h
    obtain ⟨w, q1, q2⟩ := VRs.get (i := i) h2 (by simpa using e)
    exact ⟨w, by simpa using q1, q2⟩
theorem VRs.get' : ∀ {ds : List Dv} {vs : List V} {i : Nat} {v : V}, VRs K H μ ds vs → vs[i]? = some v → ∃ d, ds[i]? = some d ∧ VR K H μ d v := fun {ds vs i v} h e => by
  have hi : i < ds.length := by rw [h.length]; exact (List.getElem?_eq_some_iff.mp e).1
  obtain ⟨w, e2, r⟩ := h.get (List.getElem?_eq_getElem hi)
  rw [e] at e2
  cases e2
  exact ⟨_, List.getElem?_eq_getElem hi, r⟩
theorem VRs.of_get : ∀ {ds : List Dv} {vs : List V}, ds.length = vs.length → (∀ (i : Nat) (d : Dv) (v : V), ds[i]? = some d → vs[i]? = some v → VR K H μ d v) → VRs K H μ ds vs
  | [], [], _, _ => VRs_nil.mpr rfl
  | [], _ :: _, h, _ => by simp at h
  | _ :: _, [], h, _ => by simp at h
  | d :: ds, v :: vs, h, g => VRs_cons.mpr ⟨v, vs, rfl, g 0 d v rfl rfl, VRs.of_get (by simpa using h) fun i d v h1 h2 => g (i + 1) d v (by simpa using h1) (by simpa using h2)⟩
theorem VRs.append : ∀ {ds es : List Dv} {vs ws : List V}, VRs K H μ ds vs → VRs K H μ es ws → VRs K H μ (ds ++ es) (vs ++ ws)
  | [], _, _, _, h, h' => by rw [VRs_nil.mp h]; exact h'
  | d :: ds, _, _, _, h, h' => by
    obtain ⟨v, r, rfl, h1, h2⟩ := VRs_cons.mp h
    exact VRs_cons.mpr ⟨v, _, rfl, h1, VRs.append h2 h'⟩
theorem VRs.take : ∀ {ds : List Dv} {vs : List V} (n : Nat), VRs K H μ ds vs → VRs K H μ (ds.take n) (vs.take n)
  | [], _, n, h => by rw [VRs_nil.mp h]; simp [VRs_nil]
  | _ :: _, _, 0, h => by simp [VRs_nil]
  | d :: ds, _, n + 1, h => by
    obtain ⟨v, r, rfl, h1, h2⟩ := VRs_cons.mp h
    exact VRs_cons.mpr ⟨v, _, rfl, h1, VRs.take n h2⟩
theorem VRs.drop : ∀ {ds : List Dv} {vs : List V} (n : Nat), VRs K H μ ds vs → VRs K H μ (ds.drop n) (vs.drop n)
  | [], _, n, h => by rw [VRs_nil.mp h]; simp [VRs_nil]
  | _ :: _, _, 0, h => h
  | d :: ds, _, n + 1, h => by
    obtain ⟨v, r, rfl, h1, h2⟩ := VRs_cons.mp h
    exact VRs.drop n h2
theorem VRs.set : ∀ {ds : List Dv} {vs : List V} {d : Dv} {v : V} (n : Nat), VRs K H μ ds vs → VR K H μ d v → VRs K H μ (ds.set n d) (vs.set n v)
  | [], _, _, _, n, h, _ => by rw [VRs_nil.mp h]; simp [VRs_nil]
  | _ :: _, _, _, _, 0, h, q => by
    obtain ⟨v, r, rfl, h1, h2⟩ := VRs_cons.mp h
    exact VRs_cons.mpr ⟨_, _, rfl, q, h2⟩
  | d :: ds, _, _, _, n + 1, h, q => by
    obtain ⟨v, r, rfl, h1, h2⟩ := VRs_cons.mp h
    exact VRs_cons.mpr ⟨_, _, rfl, h1, VRs.set n h2 q⟩
theorem VRs.reverse {ds : List Dv} {vs : List V} (h : VRs K H μ ds vs) : VRs K H μ ds.reverse vs.reverse := by
  refine VRs.of_get (by simp [h.length]) fun i d v h1 h2 => ?_
  have hl := h.length
  have i1 : i < ds.length := by have := (List.getElem?_eq_some_iff.mp h1).1; simpa using this
  rw [List.getElem?_reverse i1] at h1
  rw [List.getElem?_reverse (by omega)] at h2
  obtain ⟨w, e, r⟩ := h.get h1
  rw [hl, h2] at e
  cases e
  exact r
theorem VRs.rep {ds : List Dv} {vs : List V} (h : VRs K H μ ds vs) : ∀ k : Nat, VRs K H μ (List.replicate k ds).flatten (List.replicate k vs).flatten
  | 0 => VRs_nil.mpr rfl
  | k + 1 => by
    rw [List.replicate_succ, List.replicate_succ, List.flatten_cons, List.flatten_cons]
    exact h.append (VRs.rep h k)
theorem VRs.ints : ∀ {ns : List Int} {vs : List V}, VRs K H μ (ns.map Dv.int) vs ↔ vs = ns.map V.int
  | [], _ => by simp [VRs_nil]
  | n :: ns, vs => by
    rw [List.map_cons, List.map_cons, VRs_cons]
    constructor
    · rintro ⟨v, r, rfl, h1, h2⟩
      rw [VR_int.mp h1, VRs.ints.mp h2]
    · rintro rfl
      exact ⟨_, _, rfl, VR_int.mpr rfl, VRs.ints.mpr rfl⟩
end

section
variable {K : PySem.W.Frag} {H H' : Hp} {μ : Mu}
mutual
theorem VR.chg (tup : ∀ x xs, SqT K H x xs → SqT K H' x xs) (fz : ∀ x xs, Fzl K H μ x xs → Fzl K H' μ x xs) (ob : ∀ x c dx gs, μ.out x → H x = some (.ins (clsA K c) dx gs) → H' x = some (.ins (clsA K c) dx gs)) : ∀ {d : Dv} {v : V}, VR K H μ d v → VR K H' μ d v
  | .non, _, h => by simpa [VR] using h
  | .bl _, _, h => by simpa [VR] using h
  | .int _, _, h => by simpa [VR] using h
  | .str _, _, h => by simpa [VR] using h
  | .tup ds, _, h => by
    obtain ⟨x, vs, e, h1, h2⟩ := VR_tup.mp h
    exact VR_tup.mpr ⟨x, vs, e, tup _ _ h1, VRs.chg tup fz ob h2⟩
  | .fz ds, _, h => by
    obtain ⟨x, vs, e, h1, h2⟩ := VR_fz.mp h
    exact VR_fz.mpr ⟨x, vs, e, fz _ _ h1, VRs.chg tup fz ob h2⟩
  | .ref n, _, h => by
    obtain ⟨x, h1, e⟩ := VR_ref.mp h
    exact VR_ref.mpr ⟨x, h1, e⟩
  | .obj c fs, _, h => by
    obtain ⟨x, dx, gs, e, h1, h2, h3⟩ := VR_obj.mp h
    exact VR_obj.mpr ⟨x, dx, gs, e, h1, ob _ _ _ _ h1 h2, VRf.chg tup fz ob h3⟩
theorem VRs.chg (tup : ∀ x xs, SqT K H x xs → SqT K H' x xs) (fz : ∀ x xs, Fzl K H μ x xs → Fzl K H' μ x xs) (ob : ∀ x c dx gs, μ.out x → H x = some (.ins (clsA K c) dx gs) → H' x = some (.ins (clsA K c) dx gs)) : ∀ {ds : List Dv} {vs : List V}, VRs K H μ ds vs → VRs K H' μ ds vs
  | [], _, h => by simpa [VRs] using h
  | d :: ds, _, h => by
    obtain ⟨v, r, e, h1, h2⟩ := VRs_cons.mp h
    exact VRs_cons.mpr ⟨v, r, e, VR.chg tup fz ob h1, VRs.chg tup fz ob h2⟩
theorem VRf.chg (tup : ∀ x xs, SqT K H x xs → SqT K H' x xs) (fz : ∀ x xs, Fzl K H μ x xs → Fzl K H' μ x xs) (ob : ∀ x c dx gs, μ.out x → H x = some (.ins (clsA K c) dx gs) → H' x = some (.ins (clsA K c) dx gs)) : ∀ {ds : List (Str × Dv)} {vs : List (Str × V)}, VRf K H μ ds vs → VRf K H' μ ds vs
  | [], _, h => by simpa [VRf] using h
  | (f, d) :: ds, _, h => by
    obtain ⟨v, r, e, h1, h2⟩ := VRf_cons.mp h
    exact VRf_cons.mpr ⟨v, r, e, VR.chg tup fz ob h1, VRf.chg tup fz ob h2⟩
end
end
section
variable {K : PySem.W.Frag} {H : Hp} {μ μ' : Mu}
mutual
theorem VR.mu (tr : ∀ (n : Nat) (x : Addr), μ.tr[n]? = some x → μ'.tr[n]? = some x) (out : ∀ x, μ.out x → μ'.out x) : ∀ {d : Dv} {v : V}, VR K H μ d v → VR K H μ' d v
  | .non, _, h => by simpa [VR] using h
  | .bl _, _, h => by simpa [VR] using h
  | .int _, _, h => by simpa [VR] using h
  | .str _, _, h => by simpa [VR] using h
  | .tup ds, _, h => by
    obtain ⟨x, vs, e, h1, h2⟩ := VR_tup.mp h
    exact VR_tup.mpr ⟨x, vs, e, h1, VRs.mu tr out h2⟩
  | .fz ds, _, h => by
    obtain ⟨x, vs, e, h1, h2⟩ := VR_fz.mp h
    refine VR_fz.mpr ⟨x, vs, e, ?_, VRs.mu tr out h2⟩
    rcases h1 with h1 | h1 | ⟨h1, z⟩
    · exact .inl h1
    · exact .inr (.inl h1)
    · exact .inr (.inr ⟨h1, out x z⟩)
  | .ref n, _, h => by
    obtain ⟨x, h1, e⟩ := VR_ref.mp h
    exact VR_ref.mpr ⟨x, tr n x h1, e⟩
  | .obj c fs, _, h => by
    obtain ⟨x, dx, gs, e, h1, h2, h3⟩ := VR_obj.mp h
    exact VR_obj.mpr ⟨x, dx, gs, e, out x h1, h2, VRf.mu tr out h3⟩
theorem VRs.mu (tr : ∀ (n : Nat) (x : Addr), μ.tr[n]? = some x → μ'.tr[n]? = some x) (out : ∀ x, μ.out x → μ'.out x) : ∀ {ds : List Dv} {vs : List V}, VRs K H μ ds vs → VRs K H μ' ds vs
  | [], _, h => by simpa [VRs] using h
  | d :: ds, _, h => by
    obtain ⟨v, r, e, h1, h2⟩ := VRs_cons.mp h
    exact VRs_cons.mpr ⟨v, r, e, VR.mu tr out h1, VRs.mu tr out h2⟩
theorem VRf.mu (tr : ∀ (n : Nat) (x : Addr), μ.tr[n]? = some x → μ'.tr[n]? = some x) (out : ∀ x, μ.out x → μ'.out x) : ∀ {ds : List (Str × Dv)} {vs : List (Str × V)}, VRf K H μ ds vs → VRf K H μ' ds vs
  | [], _, h => by simpa [VRf] using h
  | (f, d) :: ds, _, h => by
    obtain ⟨v, r, e, h1, h2⟩ := VRf_cons.mp h
    exact VRf_cons.mpr ⟨v, r, e, VR.mu tr out h1, VRf.mu tr out h2⟩
end
end
/-! ### objects -/
def KRs (K : PySem.W.Frag) (H : Hp) (μ : Mu) {κ : Type} : List (κ × Dv) → List (κ × V) → Prop
  | [], l => l = []
  | (k, d) :: r, l => ∃ v t, l = (k, v) :: t ∧ VR K H μ d v ∧ KRs K H μ r t
theorem KRs.weak {K : PySem.W.Frag} {H H' : Hp} {μ μ' : Mu} {κ : Type} (a : Aw K μ H μ' H') : ∀ {l : List (κ × Dv)} {m : List (κ × V)}, KRs K H μ l m → KRs K H' μ' l m
  | [], _, h => h
  | (k, d) :: r, _, h => by
    obtain ⟨v, t, rfl, h1, h2⟩ := h
    exact ⟨v, t, rfl, h1.weak a, KRs.weak a h2⟩
theorem KRs.mono {K : PySem.W.Frag} {H H' : Hp} {μ μ' : Mu} {κ : Type} (a : Aft K μ H μ' H') {l : List (κ × Dv)} {m : List (κ × V)} (h : KRs K H μ l m) : KRs K H' μ' l m := h.weak a.aw
theorem VRf_KRs {K : PySem.W.Frag} {H : Hp} {μ : Mu} : ∀ {l : List (Str × Dv)} {m : List (Str × V)}, VRf K H μ l m ↔ KRs K H μ l m
  | [], _ => by simp [VRf, KRs]
  | (k, d) :: r, m => by
    rw [VRf_cons]
    constructor
    · rintro ⟨v, t, e, h1, h2⟩
      exact ⟨v, t, e, h1, VRf_KRs.mp h2⟩
    · rintro ⟨v, t, e, h1, h2⟩
      exact ⟨v, t, e, h1, VRf_KRs.mpr h2⟩
def OR (K : PySem.W.Frag) (C : Nat → Addr) (H : Hp) (μ : Mu) : Ob → HO → Prop
  | .lst ds, ho => ∃ vs, ho = .lst vs ∧ VRs K H μ ds vs
  | .dic kvs, ho => ∃ kws, ho = .dK kws ∧ KRs K H μ kvs kws
  | .ldic kvs, ho => ∃ o kws, ho = .frz o (.dK kws) ∧ KRs K H μ kvs kws
  | .ins c fs, ho => ∃ dx gs, ho = .ins (clsA K c) dx gs ∧ KRs K H μ fs gs
theorem OR.weak {K : PySem.W.Frag} {C : Nat → Addr} {H H' : Hp} {μ μ' : Mu} (a : Aw K μ H μ' H') : ∀ {o : Ob} {ho : HO}, OR K C H μ o ho → OR K C H' μ' o ho
  | .lst _, _, ⟨vs, e, h⟩ => ⟨vs, e, h.weak a⟩
  | .dic _, _, ⟨vs, e, h⟩ => ⟨vs, e, h.weak a⟩
  | .ldic _, _, ⟨o, vs, e, h⟩ => ⟨o, vs, e, h.weak a⟩
  | .ins _ _, _, ⟨dx, vs, e, h⟩ => ⟨dx, vs, e, h.weak a⟩
theorem OR.mono {K : PySem.W.Frag} {C : Nat → Addr} {H H' : Hp} {μ μ' : Mu} (a : Aft K μ H μ' H') {o : Ob} {ho : HO} (h : OR K C H μ o ho) : OR K C H' μ' o ho := h.weak a.aw
/-- the store is held by the heap -/
structure SR (K : PySem.W.Frag) (C : Nat → Addr) (μ : Mu) (S : Sto) (H : Hp) : Prop where
  len : μ.tr.length = S.length
  nd : μ.tr.Nodup
  hids : ∀ x ∈ μ.hd, H x ≠ none
  apart : ∀ x ∈ μ.hd, x ∉ μ.tr
  ob : ∀ (n : Nat) (o : Ob) (a : Addr), S[n]? = some o → μ.tr[n]? = some a → ∃ ho, H a = some ho ∧ OR K C H μ o ho
/-- what may be overwritten (or is free): no tuple, no list that is only read -/
def Soft : Option HO → Prop
  | some (.tup _) => False
  | some (.frz _ _) => False
  | _ => True
theorem Aw.upd {K : PySem.W.Frag} {H : Hp} {μ : Mu} {p : Addr} {o : HO} (h : Soft (H p)) (hm : ¬ μ.out p ∨ H p = none) : Aw K μ H μ (L2.upd H p o) := by
  refine ⟨⟨[], by simp, by simp⟩, fun _ _ h _ => h, fun a x n e => ?_, fun a n => ?_, fun a xs q => ?_, fun a o xs q => ?_⟩
  · rw [upd_ne]
    · exact e
    · rintro rfl
      rcases hm with z | z
      · exact z n
      · rw [z] at e
        cases e
  · by_cases e : a = p
    · subst e
      rw [upd_same]
      exact Option.some_ne_none _
    · rw [upd_ne e]
      exact n
  · rcases q with (q | ⟨ob, q⟩) | q
    · refine .inl (.inl ?_)
      rw [upd_ne]
      · exact q
      · rintro rfl
        rw [q] at h
        exact h
    · refine .inl (.inr ⟨ob, ?_⟩)
      rw [upd_ne]
      · exact q
      · rintro rfl
        rw [q] at h
        exact h
    · exact .inr q
  · rw [upd_ne]
    · exact q
    · rintro rfl
      rw [q] at h
      exact h
theorem Aft.upd {K : PySem.W.Frag} {H : Hp} {μ : Mu} {p : Addr} {o : HO} (h : Soft (H p)) (hm : p ∈ μ.tr ∨ H p = none) : Aft K μ H μ (L2.upd H p o) := by
  refine ⟨.upd h (hm.imp (fun z n => n.1 z) id), rfl, fun a x n e => ?_⟩
  rw [upd_ne]
  · exact e
  · rintro rfl
    rcases hm with z | z
    · exact n z
    · rw [z] at e
      cases e
theorem Aft.new {K : PySem.W.Frag} {H : Hp} {μ : Mu} {p : Addr} {o : HO} (h : H p = none) : Aft K μ H μ (L2.upd H p o) := Aft.upd (by rw [h]; trivial) (.inr h)
theorem Aft.add {K : PySem.W.Frag} {H : Hp} {μ : Mu} {p : Addr} (h : H p = none) : Aft K μ H (μ.add p) H :=
  ⟨⟨⟨[p], rfl, by simpa using h⟩, fun _ _ h _ => h, fun _ _ _ h => h, fun _ h => h, fun _ _ h => h, fun _ _ _ h => h⟩, rfl, fun _ _ _ h => h⟩
section
variable {K : PySem.W.Frag} {C : Nat → Addr} {H : Hp} {μ : Mu} {S : Sto}
theorem SR.at (s : SR K C μ S H) {n : Nat} {o : Ob} (h : S[n]? = some o) : ∃ a ho, μ.tr[n]? = some a ∧ H a = some ho ∧ OR K C H μ o ho := by
  have hn : n < μ.tr.length := by rw [s.len]; exact (List.getElem?_eq_some_iff.mp h).1
  obtain ⟨ho, h1, h2⟩ := s.ob n o _ h (List.getElem?_eq_getElem hn)
  exact ⟨_, ho, List.getElem?_eq_getElem hn, h1, h2⟩
theorem SR.tracked (s : SR K C μ S H) {n : Nat} {a : Addr} (h : μ.tr[n]? = some a) : ∃ ho, H a = some ho := by
  have hn : n < S.length := by rw [← s.len]; exact (List.getElem?_eq_some_iff.mp h).1
  obtain ⟨ho, h1, h2⟩ := s.ob n _ a (List.getElem?_eq_getElem hn) h
  exact ⟨ho, h1⟩
/-- the heap has moved on, the store is as it was -/
theorem SR.keep {H' : Hp} (s : SR K C μ S H) (a : Aft K μ H μ H') (k : ∀ (n : Nat) (x : Addr), μ.tr[n]? = some x → H' x = H x) : SR K C μ S H' :=
  ⟨s.len, s.nd, fun x hx => a.aw.there x (s.hids x hx), s.apart, fun n o x h1 h2 => by
    obtain ⟨ho, e, r⟩ := s.ob n o x h1 h2
    exact ⟨ho, (k n x h2).trans e, r.mono a⟩⟩
/-- an untracked thing is laid -/
theorem SR.lay (s : SR K C μ S H) {p : Addr} {o : HO} (h : H p = none) : SR K C μ S (L2.upd H p o) :=
  s.keep (Aft.new h) fun n x e => upd_ne (by
    rintro rfl
    obtain ⟨ho, q⟩ := s.tracked e
    rw [h] at q
    cases q)
theorem SR.alloc_aft (s : SR K C μ S H) {p : Addr} {ho : HO} (h : H p = none) : Aft K μ H (μ.add p) (L2.upd H p ho) :=
  (Aft.add h).trans (Aft.upd (by rw [h]; trivial) (.inl (by simp [Mu.add])))
/-- a new object of the store -/
theorem SR.alloc (s : SR K C μ S H) {p : Addr} {o : Ob} {ho : HO} (h : H p = none) (r : OR K C (L2.upd H p ho) (μ.add p) o ho) : SR K C (μ.add p) (S ++ [o]) (L2.upd H p ho) := by
  have af := s.alloc_aft (ho := ho) h
  refine ⟨by simp [s.len, Mu.add], ?_, fun x hx => af.aw.there x (s.hids x hx), fun x hx => ?_, fun n q x h1 h2 => ?_⟩
  · simp only [Mu.add]
    rw [List.nodup_append]
    refine ⟨s.nd, by simp, fun x hx y hy e => ?_⟩
    simp at hy
    subst hy e
    obtain ⟨n, e⟩ := List.getElem?_of_mem hx
    obtain ⟨_, q⟩ := s.tracked e
    rw [h] at q
    cases q
  · simp only [Mu.add, List.mem_append, not_or]
    refine ⟨s.apart x hx, fun z => ?_⟩
    simp at z
    subst z
    exact s.hids x hx h
  · simp only [Mu.add] at h2
    by_cases hn : n < S.length
    · rw [List.getElem?_append_left hn] at h1
      rw [List.getElem?_append_left (by rw [s.len]; exact hn)] at h2
      obtain ⟨hq, e, r⟩ := s.ob n q x h1 h2
      refine ⟨hq, ?_, r.mono af⟩
      rw [upd_ne]
      · exact e
      · rintro rfl
        rw [h] at e
        cases e
    · have e : n = S.length := by
        have := (List.getElem?_eq_some_iff.mp h1).1
        simp at this
        omega
      subst e
      rw [List.getElem?_append_right (Nat.le_refl _)] at h1
      rw [List.getElem?_append_right (by rw [s.len]; exact Nat.le_refl _), s.len] at h2
      simp at h1 h2
      subst h1 h2
      exact ⟨ho, upd_same, r⟩
/-- an object of the store is overwritten -/
theorem SR.put (s : SR K C μ S H) {n : Nat} {a : Addr} {o : Ob} {ho : HO} (h : μ.tr[n]? = some a) (so : Soft (H a)) (r : OR K C (L2.upd H a ho) μ o ho) : SR K C μ (S.set n o) (L2.upd H a ho) := by
  have af : Aft K μ H μ (L2.upd H a ho) := by
    exact Aft.upd so (.inl (List.mem_of_getElem? h))
  refine ⟨by simp [s.len], s.nd, fun x hx => af.aw.there x (s.hids x hx), s.apart, fun m q x h1 h2 => ?_⟩
  by_cases e : m = n
  · subst e
    have hl : m < S.length := by
      have := (List.getElem?_eq_some_iff.mp h1).1
      simpa using this
    rw [List.getElem?_set_self hl] at h1
    rw [h] at h2
    cases h1
    cases h2
    exact ⟨ho, upd_same, r⟩
  · rw [List.getElem?_set_ne (Ne.symm e)] at h1
    obtain ⟨hq, e1, r1⟩ := s.ob m q x h1 h2
    refine ⟨hq, ?_, r1.mono af⟩
    rw [upd_ne]
    · exact e1
    · rintro rfl
      exact e (nodup_ix' s.nd h2 h)
where
  nodup_ix' {l : List Addr} (hN : l.Nodup) {i j : Nat} {x : Addr} (a : l[i]? = some x) (b : l[j]? = some x) : i = j := by
    obtain ⟨h1, e1⟩ := List.getElem?_eq_some_iff.mp a
    obtain ⟨h2, e2⟩ := List.getElem?_eq_some_iff.mp b
    exact (List.getElem_inj hN).mp (e1.trans e2.symm)
theorem SR.put_aft (s : SR K C μ S H) {n : Nat} {a : Addr} {ho : HO} (h : μ.tr[n]? = some a) (so : Soft (H a)) : Aft K μ H μ (L2.upd H a ho) := Aft.upd so (.inl (List.mem_of_getElem? h))
end

/-- what is known still holds, the things of the store are as they were -/
theorem SR.keepw {K : PySem.W.Frag} {C : Nat → Addr} {H H' : Hp} {μ μ' : Mu} {S : Sto} (s : SR K C μ S H) (a : Aw K μ H μ' H') (e : μ'.tr = μ.tr) (k : ∀ (n : Nat) (x : Addr), μ.tr[n]? = some x → H' x = H x) (hh : ∀ x ∈ μ'.hd, H' x ≠ none ∧ x ∉ μ.tr) : SR K C μ' S H' :=
  ⟨by rw [e]; exact s.len, by rw [e]; exact s.nd, fun x hx => (hh x hx).1, fun x hx => by rw [e]; exact (hh x hx).2, fun n o x h1 h2 => by
    rw [e] at h2
    obtain ⟨ho, q, r⟩ := s.ob n o x h1 h2
    exact ⟨ho, (k n x h2).trans q, r.weak a⟩⟩
theorem SR.notin {K : PySem.W.Frag} {C : Nat → Addr} {H : Hp} {μ : Mu} {S : Sto} (s : SR K C μ S H) {p : Addr} (h : H p = none) : p ∉ μ.tr := fun hm => by
  obtain ⟨n, e⟩ := List.getElem?_of_mem hm
  obtain ⟨_, q⟩ := s.tracked e
  rw [h] at q
  cases q
/-- a place is hidden -/
theorem Aw.hide {K : PySem.W.Frag} {H : Hp} {μ : Mu} {p : Addr} {o : HO} (h : H p = none) : Aw K μ H (μ.hide p) (L2.upd H p o) := by
  refine ⟨⟨[], by simp [Mu.hide], by simp⟩, fun x o' n e => ?_, fun a x n e => ?_, fun a n => ?_, fun a xs q => ?_, fun a o xs q => ?_⟩
  · simp only [Mu.hide, List.mem_cons, not_or]
    refine ⟨?_, n⟩
    rintro rfl
    rw [h] at e
    cases e
  · rw [upd_ne]
    · exact e
    · rintro rfl
      rw [h] at e
      cases e
  · by_cases e : a = p
    · subst e
      exact absurd h n
    · rw [upd_ne e]
      exact n
  · exact ((Aft.new (K := K) (μ := μ) h).aw.tup a xs q)
  · exact ((Aft.new (K := K) (μ := μ) h).aw.frz a o xs q)
theorem Aw.unhide {K : PySem.W.Frag} {H : Hp} {μ : Mu} {l : List Addr} (h : ∀ x ∈ l, x ∈ μ.hd) : Aw K μ H ⟨μ.tr, l⟩ H :=
  ⟨⟨[], by simp, by simp⟩, fun x _ n _ z => n (h x z), fun _ _ _ e => e, fun _ e => e, fun _ _ e => e, fun _ _ _ e => e⟩
theorem Aft.unh {K : PySem.W.Frag} {H H' : Hp} {μ μ' : Mu} (a : Aft K μ H μ' H') (l : List Addr) : Aft K ⟨μ.tr, l⟩ H ⟨μ'.tr, l⟩ H' :=
  ⟨⟨a.aw.pre, fun _ _ h _ => h, fun x o n e => a.all x o n.1 e, a.aw.there, a.aw.tup, a.aw.frz⟩, rfl, a.all⟩
/-- what was locked is open again -/
theorem Aft.unlock {K : PySem.W.Frag} {H H' : Hp} {μ μ' : Mu} {p : Addr} {o : Obj} {u u' : HO} (a : Aft K μ (L2.upd H p (.frz o u)) μ' H') (hp : p ∈ μ.tr) (h : Soft (H p)) (hn : H p ≠ none) : Aft K μ H μ' (L2.upd H' p u') := by
  have ne : ∀ x q, H x = some q → x ≠ p → L2.upd H p (.frz o u) x = some q := fun x q e n => by rw [upd_ne n]; exact e
  have hf : H' p = some (.frz o u) := a.aw.frz p o u upd_same
  refine ⟨⟨?_, fun x q n e => ?_, fun x q n e => ?_, fun x n => ?_, fun x xs q => ?_, fun x o2 u2 q => ?_⟩, a.hid, fun x q n e => ?_⟩
  · obtain ⟨ν, e1, e2⟩ := a.aw.pre
    refine ⟨ν, e1, fun x hx => ?_⟩
    have z := e2 x hx
    by_cases e : x = p
    · subst e
      rw [upd_same] at z
      cases z
    · rwa [upd_ne e] at z
  · by_cases e2 : x = p
    · subst e2
      exact a.aw.hd x _ n upd_same
    · exact a.aw.hd x q n (ne x q e e2)
  · have e2 : x ≠ p := by rintro rfl; exact n.1 hp
    rw [upd_ne e2]
    exact a.aw.keep x q n (ne x q e e2)
  · by_cases e : x = p
    · subst e
      rw [upd_same]
      exact Option.some_ne_none _
    · rw [upd_ne e]
      exact a.aw.there x (by rw [upd_ne e]; exact n)
  · rcases q with (q | ⟨ob, q⟩) | q
    · have e2 : x ≠ p := by rintro rfl; rw [q] at h; exact h
      rcases a.aw.tup x xs (.inl (.inl (ne x _ q e2))) with (z | ⟨ob, z⟩) | z
      · exact .inl (.inl (by rw [upd_ne e2]; exact z))
      · exact .inl (.inr ⟨ob, by rw [upd_ne e2]; exact z⟩)
      · exact .inr z
    · have e2 : x ≠ p := by rintro rfl; rw [q] at h; exact h
      rcases a.aw.tup x xs (.inl (.inr ⟨ob, ne x _ q e2⟩)) with (z | ⟨ob, z⟩) | z
      · exact .inl (.inl (by rw [upd_ne e2]; exact z))
      · exact .inl (.inr ⟨ob, by rw [upd_ne e2]; exact z⟩)
      · exact .inr z
    · exact .inr q
  · have e2 : x ≠ p := by rintro rfl; rw [q] at h; exact h
    rw [upd_ne e2]
    exact a.aw.frz x o2 u2 (ne x _ q e2)
  · have e2 : x ≠ p := by rintro rfl; exact n hp
    rw [upd_ne e2]
    exact a.all x q n (ne x q e e2)
theorem Aft.patch {K : PySem.W.Frag} {H H' : Hp} {μ μ' : Mu} (a : Aft K μ H μ' H') {p : Addr} {o : HO} (h : H p = none) : Aft K μ H μ' (L2.upd H' p o) := by
  have ne : ∀ x q, H x = some q → x ≠ p := by
    rintro x q e rfl
    rw [h] at e
    cases e
  refine ⟨⟨a.aw.pre, a.aw.hd, fun x q n e => ?_, fun x n => ?_, fun x xs q => ?_, fun x o xs q => ?_⟩, a.hid, fun x q n e => ?_⟩
  · rw [upd_ne (ne x q e)]
    exact a.aw.keep x q n e
  · by_cases e : x = p
    · subst e
      exact absurd h n
    · rw [upd_ne e]
      exact a.aw.there x n
  · have e2 : x = p → ∃ r, K.lookup x = some r := fun e => by
      rcases q with (q | ⟨ob, q⟩) | ⟨_, _, _, q, _⟩
      · exact absurd e (ne _ _ q)
      · exact absurd e (ne _ _ q)
      · exact ⟨_, q⟩
    rcases q with (q | ⟨ob, q⟩) | q
    · have z := a.aw.tup x xs (.inl (.inl q))
      have nx := ne _ _ q
      rcases z with (z | ⟨ob, z⟩) | z
      · exact .inl (.inl (by rw [upd_ne nx]; exact z))
      · exact .inl (.inr ⟨ob, by rw [upd_ne nx]; exact z⟩)
      · exact .inr z
    · have z := a.aw.tup x xs (.inl (.inr ⟨ob, q⟩))
      have nx := ne _ _ q
      rcases z with (z | ⟨ob, z⟩) | z
      · exact .inl (.inl (by rw [upd_ne nx]; exact z))
      · exact .inl (.inr ⟨ob, by rw [upd_ne nx]; exact z⟩)
      · exact .inr z
    · exact .inr q
  · rw [upd_ne (ne _ _ q)]
    exact a.aw.frz x o xs q
  · rw [upd_ne (ne x q e)]
    exact a.all x q n e
/-! ### a state: locals and store -/
structure Rl (K : PySem.W.Frag) (C : Nat → Addr) (μ : Mu) (ρ : Ev) (S : Sto) (σ : L2.St) (H : Hp) : Prop where
  sr : SR K C μ S H
  len : ρ.length = σ.length
  sl : ∀ (i : Nat) (d : Dv), ρ[i]? = some (some d) → ∃ v, σ[i]? = some (some v) ∧ VR K H μ d v
section
variable {K : PySem.W.Frag} {C : Nat → Addr} {H H' H1 : Hp} {μ μ' μ1 : Mu} {S S' : Sto} {ρ : Ev} {σ : L2.St} {W : WX} {α β : Type}
theorem Rl.next (r : Rl K C μ ρ S σ H) (a : Aft K μ H μ' H') (s : SR K C μ' S' H') : Rl K C μ' ρ S' σ H' :=
  ⟨s, r.len, fun i d e => by
    obtain ⟨v, h1, h2⟩ := r.sl i d e
    exact ⟨v, h1, h2.mono a⟩⟩
theorem Rl.weak (r : Rl K C μ ρ S σ H) (a : Aw K μ H μ' H') (s : SR K C μ' S' H') : Rl K C μ' ρ S' σ H' :=
  ⟨s, r.len, fun i d e => by
    obtain ⟨v, h1, h2⟩ := r.sl i d e
    exact ⟨v, h1, h2.weak a⟩⟩
/-- a piece's end, told of the heap. P: how its answer stands there -/
def tR (K : PySem.W.Frag) (C : Nat → Addr) (W : WX) (P : Mu → Hp → α → β → Prop) (r : Res α) (μ : Mu) (σ : L2.St) (H : Hp) (Q : β → Hp → Prop) : Prop :=
  match r with
  | .ok d S' => ∀ μ' H' v, Aft K μ H μ' H' → SR K C μ' S' H' → P μ' H' d v → Q v H'
  | .exn c S' => ∀ μ' H', Aft K μ H μ' H' → SR K C μ' S' H' → W (.ref (C c)) none σ H'
  | .stuck => False
theorem tR.imp {P : Mu → Hp → α → β → Prop} {r : Res α} {Q Q' : β → Hp → Prop} (h : tR K C W P r μ σ H Q) (k : ∀ v H1, Q v H1 → Q' v H1) : tR K C W P r μ σ H Q' := by
  cases r with
  | ok d S' => exact fun μ' H' v a s q => k _ _ (h μ' H' v a s q)
  | exn c S' => exact h
  | stuck => exact h
theorem tR.aft {P : Mu → Hp → α → β → Prop} {r : Res α} {Q : β → Hp → Prop} (h : tR K C W P r μ σ H Q) (b : Aft K μ H μ1 H1) : tR K C W P r μ1 σ H1 Q := by
  cases r with
  | ok d S' => exact fun μ' H' v a s q => h μ' H' v (b.trans a) s q
  | exn c S' => exact fun μ' H' a s => h μ' H' (b.trans a) s
  | stuck => exact h
theorem tR.bd {γ δ : Type} {P : Mu → Hp → α → β → Prop} {P2 : Mu → Hp → γ → δ → Prop} {r : Res α} {k : α → Sto → Res γ} {Q : δ → Hp → Prop} (h : tR K C W P2 (r.bd k) μ σ H Q) :
    tR K C W P r μ σ H fun v H1 => ∃ μ1 S1 d, Aft K μ H μ1 H1 ∧ SR K C μ1 S1 H1 ∧ P μ1 H1 d v ∧ tR K C W P2 (k d S1) μ1 σ H1 Q := by
  cases r with
  | ok d S' => exact fun μ' H' v a s q => ⟨μ', S', d, a, s, q, tR.aft (r := k d S') h a⟩
  | exn c S' => exact h
  | stuck => exact h
/-- an expression; a test; several expressions -/
abbrev PV (K : PySem.W.Frag) : Mu → Hp → Dv → V → Prop := fun μ H d v => VR K H μ d v
abbrev PB : Mu → Hp → Bool → Bool → Prop := fun _ _ b c => b = c
abbrev PL (K : PySem.W.Frag) : Mu → Hp → List Dv → List V → Prop := fun μ H d v => VRs K H μ d v
def tG (K : PySem.W.Frag) (C : Nat → Addr) (W : WX) (P : Mu → Hp → α → β → Prop) (f : Ev → Sto → Res α) : L2.St → Hp → (β → Hp → Prop) → Prop := fun σ H Q => ∃ μ ρ S, Rl K C μ ρ S σ H ∧ tR K C W P (f ρ S) μ σ H Q
/-- what is asked of a statement -/
def tSt (K : PySem.W.Frag) (C : Nat → Addr) (W : WX) (r : Res Out) (μ : Mu) (H : Hp) (D : Ends) : Prop :=
  match r with
  | .ok (.nx ρ') S' => ∀ μ' σ' H', Aft K μ H μ' H' → Rl K C μ' ρ' S' σ' H' → D.nx σ' H'
  | .ok (.rt d) S' => ∀ μ' H' v, Aft K μ H μ' H' → SR K C μ' S' H' → VR K H' μ' d v → D.rt v H'
  | .ok (.bk ρ') S' => ∀ μ' σ' H', Aft K μ H μ' H' → Rl K C μ' ρ' S' σ' H' → D.bk σ' H'
  | .ok (.ct ρ') S' => ∀ μ' σ' H', Aft K μ H μ' H' → Rl K C μ' ρ' S' σ' H' → D.ct σ' H'
  | .ok (.ex c ρ') S' => ∀ μ' σ' H', Aft K μ H μ' H' → Rl K C μ' ρ' S' σ' H' → W (.ref (C c)) none σ' H'
  | .exn _ _ => False
  | .stuck => False
theorem tSt.aft {r : Res Out} {D : Ends} (h : tSt K C W r μ H D) (b : Aft K μ H μ1 H1) : tSt K C W r μ1 H1 D := by
  cases r with
  | ok o S' => cases o <;> exact fun μ' σ' H' a => h μ' σ' H' (b.trans a)
  | exn c S' => exact h
  | stuck => exact h
end
end Fc

set_option exponentiation.threshold 256
set_option maxHeartbeats 4000000
set_option maxHeartbeats 4000000
/-! FcRules: each construct, told on the abstract machine. -/
namespace Fc
open PySem L2

theorem lim_line : lim ≤ sizeLine := by decide
/-! ### readings weakened -/
section
variable {X : Cx} {e : Expr}
theorem pe_imp {t t' : TE} (h : PE X e t) (k : ∀ σ H Q, t' σ H Q → t σ H Q) : PE X e t' := ⟨fun pins s σ H Q I q => h.run pins s σ H Q I (k _ _ _ q)⟩
theorem pt_imp {t t' : TT} (h : PT X e t) (k : ∀ σ H Q, t' σ H Q → t σ H Q) : PT X e t' := ⟨fun pins s σ H Q I q => h.run pins s σ H Q I (k _ _ _ q)⟩
theorem pw_imp {t t' : TT} (h : PW X e t) (k : ∀ σ H Q, t' σ H Q → t σ H Q) : PW X e t' := ⟨fun wh pins s σ H Q I q => h.run wh pins s σ H Q I (k _ _ _ q)⟩
theorem pa_imp {es : List Expr} {t t' : TA} (h : PA X es t) (k : ∀ σ H Q, t' σ H Q → t σ H Q) : PA X es t' := ⟨fun pos pins s σ H Q I q => h.run pos pins s σ H Q I (k _ _ _ q)⟩
theorem ps_imp {st : Stmt} {t t' : TS} (h : PS X st t) (k : ∀ D σ H, t' D σ H → t D σ H) : PS X st t' := ⟨fun pins s σ H D I q => h.run pins s σ H D I (k _ _ _ q)⟩
theorem pss_imp {st : List Stmt} {t t' : TS} (h : PSs X st t) (k : ∀ D σ H, t' D σ H → t D σ H) : PSs X st t' := ⟨fun pins s σ H D I q => h.run pins s σ H D I (k _ _ _ q)⟩
end
def tS (K : PySem.W.Frag) (C : Nat → Addr) (W : WX) (f : DS) : TS := fun D σ H => ∃ μ ρ S, Rl K C μ ρ S σ H ∧ tSt K C W (f ρ S) μ H D
structure SE (X : Cx) (C : Nat → Addr) (W : WX) (e : Expr) (f : DE) : Prop where
  pe : PE X e (tG X.K C W (PV X.K) f)
structure ST (X : Cx) (C : Nat → Addr) (W : WX) (e : Expr) (f : DT) : Prop where
  pt : PT X e (tG X.K C W PB f)
structure SW (X : Cx) (C : Nat → Addr) (W : WX) (e : Expr) (f : DT) : Prop where
  pw : PW X e (tG X.K C W PB f)
structure SL (X : Cx) (C : Nat → Addr) (W : WX) (es : List Expr) (f : DL) : Prop where
  pa : PA X es (tG X.K C W (PL X.K) f)
structure SS (X : Cx) (C : Nat → Addr) (W : WX) (st : Stmt) (f : DS) : Prop where
  ps : PS X st (tS X.K C W f)
structure SSs (X : Cx) (C : Nat → Addr) (W : WX) (st : List Stmt) (f : DS) : Prop where
  ps : PSs X st (tS X.K C W f)
/-- what holds of a body's context -/
structure Ctx (X : Cx) (W : WX) (k : Nat) : Prop where
  calm : X.calm = true
  room : Room k X.A
  gd : X.A.guards = some []
  tk : Takes X W
  pass : PassesOwn (model X.prog X.w) X.A X.env X.xe
  nd : X.N.Nodup
abbrev W0 : WX := fun _ _ _ _ => False

section
variable {X : Cx} {C : Nat → Addr} {W : WX} {k : Nat} {e a b c : Expr} {es rest : List Expr} {f g h fa fb fc : DE} {t u : DT} {l : DL} {pos p2 p3 : Pos}

/-! ### names, constants -/
def eVar (i : Nat) : DE := fun ρ S => match ρ[i]? with
  | some (some d) => .ok d S
  | _ => .stuck
theorem se_name (i : Nat) {x : Str} (hN : X.N[i]? = some x := by rfl) (hv : Vis X.env.scope x := by first | exact Or.inl rfl | exact Or.inr (Or.inl rfl) | exact Or.inr (Or.inr rfl)) (hd : (x == ("__debug__" : Str)) = false := by decide)
    (hcd : (x == ("__classdict__" : Str)) = false := by decide) : SE X C W (.Name x pos) (eVar i) := by
  refine ⟨pe_imp (pe_var hN hv hd hcd) fun σ H Q q => ?_⟩
  obtain ⟨μ, ρ, S, rl, q⟩ := q
  unfold eVar at q
  split at q
  · rename_i d e
    obtain ⟨v, h1, h2⟩ := rl.sl i d e
    exact ⟨v, h1, q μ H v Aft.refl rl.sr h2⟩
  · exact q.elim
def eC (d : Dv) : DE := fun _ S => .ok d S
theorem se_c {v : V} {d : Dv} (h : PE X e (tC v)) (r : ∀ H μ, VR X.K H μ d v) : SE X C W e (eC d) := by
  refine ⟨pe_imp h fun σ H Q q => ?_⟩
  obtain ⟨μ, ρ, S, rl, q⟩ := q
  exact q μ H v Aft.refl rl.sr (r H μ)
theorem se_int {i : Int} {j} : SE X C W (.Constant (.int i) j pos) (eC (.int i)) := se_c pe_int fun _ _ => VR_int.mpr rfl
theorem se_bl {i : Bool} {j} : SE X C W (.Constant (.bool i) j pos) (eC (.bl i)) := se_c pe_bl fun _ _ => VR_bl.mpr rfl
theorem se_non {j} : SE X C W (.Constant .none j pos) (eC .non) := se_c pe_non fun _ _ => VR_non.mpr rfl
theorem se_str {x : Str} {j} : SE X C W (.Constant (.str x) j pos) (eC (.str x)) := se_c pe_str fun _ _ => VR_str.mpr rfl
/-- a module's constant -/
structure GC (K : PySem.W.Frag) (mg : Str → Option Value) (x : Str) (d : Dv) : Prop where
  is : ∃ u v, mg x = some u ∧ RelV v u ∧ ∀ H μ, VR K H μ d v
theorem se_glob {x : Str} {d : Dv} (hc : GC X.K X.mg x d) (hg : Gl X x := by rfl) (hd : (x == ("__debug__" : Str)) = false := by decide) : SE X C W (.Name x pos) (eC d) := by
  obtain ⟨u, v, h1, h2, h3⟩ := hc.is
  exact se_c (pe_glob hg h1 h2 hd) h3

/-! ### displays -/
def lNil : DL := fun _ S => .ok [] S
def lCons (f : DE) (l : DL) : DL := fun ρ S => (f ρ S).bd fun d S1 => (l ρ S1).bd fun ds S2 => .ok (d :: ds) S2
theorem sl_nil : SL X C W [] lNil := by
  refine ⟨pa_imp pa_nil fun σ H Q q => ?_⟩
  obtain ⟨μ, ρ, S, rl, q⟩ := q
  exact q μ H [] Aft.refl rl.sr (VRs_nil.mpr rfl)
theorem sl_cons (h1 : SE X C W e f) (h2 : SL X C W es l) (hs : starEach (e :: es) X.env = (false, eval e X.env) :: starEach es X.env := by rfl) : SL X C W (e :: es) (lCons f l) := by
  refine ⟨pa_imp (pa_cons h1.pe h2.pa hs) fun σ H Q q => ?_⟩
  obtain ⟨μ, ρ, S, rl, q⟩ := q
  refine ⟨μ, ρ, S, rl, (tR.bd q).imp fun v H1 q1 => ?_⟩
  obtain ⟨μ1, S1, d, a1, s1, vr, q1⟩ := q1
  refine ⟨μ1, ρ, S1, rl.next a1 s1, (tR.bd q1).imp fun vs H2 q2 => ?_⟩
  obtain ⟨μ2, S2, ds, a2, s2, vrs, q2⟩ := q2
  exact q2 μ2 H2 (v :: vs) Aft.refl s2 (VRs_cons.mpr ⟨v, vs, rfl, vr.mono a2, vrs⟩)
def eTup (l : DL) : DE := fun ρ S => (l ρ S).bd fun ds S1 => if ds.length ≤ lim then .ok (.tup ds) S1 else .stuck
theorem se_tup {x1} (h1 : SL X C W es l) : SE X C W (.Tuple es x1 pos) (eTup l) := by
  refine ⟨pe_imp (pe_tup h1.pa) fun σ H Q q => ?_⟩
  obtain ⟨μ, ρ, S, rl, q⟩ := q
  refine ⟨μ, ρ, S, rl, (tR.bd q).imp fun vs H1 q1 => ?_⟩
  obtain ⟨μ1, S1, ds, a1, s1, vr, q1⟩ := q1
  by_cases hl : ds.length ≤ lim
  · rw [if_pos hl] at q1
    refine ⟨by rw [← vr.length]; exact Nat.le_trans hl lim_line, fun p hp => ?_⟩
    have af : Aft X.K μ1 H1 μ1 (L2.upd H1 p (.tup vs)) := Aft.new hp
    exact q1 μ1 _ _ af (s1.lay hp) (VR_tup.mpr ⟨p, vs, rfl, SqT.of upd_same, vr.mono af⟩)
  · rw [if_neg hl] at q1
    exact q1.elim
/-- a new list: the store's (it may be written), or a value -/
def mk : Bool → List Dv → Sto → Dv × Sto
  | true, ds, S => (.ref S.length, S ++ [.lst ds])
  | false, ds, S => (.fz ds, S)
def eLst (m : Bool) (l : DL) : DE := fun ρ S => (l ρ S).bd fun ds S1 => if ds.length ≤ lim then .ok (mk m ds S1).1 (mk m ds S1).2 else .stuck
/-- a list is laid as the store's next object -/
theorem new_lst {μ1 : Mu} {S1 : Sto} {H1 : Hp} {ds : List Dv} {vs : List V} {σ : L2.St} {Q : VK} (s1 : SR X.K C μ1 S1 H1) (vr : VRs X.K H1 μ1 ds vs)
    (q1 : tR X.K C W (PV X.K) (.ok (.ref S1.length) (S1 ++ [.lst ds])) μ1 σ H1 Q) (p : Addr) (hp : H1 p = none) : Q (.ref p) (L2.upd H1 p (.lst vs)) := by
  have af : Aft X.K μ1 H1 (μ1.add p) (L2.upd H1 p (.lst vs)) := s1.alloc_aft hp
  refine q1 (μ1.add p) _ _ af (s1.alloc hp ⟨vs, rfl, vr.mono af⟩) (VR_ref.mpr ⟨p, ?_, rfl⟩)
  show (μ1.tr ++ [p])[S1.length]? = some p
  rw [List.getElem?_append_right (by rw [s1.len]; exact Nat.le_refl _), s1.len]
  simp
theorem new_mk {m : Bool} {μ1 : Mu} {S1 : Sto} {H1 : Hp} {ds : List Dv} {vs : List V} {σ : L2.St} {Q : VK} (s1 : SR X.K C μ1 S1 H1) (vr : VRs X.K H1 μ1 ds vs)
    (q1 : tR X.K C W (PV X.K) (.ok (mk m ds S1).1 (mk m ds S1).2) μ1 σ H1 Q) (p : Addr) (hp : H1 p = none) : Q (.ref p) (L2.upd H1 p (.lst vs)) := by
  cases m with
  | true => exact new_lst s1 vr q1 p hp
  | false =>
    have af : Aft X.K μ1 H1 μ1 (L2.upd H1 p (.lst vs)) := Aft.new hp
    exact q1 μ1 _ _ af (s1.lay hp) (VR_fz.mpr ⟨p, vs, rfl, .inr (.inr ⟨upd_same, s1.notin hp, fun z => s1.hids p z hp⟩), vr.mono af⟩)
theorem se_lst (m : Bool) (h1 : SL X C W es l) : SE X C W (.List es pos) (eLst m l) := by
  refine ⟨pe_imp (pe_lst h1.pa) fun σ H Q q => ?_⟩
  obtain ⟨μ, ρ, S, rl, q⟩ := q
  refine ⟨μ, ρ, S, rl, (tR.bd q).imp fun vs H1 q1 => ?_⟩
  obtain ⟨μ1, S1, ds, a1, s1, vr, q1⟩ := q1
  by_cases hl : ds.length ≤ lim
  · rw [if_pos hl] at q1
    exact ⟨by rw [← vr.length]; exact Nat.le_trans hl lim_line, new_mk s1 vr q1⟩
  · rw [if_neg hl] at q1
    exact q1.elim

/-! ### operators -/
def ofO : Option (Dv × Sto) → Res Dv
  | some (d, S) => .ok d S
  | none => .stuck
abbrev Op2 := Dv → Dv → Sto → Option (Dv × Sto)
def rOp (K : PySem.W.Frag) (C : Nat → Addr) (g : Op2) : R2 := fun x y H Q => ∃ μ S dx dy, SR K C μ S H ∧ VR K H μ dx x ∧ VR K H μ dy y ∧ tR K C W0 (PV K) (ofO (g dx dy S)) μ [] H Q
abbrev OpS (X : Cx) (C : Nat → Addr) (F : Value → Value → Sem Value) (g : Op2) : Prop := OpR X F (rOp X.K C g)
theorem tR.ofO {K : PySem.W.Frag} {W' : WX} {o : Option (Dv × Sto)} {μ : Mu} {σ σ' : L2.St} {H : Hp} {Q : VK} (h1 : tR K C W (PV K) (ofO o) μ σ H Q) : tR K C W' (PV K) (Fc.ofO o) μ σ' H Q := by
  cases o with
  | none => exact h1
  | some p => exact h1
def eOp (g : Op2) (fa fb : DE) : DE := fun ρ S => (fa ρ S).bd fun x S1 => (fb ρ S1).bd fun y S2 => ofO (g x y S2)
theorem op_go {gg : Op2} {σ : L2.St} {H : Hp} {Q : VK} (q : tG X.K C W (PV X.K) (eOp gg fa fb) σ H Q) : tOp (rOp X.K C gg) (tG X.K C W (PV X.K) fa) (tG X.K C W (PV X.K) fb) σ H Q := by
  obtain ⟨μ, ρ, S, rl, q⟩ := q
  refine ⟨μ, ρ, S, rl, (tR.bd q).imp fun v H1 q1 => ?_⟩
  obtain ⟨μ1, S1, d, a1, s1, vr, q1⟩ := q1
  refine ⟨μ1, ρ, S1, rl.next a1 s1, (tR.bd q1).imp fun v2 H2 q2 => ?_⟩
  obtain ⟨μ2, S2, d2, a2, s2, vr2, q2⟩ := q2
  exact ⟨μ2, S2, d, d2, s2, vr.mono a2, vr2, tR.ofO q2⟩
theorem se_op {op : Operator} {gg : Op2} (ho : OpS X C (binaryOp op) gg) (ha : SE X C W a fa) (hb : SE X C W b fb) : SE X C W (.BinOp a op b pos) (eOp gg fa fb) :=
  ⟨pe_imp (pe_op ho ha.pe hb.pe) fun _ _ _ q => op_go q⟩
theorem se_cmp {op : CmpOp} {gg : Op2} (ho : OpS X C (compareOp op) gg) (ha : SE X C W a fa) (hb : SE X C W b fb) (hm : behindInMarks op b = false := by first | exact nomark _ | rfl) : SE X C W (.Compare a [op] [b] pos) (eOp gg fa fb) :=
  ⟨pe_imp (pe_cmpR ho ha.pe hb.pe hm) fun _ _ _ q => op_go q⟩
/-- a value that is a bool, as a test -/
def tTs (f : DE) : DT := fun ρ S => (f ρ S).bd fun d S1 => match d with
  | .bl b => .ok b S1
  | _ => .stuck
theorem ts_go {σ : L2.St} {H : Hp} {Q : Bool → Hp → Prop} (q : tG X.K C W PB (tTs f) σ H Q) : tG X.K C W (PV X.K) f σ H fun x H' => ∃ k, x = .bl k ∧ Q k H' := by
  obtain ⟨μ, ρ, S, rl, q⟩ := q
  refine ⟨μ, ρ, S, rl, (tR.bd q).imp fun v H1 q1 => ?_⟩
  obtain ⟨μ1, S1, d, a1, s1, vr, q1⟩ := q1
  cases d with
  | bl b => exact ⟨b, VR_bl.mp vr, q1 μ1 H1 b Aft.refl s1 rfl⟩
  | _ => exact q1.elim
theorem st_cmp {op : CmpOp} {gg : Op2} (ho : OpS X C (compareOp op) gg) (ha : SE X C W a fa) (hb : SE X C W b fb) (hm : behindInMarks op b = false := by first | exact nomark _ | rfl) : ST X C W (.Compare a [op] [b] pos) (tTs (eOp gg fa fb)) :=
  ⟨pt_imp (pt_cmpR ho ha.pe hb.pe hm) fun _ _ _ q => op_go (ts_go q)⟩
theorem st_val (h1 : SE X C W e f) (he : ∀ whole, isTrue e X.env whole = (do let v ← whole; standAt e.pos; holding [v] (truthy v)) := by intro _; rfl) : ST X C W e (tTs f) :=
  ⟨pt_imp (pt_val h1.pe he) fun _ _ _ q => ts_go q⟩
/-- a < b < c -/
def eChain (g1 g2 : Op2) (fa fb fc : DE) : DE := fun ρ S => (fa ρ S).bd fun x S1 => (fb ρ S1).bd fun y S2 => (ofO (g1 x y S2)).bd fun z S3 => match z with
  | .bl true => (fc ρ S3).bd fun w S4 => ofO (g2 y w S4)
  | .bl false => .ok (.bl false) S3
  | _ => .stuck
theorem chain_go {g1 g2 : Op2} {σ : L2.St} {H : Hp} {Q : VK} (q : tG X.K C W (PV X.K) (eChain g1 g2 fa fb fc) σ H Q) :
    tChain (rOp X.K C g1) (rOp X.K C g2) (tG X.K C W (PV X.K) fa) (tG X.K C W (PV X.K) fb) (tG X.K C W (PV X.K) fc) σ H Q := by
  obtain ⟨μ, ρ, S, rl, q⟩ := q
  refine ⟨μ, ρ, S, rl, (tR.bd q).imp fun v H1 q1 => ?_⟩
  obtain ⟨μ1, S1, d, a1, s1, vr, q1⟩ := q1
  refine ⟨μ1, ρ, S1, rl.next a1 s1, (tR.bd q1).imp fun v2 H2 q2 => ?_⟩
  obtain ⟨μ2, S2, d2, a2, s2, vr2, q2⟩ := q2
  refine ⟨μ2, S2, d, d2, s2, vr.mono a2, vr2, tR.ofO ((tR.bd q2).imp fun v3 H3 q3 => ?_)⟩
  obtain ⟨μ3, S3, d3, a3, s3, vr3, q3⟩ := q3
  cases d3 with
  | bl bb =>
    cases bb with
    | true =>
      refine ⟨true, VR_bl.mp vr3, ?_⟩
      rw [if_pos rfl]
      refine ⟨μ3, ρ, S3, ((rl.next a1 s1).next a2 s2).next a3 s3, (tR.bd q3).imp fun v4 H4 q4 => ?_⟩
      obtain ⟨μ4, S4, d4, a4, s4, vr4, q4⟩ := q4
      exact ⟨μ4, S4, d2, d4, s4, vr2.mono (a3.trans a4), vr4, tR.ofO q4⟩
    | false =>
      refine ⟨false, VR_bl.mp vr3, ?_⟩
      rw [if_neg Bool.false_ne_true]
      exact q3 μ3 H3 (.bl false) Aft.refl s3 (VR_bl.mpr rfl)
  | _ => exact q3.elim
theorem se_chain {op op' : CmpOp} {g1 g2 : Op2} (ho : OpS X C (compareOp op) g1) (ho' : OpS X C (compareOp op') g2) (ha : SE X C W a fa) (hb : SE X C W b fb) (hc : SE X C W c fc) (hm : lastMarks [op, op'] [b, c] = false := by rfl) : SE X C W (.Compare a [op, op'] [b, c] pos) (eChain g1 g2 fa fb fc) :=
  ⟨pe_imp (pe_chain ho ho' ha.pe hb.pe hc.pe hm) fun _ _ _ q => chain_go q⟩
theorem st_chain {op op' : CmpOp} {g1 g2 : Op2} (ho : OpS X C (compareOp op) g1) (ho' : OpS X C (compareOp op') g2) (ha : SE X C W a fa) (hb : SE X C W b fb) (hc : SE X C W c fc) (hm : lastMarks [op, op'] [b, c] = false := by rfl) : ST X C W (.Compare a [op, op'] [b, c] pos) (tTs (eChain g1 g2 fa fb fc)) :=
  ⟨pt_imp (pt_chain ho ho' ha.pe hb.pe hc.pe hm) fun _ _ _ q => chain_go (ts_go q)⟩
def eUn (g : Dv → Option Dv) (f : DE) : DE := fun ρ S => (f ρ S).bd fun x S1 => match g x with
  | some d => .ok d S1
  | none => .stuck
theorem se_neg (h1 : SE X C W e f) : SE X C W (.UnaryOp .USub e pos) (eUn (fun d => match d with | .int i => some (.int (-i)) | _ => none) f) := by
  refine ⟨pe_imp (pe_un un_neg h1.pe) fun σ H Q q => ?_⟩
  obtain ⟨μ, ρ, S, rl, q⟩ := q
  refine ⟨μ, ρ, S, rl, (tR.bd q).imp fun v H1 q1 => ?_⟩
  obtain ⟨μ1, S1, d, a1, s1, vr, q1⟩ := q1
  cases d with
  | int i => exact ⟨i, VR_int.mp vr, q1 μ1 H1 _ Aft.refl s1 (VR_int.mpr rfl)⟩
  | _ => exact q1.elim

/-! ### and, or, not, if -/
def tAnd2 (t u : DT) : DT := fun ρ S => (t ρ S).bd fun c S1 => if c = true then u ρ S1 else .ok false S1
def tOr2 (t u : DT) : DT := fun ρ S => (t ρ S).bd fun c S1 => if c = true then .ok true S1 else u ρ S1
def tNot2 (t : DT) : DT := fun ρ S => (t ρ S).bd fun c S1 => .ok (!c) S1
theorem st_of (h1 : SW X C W e t) : ST X C W e t := ⟨h1.pw.pt⟩
theorem sw_and1 (h1 : ST X C W a t) : SW X C W (.BoolOp .And [a] pos) t := ⟨pw_and1 h1.pt⟩
theorem sw_or1 (h1 : ST X C W a t) : SW X C W (.BoolOp .Or [a] pos) t := ⟨pw_or1 h1.pt⟩
theorem sw_and (h1 : ST X C W a t) (h2 : SW X C W (.BoolOp .And (b :: rest) pos) u) : SW X C W (.BoolOp .And (a :: b :: rest) pos) (tAnd2 t u) := by
  refine ⟨pw_imp (pw_and h1.pt h2.pw) fun σ H Q q => ?_⟩
  obtain ⟨μ, ρ, S, rl, q⟩ := q
  refine ⟨μ, ρ, S, rl, (tR.bd q).imp fun cc H1 q1 => ?_⟩
  obtain ⟨μ1, S1, d, a1, s1, vr, q1⟩ := q1
  cases (show d = cc from vr)
  cases cc with
  | true => rw [if_pos rfl] at q1 ⊢; exact ⟨μ1, ρ, S1, rl.next a1 s1, q1⟩
  | false => rw [if_neg Bool.false_ne_true] at q1 ⊢; exact q1 μ1 H1 false Aft.refl s1 rfl
theorem sw_or (h1 : ST X C W a t) (h2 : SW X C W (.BoolOp .Or (b :: rest) pos) u) : SW X C W (.BoolOp .Or (a :: b :: rest) pos) (tOr2 t u) := by
  refine ⟨pw_imp (pw_or h1.pt h2.pw) fun σ H Q q => ?_⟩
  obtain ⟨μ, ρ, S, rl, q⟩ := q
  refine ⟨μ, ρ, S, rl, (tR.bd q).imp fun cc H1 q1 => ?_⟩
  obtain ⟨μ1, S1, d, a1, s1, vr, q1⟩ := q1
  cases (show d = cc from vr)
  cases cc with
  | true => rw [if_pos rfl] at q1 ⊢; exact q1 μ1 H1 true Aft.refl s1 rfl
  | false => rw [if_neg Bool.false_ne_true] at q1 ⊢; exact ⟨μ1, ρ, S1, rl.next a1 s1, q1⟩
theorem st_not (h1 : ST X C W a t) : ST X C W (.UnaryOp .Not a pos) (tNot2 t) := by
  refine ⟨pt_imp (pt_not h1.pt) fun σ H Q q => ?_⟩
  obtain ⟨μ, ρ, S, rl, q⟩ := q
  refine ⟨μ, ρ, S, rl, (tR.bd q).imp fun cc H1 q1 => ?_⟩
  obtain ⟨μ1, S1, d, a1, s1, vr, q1⟩ := q1
  cases (show d = cc from vr)
  exact q1 μ1 H1 _ Aft.refl s1 rfl
/-- as values, of bools -/
def eAnd (f g : DE) : DE := fun ρ S => (f ρ S).bd fun d S1 => match d with
  | .bl true => g ρ S1
  | .bl false => .ok (.bl false) S1
  | _ => .stuck
def eOr (f g : DE) : DE := fun ρ S => (f ρ S).bd fun d S1 => match d with
  | .bl false => g ρ S1
  | .bl true => .ok (.bl true) S1
  | _ => .stuck
def eNot (f : DE) : DE := fun ρ S => (f ρ S).bd fun d S1 => match d with
  | .bl b => .ok (.bl (!b)) S1
  | _ => .stuck
theorem se_one {op : BoolOp} (h1 : SE X C W a f) : SE X C W (.BoolOp op [a] pos) f := ⟨pe_one h1.pe⟩
theorem se_and (h1 : SE X C W a f) (h2 : SE X C W (.BoolOp .And (b :: rest) pos) g) : SE X C W (.BoolOp .And (a :: b :: rest) pos) (eAnd f g) := by
  refine ⟨pe_imp (pe_and h1.pe h2.pe) fun σ H Q q => ?_⟩
  obtain ⟨μ, ρ, S, rl, q⟩ := q
  refine ⟨μ, ρ, S, rl, (tR.bd q).imp fun v H1 q1 => ?_⟩
  obtain ⟨μ1, S1, d, a1, s1, vr, q1⟩ := q1
  cases d with
  | bl bb =>
    refine ⟨bb, VR_bl.mp vr, ?_⟩
    cases bb with
    | true => rw [if_pos rfl]; exact ⟨μ1, ρ, S1, rl.next a1 s1, q1⟩
    | false => rw [if_neg Bool.false_ne_true]; exact q1 μ1 H1 _ Aft.refl s1 (VR_bl.mpr rfl)
  | _ => exact q1.elim
theorem se_or (h1 : SE X C W a f) (h2 : SE X C W (.BoolOp .Or (b :: rest) pos) g) : SE X C W (.BoolOp .Or (a :: b :: rest) pos) (eOr f g) := by
  refine ⟨pe_imp (pe_or h1.pe h2.pe) fun σ H Q q => ?_⟩
  obtain ⟨μ, ρ, S, rl, q⟩ := q
  refine ⟨μ, ρ, S, rl, (tR.bd q).imp fun v H1 q1 => ?_⟩
  obtain ⟨μ1, S1, d, a1, s1, vr, q1⟩ := q1
  cases d with
  | bl bb =>
    refine ⟨bb, VR_bl.mp vr, ?_⟩
    cases bb with
    | true => rw [if_pos rfl]; exact q1 μ1 H1 _ Aft.refl s1 (VR_bl.mpr rfl)
    | false => rw [if_neg Bool.false_ne_true]; exact ⟨μ1, ρ, S1, rl.next a1 s1, q1⟩
  | _ => exact q1.elim
theorem se_not (h1 : SE X C W a f) : SE X C W (.UnaryOp .Not a pos) (eNot f) := by
  refine ⟨pe_imp (pe_not h1.pe) fun σ H Q q => ?_⟩
  obtain ⟨μ, ρ, S, rl, q⟩ := q
  refine ⟨μ, ρ, S, rl, (tR.bd q).imp fun v H1 q1 => ?_⟩
  obtain ⟨μ1, S1, d, a1, s1, vr, q1⟩ := q1
  cases d with
  | bl bb => exact ⟨bb, VR_bl.mp vr, q1 μ1 H1 _ Aft.refl s1 (VR_bl.mpr rfl)⟩
  | _ => exact q1.elim
def eIf (t : DT) (f g : DE) : DE := fun ρ S => (t ρ S).bd fun c S1 => if c = true then f ρ S1 else g ρ S1
theorem se_if (hc : ST X C W c t) (h1 : SE X C W a f) (h2 : SE X C W b g) : SE X C W (.IfExp c a b pos) (eIf t f g) := by
  refine ⟨pe_imp (pe_ifExp hc.pt h1.pe h2.pe) fun σ H Q q => ?_⟩
  obtain ⟨μ, ρ, S, rl, q⟩ := q
  refine ⟨μ, ρ, S, rl, (tR.bd q).imp fun cc H1 q1 => ?_⟩
  obtain ⟨μ1, S1, d, a1, s1, vr, q1⟩ := q1
  cases (show d = cc from vr)
  cases cc with
  | true => rw [if_pos rfl] at q1 ⊢; exact ⟨μ1, ρ, S1, rl.next a1 s1, q1⟩
  | false => rw [if_neg Bool.false_ne_true] at q1 ⊢; exact ⟨μ1, ρ, S1, rl.next a1 s1, q1⟩
end
end Fc

set_option exponentiation.threshold 256
set_option maxHeartbeats 4000000
set_option maxHeartbeats 4000000
/-! FcStmt: targets, statements, loops, comprehensions. -/
namespace Fc
open PySem L2

/-! ### locals -/
def wipeD (ρ : Ev) : List Nat → Ev
  | [] => ρ
  | v :: vs => (wipeD ρ vs).set v none
section
variable {K : PySem.W.Frag} {C : Nat → Addr} {H H' H1 : Hp} {μ μ' μ1 : Mu} {S S' : Sto} {ρ : Ev} {σ : L2.St} {W : WX}
theorem Rl.set (r : Rl K C μ ρ S σ H) {d : Dv} {v : V} (q : VR K H μ d v) (i : Nat) : Rl K C μ (ρ.set i (some d)) S (σ.set i (some v)) H := by
  refine ⟨r.sr, by simpa using r.len, fun j e h => ?_⟩
  by_cases hj : i = j
  · subst hj
    have hl : i < ρ.length := by
      have := (List.getElem?_eq_some_iff.mp h).1
      simpa using this
    rw [List.getElem?_set_self hl] at h
    cases h
    exact ⟨v, List.getElem?_set_self (by rw [← r.len]; exact hl), q⟩
  · rw [List.getElem?_set_ne hj] at h ⊢
    exact r.sl j e h
theorem Rl.unset (r : Rl K C μ ρ S σ H) (i : Nat) : Rl K C μ (ρ.set i none) S (σ.set i none) H := by
  refine ⟨r.sr, by simpa using r.len, fun j e h => ?_⟩
  by_cases hj : i = j
  · subst hj
    have hl : i < ρ.length := by
      have := (List.getElem?_eq_some_iff.mp h).1
      simpa using this
    rw [List.getElem?_set_self hl] at h
    cases h
  · rw [List.getElem?_set_ne hj] at h ⊢
    exact r.sl j e h
theorem Rl.wipe (r : Rl K C μ ρ S σ H) : ∀ vs : List Nat, Rl K C μ (wipeD ρ vs) S (L2.wipe σ vs) H
  | [] => r
  | v :: vs => (Rl.wipe r vs).unset v
theorem wipe_get (σ : L2.St) (j : Nat) : ∀ vs : List Nat, (L2.wipe σ vs)[j]? = if j ∈ vs then (σ[j]?).map fun _ => none else σ[j]?
  | [] => by simp [L2.wipe]
  | v :: vs => by
    show ((L2.wipe σ vs).set v none)[j]? = _
    rw [List.getElem?_set, wipe_get σ j vs, wipe_length]
    by_cases h : v = j
    · subst h
      by_cases hl : v < σ.length
      · simp [hl]
      · simp [hl]
    · have h' : ¬ j = v := fun e => h e.symm
      simp [h, h']
theorem wipe_set {σ : L2.St} {i : Nat} {x : Option V} {vs : List Nat} (h : i ∈ vs) : L2.wipe (σ.set i x) vs = L2.wipe σ vs := by
  apply List.ext_getElem?
  intro j
  rw [wipe_get, wipe_get, List.getElem?_set]
  by_cases e : i = j
  · subst e
    rw [if_pos h, if_pos h, if_pos rfl]
    by_cases hl : i < σ.length
    · simp [hl]
    · simp [hl]
  · rw [if_neg e]
end

/-! ### targets -/
inductive Tg where
  | nm (i : Nat) | tp (ts : List Tg)
mutual
def Tg.asg : Tg → Dv → Ev → Option Ev
  | .nm i, d, ρ => some (ρ.set i (some d))
  | .tp ts, .tup ds, ρ => Tg.asgs ts ds ρ
  | .tp _, _, _ => none
def Tg.asgs : List Tg → List Dv → Ev → Option Ev
  | [], [], ρ => some ρ
  | t :: ts, d :: ds, ρ => (Tg.asg t d ρ).bind fun ρ' => Tg.asgs ts ds ρ'
  | _, _, _ => none
end
mutual
def Tg.slots : Tg → List Nat
  | .nm i => [i]
  | .tp ts => Tg.slotss ts
def Tg.slotss : List Tg → List Nat
  | [] => []
  | t :: ts => t.slots ++ Tg.slotss ts
end
def tTg (K : PySem.W.Frag) (C : Nat → Addr) (t : Tg) : TG := fun v σ H Q => ∃ μ ρ S d ρ', Rl K C μ ρ S σ H ∧ VR K H μ d v ∧ t.asg d ρ = some ρ' ∧
  ∀ σ', (∀ vs : List Nat, (∀ i ∈ t.slots, i ∈ vs) → L2.wipe σ' vs = L2.wipe σ vs) → Rl K C μ ρ' S σ' H → Q σ' H
def tTgs (K : PySem.W.Frag) (C : Nat → Addr) (ts : List Tg) : TGs := fun vs σ H Q => ∃ μ ρ S ds ρ', Rl K C μ ρ S σ H ∧ VRs K H μ ds vs ∧ Tg.asgs ts ds ρ = some ρ' ∧
  ∀ σ', (∀ vs : List Nat, (∀ i ∈ Tg.slotss ts, i ∈ vs) → L2.wipe σ' vs = L2.wipe σ vs) → Rl K C μ ρ' S σ' H → Q σ' H
structure SG (X : Cx) (C : Nat → Addr) (tg : Expr) (t : Tg) : Prop where
  pg : PG X tg (tTg X.K C t)
structure SGs (X : Cx) (C : Nat → Addr) (tgs : List Expr) (ts : List Tg) : Prop where
  pg : PGs X tgs (tTgs X.K C ts)
section
variable {X : Cx} {C : Nat → Addr} {W : WX} {k : Nat} {e e2 : Expr} {es : List Expr} {f g : DE} {t : DT} {l : DL} {pos pos' p2 : Pos} {st : Stmt} {rest body orelse : List Stmt} {cs cr cb : DS}
theorem pg_imp {tt tt' : TG} (h : PG X e tt) (k : ∀ v σ H Q, tt' v σ H Q → tt v σ H Q) : PG X e tt' := ⟨fun pins s σ H v u Q I r q => h.run pins s σ H v u Q I r (k _ _ _ _ q)⟩
theorem pgs_imp {tt tt' : TGs} (h : PGs X es tt) (k : ∀ v σ H Q, tt' v σ H Q → tt v σ H Q) : PGs X es tt' := ⟨fun pins s σ H v u Q I r q => h.run pins s σ H v u Q I r (k _ _ _ _ q)⟩
theorem sg_name (i : Nat) {x : Str} (hN : X.N.Nodup) (hi : X.N[i]? = some x := by rfl) (hx : Loc X.env.scope x := by first | exact Or.inl rfl | exact Or.inr rfl)
    (hf : X.fn x = true ∨ X.env.scope.names.lookup x = some .local := by first | exact .inl rfl | exact .inr rfl) : SG X C (.Name x pos) (.nm i) := by
  refine ⟨pg_imp (pg_name hN hi hx hf) fun v σ H Q q => ?_⟩
  obtain ⟨μ, ρ, S, d, ρ', rl, vr, e, q⟩ := q
  simp only [Tg.asg, Option.some.injEq] at e
  subst e
  exact q _ (fun vs h => wipe_set (h i (by simp [Tg.slots]))) (rl.set vr i)
theorem sgs_nil : SGs X C [] [] := by
  refine ⟨pgs_imp pgs_nil fun v σ H Q q => ?_⟩
  obtain ⟨μ, ρ, S, d, ρ', rl, vr, e, q⟩ := q
  cases d with
  | nil =>
    simp only [Tg.asgs, Option.some.injEq] at e
    subst e
    exact ⟨VRs_nil.mp vr, q _ (fun _ _ => rfl) rl⟩
  | cons a b => simp [Tg.asgs] at e
theorem sgs_cons {tg : Tg} {tgs : List Tg} (h1 : SG X C e tg) (h2 : SGs X C es tgs) (hs : (assignEach (e :: es) X.env).map (·.2) = assign e X.env :: (assignEach es X.env).map (·.2) := by rfl) : SGs X C (e :: es) (tg :: tgs) := by
  refine ⟨pgs_imp (pgs_cons h1.pg h2.pg hs) fun v σ H Q q => ?_⟩
  obtain ⟨μ, ρ, S, d, ρ', rl, vr, e, q⟩ := q
  cases d with
  | nil => simp [Tg.asgs] at e
  | cons a b =>
    simp only [Tg.asgs] at e
    obtain ⟨ρ1, e1, e2⟩ := Option.bind_eq_some_iff.mp e
    obtain ⟨v1, r, rfl, w1, w2⟩ := VRs_cons.mp vr
    refine ⟨v1, r, rfl, μ, ρ, S, a, ρ1, rl, w1, e1, fun σ1 hw rl1 => ⟨μ, ρ1, S, b, ρ', rl1, w2, e2, fun σ2 hw2 rl2 => ?_⟩⟩
    refine q σ2 (fun vs hv => ?_) rl2
    rw [hw2 vs fun i hi => hv i (by simp [Tg.slotss, hi]), hw vs fun i hi => hv i (by simp [Tg.slotss, hi])]
theorem sg_tup {tgs : List Tg} {kk : Nat} (hc : X.calm = true) (h : SGs X C es tgs) (hn : (assignEach es X.env).length = tgs.length := by rfl) (hst : (assignEach es X.env).findIdx? (·.1) = none := by rfl) :
    SG X C (.Tuple es kk pos) (.tp tgs) := by
  refine ⟨pg_imp (pg_tup hc h.pg hn hst) fun v σ H Q q => ?_⟩
  obtain ⟨μ, ρ, S, d, ρ', rl, vr, e, q⟩ := q
  cases d with
  | tup ds =>
    simp only [Tg.asg] at e
    obtain ⟨a, vs, rfl, h1, h2⟩ := VR_tup.mp vr
    have hlen : ∀ (ts : List Tg) (ds : List Dv) (ρ ρ' : Ev), Tg.asgs ts ds ρ = some ρ' → ds.length = ts.length := by
      intro ts
      induction ts with
      | nil => intro ds ρ ρ' e; cases ds <;> simp [Tg.asgs] at e ⊢
      | cons t ts ih =>
        intro ds ρ ρ' e
        cases ds with
        | nil => simp [Tg.asgs] at e
        | cons d ds =>
          simp only [Tg.asgs] at e
          obtain ⟨ρ1, _, e2⟩ := Option.bind_eq_some_iff.mp e
          simp [ih ds _ _ e2]
    refine ⟨a, vs, rfl, h1, by rw [← h2.length]; exact hlen _ _ _ _ e, μ, ρ, S, ds, ρ', rl, h2, e, fun σ' hw rl' => q σ' (fun vs hv => hw vs fun i hi => hv i (by simpa [Tg.slots] using hi)) rl'⟩
  | _ => simp [Tg.asg] at e

/-! ### statements -/
def toS {α : Type} (r : Res α) (ρ : Ev) (kk : α → Sto → Res Out) : Res Out :=
  match r with
  | .ok a S => kk a S
  | .exn c S => .ok (.ex c ρ) S
  | .stuck => .stuck
@[simp] theorem toS_ok {α : Type} (a : α) (S : Sto) (ρ : Ev) (kk : α → Sto → Res Out) : toS (.ok a S) ρ kk = kk a S := rfl
@[simp] theorem toS_exn {α : Type} (c : Nat) (S : Sto) (ρ : Ev) (kk : α → Sto → Res Out) : toS (.exn c S : Res α) ρ kk = .ok (.ex c ρ) S := rfl
@[simp] theorem toS_stuck {α : Type} (ρ : Ev) (kk : α → Sto → Res Out) : toS (.stuck : Res α) ρ kk = .stuck := rfl
theorem toS_go {α β : Type} {K : PySem.W.Frag} {P : Mu → Hp → α → β → Prop} {r : Res α} {kk : α → Sto → Res Out} {μ : Mu} {ρ : Ev} {S : Sto} {σ : L2.St} {H : Hp} {D : Ends} (q : tSt K C W (toS r ρ kk) μ H D) (rl : Rl K C μ ρ S σ H) :
    tR K C W P r μ σ H fun v H1 => ∃ μ1 S1 d, Aft K μ H μ1 H1 ∧ SR K C μ1 S1 H1 ∧ P μ1 H1 d v ∧ tSt K C W (kk d S1) μ1 H1 D := by
  cases r with
  | ok d S' => exact fun μ' H' v a s p => ⟨μ', S', d, a, s, p, tSt.aft (r := kk d S') q a⟩
  | exn c S' => exact fun μ' H' a s => q μ' σ H' a (rl.next a s)
  | stuck => exact q
def cNil : DS := fun ρ S => .ok (.nx ρ) S
def cSeq (f g : DS) : DS := fun ρ S => match f ρ S with
  | .ok (.nx ρ1) S1 => g ρ1 S1
  | r => r
theorem ss_nil : SSs X C W [] cNil := by
  refine ⟨pss_imp pss_nil fun D σ H q => ?_⟩
  obtain ⟨μ, ρ, S, rl, q⟩ := q
  exact q μ σ H Aft.refl rl
theorem ss_cons (h1 : SS X C W st cs) (h2 : SSs X C W rest cr) : SSs X C W (st :: rest) (cSeq cs cr) := by
  refine ⟨pss_imp (pss_cons h1.ps h2.ps) fun D σ H q => ?_⟩
  obtain ⟨μ, ρ, S, rl, q⟩ := q
  refine ⟨μ, ρ, S, rl, ?_⟩
  unfold cSeq at q
  cases hr : cs ρ S with
  | ok o S' =>
    rw [hr] at q
    cases o with
    | nx ρ1 => exact fun μ' σ' H' a rl' => ⟨μ', ρ1, S', rl', tSt.aft (r := cr ρ1 S') q a⟩
    | rt d => exact q
    | bk d => exact q
    | ct d => exact q
    | ex c d => exact q
  | exn c S' => rw [hr] at q; exact q
  | stuck => rw [hr] at q; exact q
def cPass : DS := fun ρ S => .ok (.nx ρ) S
def cBreak : DS := fun ρ S => .ok (.bk ρ) S
def cCont : DS := fun ρ S => .ok (.ct ρ) S
theorem ss_pass : SS X C W (.Pass pos) cPass := ⟨ps_imp ps_pass fun _ σ H ⟨μ, ρ, S, rl, q⟩ => q μ σ H Aft.refl rl⟩
theorem ss_break : SS X C W (.Break pos) cBreak := ⟨ps_imp ps_break fun _ σ H ⟨μ, ρ, S, rl, q⟩ => q μ σ H Aft.refl rl⟩
theorem ss_cont : SS X C W (.Continue pos) cCont := ⟨ps_imp ps_continue fun _ σ H ⟨μ, ρ, S, rl, q⟩ => q μ σ H Aft.refl rl⟩
/-- what the abstract machine never comes to -/
def cNever : DS := fun _ _ => .stuck
theorem ss_never : SSs X C W rest cNever := ⟨pss_imp pss_never fun _ _ _ ⟨_, _, _, _, q⟩ => q⟩
theorem s_never : SS X C W st cNever := ⟨ps_imp ps_never fun _ _ _ ⟨_, _, _, _, q⟩ => q⟩
def cExpr (f : DE) : DS := fun ρ S => toS (f ρ S) ρ fun _ S1 => .ok (.nx ρ) S1
theorem ss_expr (h1 : SE X C W e f) (hs : swapsWith e none pos.line X.env = pure false := by rfl) : SS X C W (.Expr e pos) (cExpr f) := by
  refine ⟨ps_imp (ps_expr h1.pe hs) fun D σ H q => ?_⟩
  obtain ⟨μ, ρ, S, rl, q⟩ := q
  refine ⟨μ, ρ, S, rl, (toS_go q rl).imp fun v H1 q1 => ?_⟩
  obtain ⟨μ1, S1, d, a1, s1, vr, q1⟩ := q1
  exact q1 μ1 σ H1 Aft.refl (rl.next a1 s1)
def cRet (f : DE) : DS := fun ρ S => toS (f ρ S) ρ fun d S1 => .ok (.rt d) S1
theorem ss_ret (h1 : SE X C W e f) : SS X C W (.Return (some e) pos) (cRet f) := by
  refine ⟨ps_imp (ps_ret h1.pe) fun D σ H q => ?_⟩
  obtain ⟨μ, ρ, S, rl, q⟩ := q
  refine ⟨μ, ρ, S, rl, (toS_go q rl).imp fun v H1 q1 => ?_⟩
  obtain ⟨μ1, S1, d, a1, s1, vr, q1⟩ := q1
  exact q1 μ1 H1 v Aft.refl s1 vr
def cRetN : DS := fun _ S => .ok (.rt .non) S
theorem ss_retN : SS X C W (.Return none pos) cRetN := ⟨ps_imp ps_retN fun _ σ H ⟨μ, ρ, S, rl, q⟩ => q μ H .non Aft.refl rl.sr (VR_non.mpr rfl)⟩
def cIf (t : DT) (f g : DS) : DS := fun ρ S => toS (t ρ S) ρ fun c S1 => if c = true then f ρ S1 else g ρ S1
theorem ss_if (hc : ST X C W e t) (h1 : SSs X C W body cb) (h2 : SSs X C W orelse cr) : SS X C W (.If e body orelse pos) (cIf t cb cr) := by
  refine ⟨ps_imp (ps_if hc.pt h1.ps h2.ps) fun D σ H q => ?_⟩
  obtain ⟨μ, ρ, S, rl, q⟩ := q
  refine ⟨μ, ρ, S, rl, (toS_go q rl).imp fun c H1 q1 => ?_⟩
  obtain ⟨μ1, S1, d, a1, s1, vr, q1⟩ := q1
  cases (show d = c from vr)
  cases c with
  | true => rw [if_pos rfl] at q1 ⊢; exact ⟨μ1, ρ, S1, rl.next a1 s1, q1⟩
  | false => rw [if_neg Bool.false_ne_true] at q1 ⊢; exact ⟨μ1, ρ, S1, rl.next a1 s1, q1⟩
def cSet (i : Nat) (f : DE) : DS := fun ρ S => toS (f ρ S) ρ fun d S1 => .ok (.nx (ρ.set i (some d))) S1
theorem ss_set (i : Nat) {x : Str} (hN : X.N.Nodup) (h1 : SE X C W e f) (hi : X.N[i]? = some x := by rfl) (hx : Loc X.env.scope x := by first | exact Or.inl rfl | exact Or.inr rfl) (hs : swapsWith e (some (.Name x pos')) pos.line X.env = pure false := by rfl)
    (hf : X.fn x = true ∨ X.env.scope.names.lookup x = some .local := by first | exact .inl rfl | exact .inr rfl) : SS X C W (.Assign [.Name x pos'] e pos) (cSet i f) := by
  refine ⟨ps_imp (ps_set hN hi hx h1.pe hs hf) fun D σ H q => ?_⟩
  obtain ⟨μ, ρ, S, rl, q⟩ := q
  refine ⟨μ, ρ, S, rl, (toS_go q rl).imp fun v H1 q1 => ?_⟩
  obtain ⟨μ1, S1, d, a1, s1, vr, q1⟩ := q1
  exact q1 μ1 _ H1 Aft.refl ((rl.next a1 s1).set vr i)
def cAsg (tg : Tg) (f : DE) : DS := fun ρ S => toS (f ρ S) ρ fun d S1 => match tg.asg d ρ with
  | some ρ' => .ok (.nx ρ') S1
  | none => .stuck
theorem ss_asg {tge : Expr} {tg : Tg} (h1 : SE X C W e f) (hg : SG X C tge tg) (hs : swapsWithSole [tge] e pos.line X.env = pure false := by rfl) (hw : swappedStores [tge] e X.env = pure none := by rfl)
    (hh : (assignEach [tge] X.env).map (·.2) = [assign tge X.env] := by rfl) : SS X C W (.Assign [tge] e pos) (cAsg tg f) := by
  refine ⟨ps_imp (ps_asg h1.pe hg.pg hs hw hh) fun D σ H q => ?_⟩
  obtain ⟨μ, ρ, S, rl, q⟩ := q
  refine ⟨μ, ρ, S, rl, (toS_go q rl).imp fun v H1 q1 => ?_⟩
  obtain ⟨μ1, S1, d, a1, s1, vr, q1⟩ := q1
  cases e1 : tg.asg d ρ with
  | none => rw [e1] at q1; exact q1.elim
  | some ρ' =>
    rw [e1] at q1
    exact ⟨μ1, ρ, S1, d, ρ', rl.next a1 s1, vr, e1, fun σ' _ rl' => q1 μ1 σ' H1 Aft.refl rl'⟩
/-- a, b = x, y -/
def cPar (i j : Nat) (l : DL) : DS := fun ρ S => toS (l ρ S) ρ fun ds S1 => match ds with
  | [d, e] => .ok (.nx ((ρ.set i (some d)).set j (some e))) S1
  | _ => .stuck
theorem ss_par (i j : Nat) {x y : Str} {a b : Expr} {px py pt : Pos} {kt k2 pt2} (hc : X.calm = true) (hN : X.N.Nodup) (ha : SL X C W [a, b] l) (hi : X.N[i]? = some x := by rfl) (hj : X.N[j]? = some y := by rfl) (hij : i ≠ j := by decide)
    (hx : X.env.scope.names.lookup x = some .local := by rfl) (hy : X.env.scope.names.lookup y = some .local := by rfl)
    (hw : swappedStores [.Tuple [.Name x px, .Name y py] kt pt] (.Tuple [a, b] k2 pt2) X.env = pure (some [x, y]) := by rfl)
    (hs : swapsWithSole [.Tuple [.Name x px, .Name y py] kt pt] (.Tuple [a, b] k2 pt2) pos.line X.env = pure false := by rfl) :
    SS X C W (.Assign [.Tuple [.Name x px, .Name y py] kt pt] (.Tuple [a, b] k2 pt2) pos) (cPar i j l) := by
  refine ⟨ps_imp (ps_par hc hN hi hj hij hx hy ha.pa hw hs) fun D σ H q => ?_⟩
  obtain ⟨μ, ρ, S, rl, q⟩ := q
  refine ⟨μ, ρ, S, rl, (toS_go q rl).imp fun vs H1 q1 => ?_⟩
  obtain ⟨μ1, S1, ds, a1, s1, vr, q1⟩ := q1
  match ds, q1, vr with
  | [], q1, _ => exact q1.elim
  | [_], q1, _ => exact q1.elim
  | _ :: _ :: _ :: _, q1, _ => exact q1.elim
  | [d, e], q1, vr =>
    obtain ⟨v, r, rfl, h1, h2⟩ := VRs_cons.mp vr
    obtain ⟨v2, r2, rfl, h3, h4⟩ := VRs_cons.mp h2
    cases VRs_nil.mp h4
    exact ⟨v, v2, rfl, q1 μ1 _ H1 Aft.refl (((rl.next a1 s1).set h1 i).set h3 j)⟩
/-- an op= on a name -/
def IpS (X : Cx) (C : Nat → Addr) (op : Operator) (g : Op2) : Prop := PIp X op (rOp X.K C g)
def cAug (i : Nat) (gg : Op2) (f : DE) : DS := fun ρ S => match ρ[i]? with
  | some (some x) => toS (f ρ S) ρ fun y S1 => match gg x y S1 with
    | some (d, S2) => .ok (.nx (ρ.set i (some d))) S2
    | none => .stuck
  | _ => .stuck
theorem ss_aug (i : Nat) {x : Str} {op : Operator} {gg : Op2} (hN : X.N.Nodup) (ho : IpS X C op gg) (h1 : SE X C W e f) (hi : X.N[i]? = some x := by rfl) (hx : Loc X.env.scope x := by first | exact Or.inl rfl | exact Or.inr rfl)
    (hf : X.fn x = true ∨ X.env.scope.names.lookup x = some .local := by first | exact .inl rfl | exact .inr rfl) : SS X C W (.AugAssign (.Name x pos') op e pos) (cAug i gg f) := by
  refine ⟨ps_imp (ps_aug hN hi hx h1.pe ho hf) fun D σ H q => ?_⟩
  obtain ⟨μ, ρ, S, rl, q⟩ := q
  unfold cAug at q
  split at q
  · rename_i dx ex
    obtain ⟨xv, hx1, hx2⟩ := rl.sl i dx ex
    refine ⟨xv, hx1, μ, ρ, S, rl, (toS_go q rl).imp fun v H1 q1 => ?_⟩
    obtain ⟨μ1, S1, d, a1, s1, vr, q1⟩ := q1
    refine ⟨μ1, S1, dx, d, s1, hx2.mono a1, vr, ?_⟩
    cases e1 : gg dx d S1 with
    | none => rw [e1] at q1; exact q1.elim
    | some p =>
      obtain ⟨d2, S2⟩ := p
      rw [e1] at q1
      exact fun μ2 H2 v2 a2 s2 vr2 => q1 μ2 _ H2 a2 (((rl.next a1 s1).next a2 s2).set vr2 i)
  · exact q.elim
/-- raise -/
def cRaise (n : Nat) : DS := fun ρ S => .ok (.ex n ρ) S
theorem ss_raise {n : Nat} {pos3 : Pos} {x m : Str} {jj : Nat} {bmB : List Value} {B newId initId : String} (c : Ctx X W k) (F : ExcBaseFacts B newId initId bmB) (q : PySem.W.excIn X.K (C n) bmB newId = true) (gC : X.mg x = some (.ref (C n)))
    (kC : PySem.W.keepIn X.K (.ref (C n)) = true) (r : Raises X (.ref (C n))) (hg : Gl X x := by rfl) (hdb : (x == ("__debug__" : Str)) = false := by decide) :
    SS X C W (.Raise (some (.Call (.Name x pos') [.Constant (.str m) jj p2] [] pos)) none pos3) (cRaise n) := by
  refine ⟨ps_imp (ps_raise c.calm c.tk (pmk_own F q gC kC r hg hdb)) fun D σ H q => ?_⟩
  obtain ⟨μ, ρ, S, rl, q⟩ := q
  exact q μ σ H Aft.refl rl

/-! ### while -/
def whileL (t : DT) (b : DS) : Nat → Ev → Sto → Res Out
  | 0, _, _ => .stuck
  | n + 1, ρ, S => toS (t ρ S) ρ fun c S1 => if c = true then (match b ρ S1 with
    | .ok (.nx ρ2) S2 => whileL t b n ρ2 S2
    | .ok (.ct ρ2) S2 => whileL t b n ρ2 S2
    | .ok (.bk ρ2) S2 => .ok (.nx ρ2) S2
    | r => r) else .ok (.nx ρ) S1
noncomputable def cWhile (t : DT) (b : DS) : DS := fun ρ S => whileL t b big ρ S
theorem ss_while (c : Ctx X W k) (hc : ST X C W e t) (hb : SSs X C W body cb) : SS X C W (.While e body [] pos) (cWhile t cb) := by
  refine ⟨ps_imp (ps_while c.pass hc.pt hb.ps) fun D σ H q => ?_⟩
  refine ⟨fun m σ H => ∃ μ ρ S, Rl X.K C μ ρ S σ H ∧ tSt X.K C W (whileL t cb m ρ S) μ H D, ⟨big, q⟩, ?_⟩
  rintro m σ H ⟨μ, ρ, S, rl, q⟩
  cases m with
  | zero => exact q.elim
  | succ m =>
    refine ⟨μ, ρ, S, rl, (toS_go q rl).imp fun cc H1 q1 => ?_⟩
    obtain ⟨μ1, S1, d, a1, s1, vr, q1⟩ := q1
    cases (show d = cc from vr)
    cases cc with
    | false =>
      rw [if_neg Bool.false_ne_true] at q1 ⊢
      exact q1 μ1 σ H1 Aft.refl (rl.next a1 s1)
    | true =>
      rw [if_pos rfl] at q1 ⊢
      refine ⟨fun σ' H' => ∃ μ ρ S, Rl X.K C μ ρ S σ' H' ∧ tSt X.K C W (whileL t cb m ρ S) μ H' D, fun σ' H' z => ⟨m, Nat.lt_succ_self _, z⟩, μ1, ρ, S1, rl.next a1 s1, ?_⟩
      cases hr : cb ρ S1 with
      | ok o S' =>
        rw [hr] at q1
        cases o with
        | nx ρ1 => exact fun μ' σ' H' a rl' => ⟨μ', ρ1, S', rl', tSt.aft (r := whileL t cb m ρ1 S') q1 a⟩
        | ct ρ1 => exact fun μ' σ' H' a rl' => ⟨μ', ρ1, S', rl', tSt.aft (r := whileL t cb m ρ1 S') q1 a⟩
        | rt d => exact q1
        | bk d => exact q1
        | ex c d => exact q1
      | exn c S' => rw [hr] at q1; exact q1
      | stuck => rw [hr] at q1; exact q1

/-! ### what is walked -/
/-- at turn i: none: not told; some none: the end; some (some d): the item -/
abbrev Itf := Sto → Nat → Option (Option Dv)
abbrev DI := Ev → Sto → Res Itf
def Jm (K : PySem.W.Frag) (C : Nat → Addr) (μ0 : Mu) (H0 : Hp) (it : Itf) (J : It) : Prop := ∀ μ S H, Aw K μ0 H0 μ H → SR K C μ S H → ∀ i, match it S i with
  | some none => J.stop i H
  | some (some d) => J.go i H ∧ ∀ x H', J.yld i H x H' → Aft K μ H μ H' ∧ SR K C μ S H' ∧ VR K H' μ d x
  | none => True
structure SI (X : Cx) (C : Nat → Addr) (W : WX) (tg iter : Expr) (f : DI) : Prop where
  pi : PI X tg iter (tG X.K C W (Jm X.K C) f)
theorem pi_imp {tg iter : Expr} {w w' : TI} (h : PI X tg iter w) (k : ∀ σ H R, w' σ H R → w σ H R) : PI X tg iter w' := ⟨fun pins s σ H R I q => h.run pins s σ H R I (k _ _ _ q)⟩
def forL (it : Itf) (tg : Tg) (b : DS) : Nat → Nat → Ev → Sto → Res Out
  | 0, _, _, _ => .stuck
  | n + 1, i, ρ, S => match it S i with
    | none => .stuck
    | some none => .ok (.nx ρ) S
    | some (some d) => match tg.asg d ρ with
      | none => .stuck
      | some ρ1 => match b ρ1 S with
        | .ok (.nx ρ2) S2 => forL it tg b n (i + 1) ρ2 S2
        | .ok (.ct ρ2) S2 => forL it tg b n (i + 1) ρ2 S2
        | .ok (.bk ρ2) S2 => .ok (.nx ρ2) S2
        | r => r
noncomputable def cFor (fi : DI) (tg : Tg) (b : DS) : DS := fun ρ S => toS (fi ρ S) ρ fun it S1 => forL it tg b big 0 ρ S1
theorem ss_for {tge iter : Expr} {fi : DI} {tg : Tg} (c : Ctx X W k) (hi : SI X C W tge iter fi) (hg : SG X C tge tg) (hb : SSs X C W body cb) (hs : ∀ x, foldedSetIterable iter X.env x = pure x := by intro _; rfl) :
    SS X C W (.For tge iter body [] pos) (cFor fi tg cb) := by
  refine ⟨ps_imp (ps_for c.pass c.calm hi.pi hg.pg hb.ps hs) fun D σ H q => ?_⟩
  obtain ⟨μ, ρ, S, rl, q⟩ := q
  refine ⟨μ, ρ, S, rl, (toS_go q rl).imp fun J H1 q1 => ?_⟩
  obtain ⟨μ1, S1, it, a1, s1, jm, q1⟩ := q1
  refine ⟨fun i m σ H => ∃ μ ρ S, Aft X.K μ1 H1 μ H ∧ Rl X.K C μ ρ S σ H ∧ tSt X.K C W (forL it tg cb m i ρ S) μ H D, ⟨big, μ1, ρ, S1, Aft.refl, rl.next a1 s1, q1⟩, ?_⟩
  rintro i m σ2 H2 ⟨μ2, ρ2, S2, a2, rl2, q2⟩
  cases m with
  | zero => exact q2.elim
  | succ m =>
    have jj := jm μ2 S2 H2 a2.aw rl2.sr i
    unfold forL at q2
    cases e1 : it S2 i with
    | none => rw [e1] at q2; exact q2.elim
    | some o =>
      rw [e1] at q2 jj
      cases o with
      | none => exact .inl ⟨jj, q2 μ2 σ2 H2 Aft.refl rl2⟩
      | some d =>
        obtain ⟨j1, j2⟩ := jj
        cases e2 : tg.asg d ρ2 with
        | none => simp only [e2] at q2; exact q2.elim
        | some ρ3 =>
          simp only [e2] at q2
          refine .inr ⟨j1, fun σ' H' => ∃ μ ρ S, Aft X.K μ1 H1 μ H' ∧ Rl X.K C μ ρ S σ' H' ∧ tSt X.K C W (forL it tg cb m (i + 1) ρ S) μ H' D, fun σ' H' z => ⟨m, Nat.lt_succ_self _, z⟩, fun x H3 y => ?_⟩
          obtain ⟨a3, s3, vr3⟩ := j2 x H3 y
          refine ⟨μ2, ρ2, S2, d, ρ3, rl2.next a3 s3, vr3, e2, fun σ4 _ rl4 => ⟨μ2, ρ3, S2, rl4, ?_⟩⟩
          cases hr : cb ρ3 S2 with
          | ok o S' =>
            rw [hr] at q2
            cases o with
            | nx ρ1 => exact fun μ' σ' H' a rl' => ⟨μ', ρ1, S', (a2.trans a3).trans a, rl', tSt.aft (r := forL it tg cb m (i + 1) ρ1 S') q2 (a3.trans a)⟩
            | ct ρ1 => exact fun μ' σ' H' a rl' => ⟨μ', ρ1, S', (a2.trans a3).trans a, rl', tSt.aft (r := forL it tg cb m (i + 1) ρ1 S') q2 (a3.trans a)⟩
            | rt d => exact fun μ' H' v a => q2 μ' H' v (a3.trans a)
            | bk d => exact fun μ' σ' H' a => q2 μ' σ' H' (a3.trans a)
            | ex c d => exact fun μ' σ' H' a => q2 μ' σ' H' (a3.trans a)
          | exn c S' => rw [hr] at q2; exact q2
          | stuck => rw [hr] at q2; exact q2

/-! ### list comprehensions -/
def Res.bdN {α β : Type} (r : Res α) (f : α → Sto → Res β) : Res β :=
  match r with
  | .ok a S => f a S
  | .exn _ _ => .stuck
  | .stuck => .stuck
@[simp] theorem Res.bdN_ok {α β : Type} (a : α) (S : Sto) (f : α → Sto → Res β) : (Res.ok a S).bdN f = f a S := rfl
@[simp] theorem Res.bdN_exn {α β : Type} (c : Nat) (S : Sto) (f : α → Sto → Res β) : (Res.exn c S : Res α).bdN f = .stuck := rfl
@[simp] theorem Res.bdN_stuck {α β : Type} (f : α → Sto → Res β) : (Res.stuck : Res α).bdN f = .stuck := rfl
theorem tR.bdN {α β γ δ : Type} {K : PySem.W.Frag} {P : Mu → Hp → α → β → Prop} {P2 : Mu → Hp → γ → δ → Prop} {r : Res α} {kk : α → Sto → Res γ} {Q : δ → Hp → Prop} {μ : Mu} {σ σ' : L2.St} {H : Hp} (h : tR K C W P2 (r.bdN kk) μ σ H Q) :
    tR K C W0 P r μ σ' H fun v H1 => ∃ μ1 S1 d, Aft K μ H μ1 H1 ∧ SR K C μ1 S1 H1 ∧ P μ1 H1 d v ∧ tR K C W P2 (kk d S1) μ1 σ H1 Q := by
  cases r with
  | ok d S' => exact fun μ' H' v a s q => ⟨μ', S', d, a, s, q, tR.aft (r := kk d S') h a⟩
  | exn c S' => exact h.elim
  | stuck => exact h.elim
structure STs (X : Cx) (C : Nat → Addr) (W : WX) (ifs : List Expr) (f : DT) : Prop where
  pts : PTs X ifs (tG X.K C W PB f)
theorem pts_imp {ifs : List Expr} {w w' : TT} (h : PTs X ifs w) (k : ∀ σ H R, w' σ H R → w σ H R) : PTs X ifs w' := ⟨fun pins s σ H R I q => h.run pins s σ H R I (k _ _ _ q)⟩
def tTrue : DT := fun _ S => .ok true S
theorem sts_nil : STs X C W [] tTrue := ⟨pts_imp pts_nil fun σ H Q ⟨μ, ρ, S, rl, q⟩ => q μ H true Aft.refl rl.sr rfl⟩
theorem sts_one (h1 : ST X C W e t) : STs X C W [e] t := ⟨pts_one h1.pt⟩
def lcL (it : Itf) (tg : Tg) (cond : DT) (elt : DE) (ρ : Ev) (n : Nat) : Nat → Nat → Sto → Res Dv
  | 0, _, _ => .stuck
  | m + 1, i, S => match it S i with
    | none => .stuck
    | some none => .ok (.ref n) S
    | some (some d) => match tg.asg d ρ with
      | none => .stuck
      | some ρ2 => (cond ρ2 S).bdN fun c S1 => if c = true then (elt ρ2 S1).bdN fun y S2 => (match S2[n]? with
          | some (.lst acc) => if acc.length < lim then lcL it tg cond elt ρ n m (i + 1) (S2.set n (.lst (acc ++ [y]))) else .stuck
          | _ => .stuck) else lcL it tg cond elt ρ n m (i + 1) S1
noncomputable def eLc (fi : DI) (tg : Tg) (cond : DT) (elt : DE) (vs : List Nat) : DE := fun ρ S => (fi ρ S).bd fun it S1 => lcL it tg cond elt (wipeD ρ vs) S1.length big 0 (S1 ++ [.lst []])
section
variable {elt tge iter : Expr} {ifs : List Expr} {scope : Scope} {own : List (Str × Nat)} {fi : DI} {tg : Tg} {cond : DT}
theorem lc_go {σ : L2.St} {H : Hp} {Q : VK} {vs : List Nat} (hsl : ∀ i ∈ tg.slots, i ∈ vs) (q : tG X.K C W (PV X.K) (eLc fi tg cond f vs) σ H Q) :
    tLc (tG X.K C W (Jm X.K C) fi) (tTg X.K C tg) (tG X.K C W0 PB cond) (tG X.K C W0 (PV X.K) f) vs σ H Q := by
  obtain ⟨μ, ρ, S, rl, q⟩ := q
  refine ⟨μ, ρ, S, rl, (tR.bd q).imp fun J H1 q1 => ?_⟩
  obtain ⟨μ1, S1, it, a1, s1, jm, q1⟩ := q1
  intro D hD
  have af : Aft X.K μ1 H1 (μ1.add D) (L2.upd H1 D (.lst [])) := s1.alloc_aft hD
  have sr2 : SR X.K C (μ1.add D) (S1 ++ [.lst []]) (L2.upd H1 D (.lst [])) := s1.alloc hD ⟨[], rfl, VRs_nil.mpr rfl⟩
  have atD : (μ1.add D).tr[S1.length]? = some D := by
    show (μ1.tr ++ [D])[S1.length]? = some D
    rw [List.getElem?_append_right (by rw [s1.len]; exact Nat.le_refl _), s1.len]
    simp
  refine ⟨fun i m H => ∃ μ S, Aft X.K (μ1.add D) (L2.upd H1 D (.lst [])) μ H ∧ SR X.K C μ S H ∧ tR X.K C W (PV X.K) (lcL it tg cond f (wipeD ρ vs) S1.length m i S) μ σ H Q, ⟨big, _, _, Aft.refl, sr2, tR.aft q1 af⟩, ?_⟩
  rintro i m H2 ⟨μ2, S2, a2, s2, q2⟩
  cases m with
  | zero => exact q2.elim
  | succ m =>
    have jj := jm μ2 S2 H2 (af.trans a2).aw s2 i
    have dd : μ2.tr[S1.length]? = some D := a2.at atD
    unfold lcL at q2
    cases e1 : it S2 i with
    | none => simp only [e1] at q2; exact q2.elim
    | some o =>
      simp only [e1] at q2 jj
      cases o with
      | none => exact .inl ⟨jj, q2 μ2 H2 _ Aft.refl s2 (VR_ref.mpr ⟨D, dd, rfl⟩)⟩
      | some d =>
        obtain ⟨j1, j2⟩ := jj
        cases e2 : tg.asg d (wipeD ρ vs) with
        | none => simp only [e2] at q2; exact q2.elim
        | some ρ3 =>
          simp only [e2] at q2
          refine .inr ⟨j1, fun H => ∃ μ S, Aft X.K (μ1.add D) (L2.upd H1 D (.lst [])) μ H ∧ SR X.K C μ S H ∧ tR X.K C W (PV X.K) (lcL it tg cond f (wipeD ρ vs) S1.length m (i + 1) S) μ σ H Q, fun H' z => ⟨m, Nat.lt_succ_self _, z⟩, fun x H3 y => ?_⟩
          obtain ⟨a3, s3, vr3⟩ := j2 x H3 y
          have rlw : Rl X.K C μ2 (wipeD ρ vs) S2 (L2.wipe σ vs) H3 := (rl.next ((a1.trans af).trans (a2.trans a3)) s3).wipe vs
          refine ⟨μ2, wipeD ρ vs, S2, d, ρ3, rlw, vr3, e2, fun σ4 hw rl4 => ⟨?_, μ2, ρ3, S2, rl4, (tR.bdN (tR.aft q2 a3)).imp fun cc H5 q5 => ?_⟩⟩
          · have h1 := hw vs hsl
            have h2 : L2.wipe (L2.wipe σ vs) vs = L2.wipe σ vs := by
              apply List.ext_getElem?
              intro j
              rw [wipe_get, wipe_get]
              by_cases hj : j ∈ vs
              · rw [if_pos hj, if_pos hj]
                cases σ[j]? <;> rfl
              · rw [if_neg hj, if_neg hj]
            rw [h1, h2]
          · obtain ⟨μ5, S5, c5, a5, s5, ec, q5⟩ := q5
            cases (show c5 = cc from ec)
            cases cc with
            | false =>
              rw [if_neg Bool.false_ne_true] at q5 ⊢
              exact ⟨μ5, S5, (a2.trans a3).trans a5, s5, q5⟩
            | true =>
              rw [if_pos rfl] at q5 ⊢
              refine ⟨μ5, ρ3, S5, rl4.next a5 s5, (tR.bdN q5).imp fun yv H6 q6 => ?_⟩
              obtain ⟨μ6, S6, y6, a6, s6, vr6, q6⟩ := q6
              split at q6
              · rename_i acc eacc
                by_cases hl : acc.length < lim
                · rw [if_pos hl] at q6
                  have d6 : μ6.tr[S1.length]? = some D := a6.at (a5.at dd)
                  obtain ⟨ho, h61, h62⟩ := s6.ob _ _ D eacc d6
                  obtain ⟨av, rfl, h63⟩ := h62
                  have af6 : Aft X.K μ6 H6 μ6 (L2.upd H6 D (.lst (av ++ [yv]))) := s6.put_aft d6 (by rw [h61]; exact True.intro)
                  refine ⟨av, h61, by rw [← h63.length]; exact Nat.lt_of_lt_of_le hl lim_line, μ6, _, (((a2.trans a3).trans a5).trans a6).trans af6, s6.put (o := .lst (acc ++ [y6])) d6 (by rw [h61]; exact True.intro) ⟨av ++ [yv], rfl, ?_⟩, tR.aft q6 af6⟩
                  exact (h63.mono af6).append (VRs_cons.mpr ⟨yv, [], rfl, VR.mono af6 vr6, VRs_nil.mpr rfl⟩)
                · rw [if_neg hl] at q6
                  exact q6.elim
              · exact q6.elim
theorem se_lc (c : Ctx X W k) (hi : SI X C W tge iter fi) (ok : BlkOk X.N X.env.scope scope own) (hsl : ∀ i ∈ tg.slots, i ∈ own.map (·.2)) (hg : ∀ (s : Shared) (H : Hp) (C' : Addr) (cl : List (Str × Addr)) (fp : List Addr), SG (X.blk s H scope (compEnvC scope cl C' X.env) fp) C tge tg)
    (ht : ∀ (s : Shared) (H : Hp) (C' : Addr) (cl : List (Str × Addr)) (fp : List Addr), STs (X.blk s H scope (compEnvC scope cl C' X.env) fp) C W0 ifs cond)
    (he : ∀ (s : Shared) (H : Hp) (C' : Addr) (cl : List (Str × Addr)) (fp : List Addr), SE (X.blk s H scope (compEnvC scope cl C' X.env) fp) C W0 elt f)
    (hs : ∀ x, foldedSetIterable iter X.env x = pure x := by intro _; rfl) : SE X C W (.ListComp elt [⟨tge, iter, ifs, 0⟩] scope pos) (eLc fi tg cond f (own.map (·.2))) :=
  ⟨pe_imp (pe_lc (g := tTg X.K C tg) (tt := tG X.K C W0 PB cond) (te := tG X.K C W0 (PV X.K) f) c.calm c.nd hi.pi ok (fun s H C' cl fp => (hg s H C' cl fp).pg) (fun s H C' cl fp => (ht s H C' cl fp).pts) (fun s H C' cl fp => (he s H C' cl fp).pe) hs) fun _ _ _ q => lc_go hsl q⟩
/-- .. whose list is a value -/
def lcV (it : Itf) (tg : Tg) (cond : DT) (elt : DE) (ρ : Ev) : Nat → Nat → List Dv → Sto → Res Dv
  | 0, _, _, _ => .stuck
  | m + 1, i, acc, S => match it S i with
    | none => .stuck
    | some none => .ok (.fz acc) S
    | some (some d) => match tg.asg d ρ with
      | none => .stuck
      | some ρ2 => (cond ρ2 S).bdN fun c S1 => if c = true then (elt ρ2 S1).bdN fun y S2 => (if acc.length < lim then lcV it tg cond elt ρ m (i + 1) (acc ++ [y]) S2 else .stuck) else lcV it tg cond elt ρ m (i + 1) acc S1
noncomputable def eLcV (fi : DI) (tg : Tg) (cond : DT) (elt : DE) (vs : List Nat) : DE := fun ρ S => (fi ρ S).bd fun it S1 => lcV it tg cond elt (wipeD ρ vs) big 0 [] S1
theorem lcV_go {σ : L2.St} {H : Hp} {Q : VK} {vs : List Nat} (hsl : ∀ i ∈ tg.slots, i ∈ vs) (q : tG X.K C W (PV X.K) (eLcV fi tg cond f vs) σ H Q) :
    tLc (tG X.K C W (Jm X.K C) fi) (tTg X.K C tg) (tG X.K C W0 PB cond) (tG X.K C W0 (PV X.K) f) vs σ H Q := by
  obtain ⟨μ, ρ, S, rl, q⟩ := q
  refine ⟨μ, ρ, S, rl, (tR.bd q).imp fun J H1 q1 => ?_⟩
  obtain ⟨μ1, S1, it, a1, s1, jm, q1⟩ := q1
  intro D hD
  have nD : D ∉ μ1.tr := s1.notin hD
  have hD2 : D ∉ μ1.hd := fun z => s1.hids D z hD
  -- the state of the loop: the list at D is hidden
  let I : Nat → Nat → Hp → Prop := fun i m H => ∃ μ S acc av, μ.hd = D :: μ1.hd ∧ D ∉ μ.tr ∧ Aw X.K μ1 H1 μ H ∧ Aft X.K μ1 H1 ⟨μ.tr, μ1.hd⟩ H ∧ SR X.K C μ S H ∧ H D = some (.lst av) ∧ VRs X.K H μ acc av ∧ tR X.K C W (PV X.K) (lcV it tg cond f (wipeD ρ vs) m i acc S) μ1 σ H1 Q
  have hS : SR X.K C (μ1.hide D) S1 (L2.upd H1 D (.lst [])) := by
    refine s1.keepw (Aw.hide hD) rfl (fun n x e => upd_ne ?_) fun x hx => ?_
    · rintro rfl
      exact nD (List.mem_of_getElem? e)
    · rcases List.mem_cons.mp hx with rfl | z
      · rw [upd_same]
        exact ⟨Option.some_ne_none _, nD⟩
      · exact ⟨(Aft.new (K := X.K) (μ := μ1) (o := .lst []) hD).aw.there x (s1.hids x z), s1.apart x z⟩
  refine ⟨I, ⟨big, μ1.hide D, S1, [], [], rfl, nD, Aw.hide hD, Aft.new hD, hS, upd_same, VRs_nil.mpr rfl, q1⟩, ?_⟩
  rintro i m H2 ⟨μ2, S2, acc, av, eh, nD2, a2, b2, s2, hd2, vacc, q2⟩
  cases m with
  | zero => exact q2.elim
  | succ m =>
    have jj := jm μ2 S2 H2 a2 s2 i
    unfold lcV at q2
    cases e1 : it S2 i with
    | none => simp only [e1] at q2; exact q2.elim
    | some o =>
      simp only [e1] at q2 jj
      have uh : Aw X.K μ2 H2 ⟨μ2.tr, μ1.hd⟩ H2 := Aw.unhide fun x hx => by rw [eh]; exact List.mem_cons_of_mem _ hx
      have su : SR X.K C ⟨μ2.tr, μ1.hd⟩ S2 H2 := s2.keepw uh rfl (fun _ _ _ => rfl) fun x hx => have z : x ∈ μ2.hd := by rw [eh]; exact List.mem_cons_of_mem _ hx
        ⟨s2.hids x z, s2.apart x z⟩
      cases o with
      | none =>
        exact .inl ⟨jj, q2 ⟨μ2.tr, μ1.hd⟩ H2 _ b2 su (VR_fz.mpr ⟨D, av, rfl, .inr (.inr ⟨hd2, nD2, hD2⟩), vacc.weak uh⟩)⟩
      | some d =>
        obtain ⟨j1, j2⟩ := jj
        cases e2 : tg.asg d (wipeD ρ vs) with
        | none => simp only [e2] at q2; exact q2.elim
        | some ρ3 =>
          simp only [e2] at q2
          refine .inr ⟨j1, I (i + 1) m, fun H' z => ⟨m, Nat.lt_succ_self _, z⟩, fun x H3 y => ?_⟩
          obtain ⟨a3, s3, vr3⟩ := j2 x H3 y
          have rlw : Rl X.K C μ2 (wipeD ρ vs) S2 (L2.wipe σ vs) H3 := (rl.weak ((a1.aw.trans a2).trans a3.aw) s3).wipe vs
          have b3 := b2.trans (a3.unh μ1.hd)
          refine ⟨μ2, wipeD ρ vs, S2, d, ρ3, rlw, vr3, e2, fun σ4 hw rl4 => ⟨?_, μ2, ρ3, S2, rl4, ?_⟩⟩
          · have h1 := hw vs hsl
            have h2 : L2.wipe (L2.wipe σ vs) vs = L2.wipe σ vs := by
              apply List.ext_getElem?
              intro j
              rw [wipe_get, wipe_get]
              by_cases hj : j ∈ vs
              · rw [if_pos hj, if_pos hj]
                cases σ[j]? <;> rfl
              · rw [if_neg hj, if_neg hj]
            rw [h1, h2]
          · cases hc : cond ρ3 S2 with
            | exn c S' => rw [hc] at q2; exact q2.elim
            | stuck => rw [hc] at q2; exact q2.elim
            | ok c5 S5 =>
              rw [hc] at q2
              simp only [Res.bdN_ok] at q2
              intro μ5 H5 cc a5 s5 ec
              cases (show c5 = cc from ec)
              have b5 := b3.trans (a5.unh μ1.hd)
              have e3 : H3 D = some (.lst av) := a3.all D _ nD2 hd2
              have e5 : H5 D = some (.lst av) := a5.all D _ nD2 e3
              have nD5 : D ∉ μ5.tr := a5.aw.outTr nD2 e3
              cases c5 with
              | false =>
                rw [if_neg Bool.false_ne_true] at q2 ⊢
                exact ⟨μ5, S5, acc, av, a5.hid.trans eh, nD5, a2.trans (a3.trans a5).aw, b5, s5, e5, vacc.mono (a3.trans a5), q2⟩
              | true =>
                rw [if_pos rfl] at q2 ⊢
                refine ⟨μ5, ρ3, S5, rl4.next a5 s5, ?_⟩
                cases he : f ρ3 S5 with
                | exn c S' => rw [he] at q2; exact q2.elim
                | stuck => rw [he] at q2; exact q2.elim
                | ok y6 S6 =>
                  rw [he] at q2
                  simp only [Res.bdN_ok] at q2
                  intro μ6 H6 yv a6 s6 vr6
                  have b6 := b5.trans (a6.unh μ1.hd)
                  have nD6 : D ∉ μ6.tr := a6.aw.outTr nD5 e5
                  have e6 : H6 D = some (.lst av) := a6.all D _ nD5 e5
                  have eh6 : μ6.hd = D :: μ1.hd := a6.hid.trans (a5.hid.trans eh)
                  have vacc6 : VRs X.K H6 μ6 acc av := vacc.mono ((a3.trans a5).trans a6)
                  by_cases hl : acc.length < lim
                  · rw [if_pos hl] at q2
                    have aw7 : Aw X.K μ6 H6 μ6 (L2.upd H6 D (.lst (av ++ [yv]))) := Aw.upd (by rw [e6]; trivial) (.inl fun z => z.2 (by rw [eh6]; exact List.mem_cons_self))
                    refine ⟨av, e6, by rw [← vacc6.length]; exact Nat.lt_of_lt_of_le hl lim_line, μ6, S6, acc ++ [y6], av ++ [yv], eh6, nD6, (a2.trans ((a3.trans a5).trans a6).aw).trans aw7, b6.patch hD, ?_, upd_same, ?_, q2⟩
                    · refine s6.keepw aw7 rfl (fun n x e => upd_ne ?_) fun x hx => ⟨aw7.there x (s6.hids x hx), s6.apart x hx⟩
                      rintro rfl
                      exact nD6 (List.mem_of_getElem? e)
                    · exact (vacc6.weak aw7).append (VRs_cons.mpr ⟨yv, [], rfl, VR.weak aw7 vr6, VRs_nil.mpr rfl⟩)
                  · rw [if_neg hl] at q2
                    exact q2.elim
theorem se_lcV (c : Ctx X W k) (hi : SI X C W tge iter fi) (ok : BlkOk X.N X.env.scope scope own) (hsl : ∀ i ∈ tg.slots, i ∈ own.map (·.2)) (hg : ∀ (s : Shared) (H : Hp) (C' : Addr) (cl : List (Str × Addr)) (fp : List Addr), SG (X.blk s H scope (compEnvC scope cl C' X.env) fp) C tge tg)
    (ht : ∀ (s : Shared) (H : Hp) (C' : Addr) (cl : List (Str × Addr)) (fp : List Addr), STs (X.blk s H scope (compEnvC scope cl C' X.env) fp) C W0 ifs cond)
    (he : ∀ (s : Shared) (H : Hp) (C' : Addr) (cl : List (Str × Addr)) (fp : List Addr), SE (X.blk s H scope (compEnvC scope cl C' X.env) fp) C W0 elt f)
    (hs : ∀ x, foldedSetIterable iter X.env x = pure x := by intro _; rfl) : SE X C W (.ListComp elt [⟨tge, iter, ifs, 0⟩] scope pos) (eLcV fi tg cond f (own.map (·.2))) :=
  ⟨pe_imp (pe_lc (g := tTg X.K C tg) (tt := tG X.K C W0 PB cond) (te := tG X.K C W0 (PV X.K) f) c.calm c.nd hi.pi ok (fun s H C' cl fp => (hg s H C' cl fp).pg) (fun s H C' cl fp => (ht s H C' cl fp).pts) (fun s H C' cl fp => (he s H C' cl fp).pe) hs) fun _ _ _ q => lcV_go hsl q⟩
theorem ss_setLcV (i : Nat) {y : Str} {py spos : Pos} (c : Ctx X W k) (hi : SI X C W tge iter fi) (ok : BlkOk X.N X.env.scope scope own) (hsl : ∀ i ∈ tg.slots, i ∈ own.map (·.2)) (hg : ∀ (s : Shared) (H : Hp) (C' : Addr) (cl : List (Str × Addr)) (fp : List Addr), SG (X.blk s H scope (compEnvC scope cl C' X.env) fp) C tge tg)
    (ht : ∀ (s : Shared) (H : Hp) (C' : Addr) (cl : List (Str × Addr)) (fp : List Addr), STs (X.blk s H scope (compEnvC scope cl C' X.env) fp) C W0 ifs cond)
    (he : ∀ (s : Shared) (H : Hp) (C' : Addr) (cl : List (Str × Addr)) (fp : List Addr), SE (X.blk s H scope (compEnvC scope cl C' X.env) fp) C W0 elt f)
    (hsw : swapsWith (.ListComp elt [⟨tge, iter, ifs, 0⟩] scope pos) (some (.Name y py)) spos.line X.env = pure true) (hy : X.N[i]? = some y := by rfl) (hyl : X.env.scope.names.lookup y = some .local := by rfl)
    (hs : ∀ x, foldedSetIterable iter X.env x = pure x := by intro _; rfl) : SS X C W (.Assign [.Name y py] (.ListComp elt [⟨tge, iter, ifs, 0⟩] scope pos) spos) (cSet i (eLcV fi tg cond f (own.map (·.2)))) := by
  refine ⟨ps_imp (ps_setLc (g := tTg X.K C tg) (tt := tG X.K C W0 PB cond) (te := tG X.K C W0 (PV X.K) f) c.calm c.nd hy hyl hsw hi.pi ok (fun s H C' cl fp => (hg s H C' cl fp).pg) (fun s H C' cl fp => (ht s H C' cl fp).pts) (fun s H C' cl fp => (he s H C' cl fp).pe) hs) fun D σ H q => ?_⟩
  obtain ⟨μ, ρ, S, rl, q⟩ := q
  refine lcV_go (W := W) hsl ⟨μ, ρ, S, rl, (toS_go q rl).imp fun v H1 q1 => ?_⟩
  obtain ⟨μ1, S1, d, a1, s1, vr, q1⟩ := q1
  exact q1 μ1 _ H1 Aft.refl ((rl.next a1 s1).set vr i)
/-- what is forgotten: locals that no one asks for any more -/
def cWipe (vs : List Nat) : DS := fun ρ S => .ok (.nx (wipeD ρ vs)) S
theorem wipeD_len (ρ : Ev) : ∀ vs : List Nat, (wipeD ρ vs).length = ρ.length
  | [] => rfl
  | v :: vs => by simp [wipeD, wipeD_len ρ vs]
theorem wipeD_sub (ρ : Ev) : ∀ (vs : List Nat) (i : Nat) (d : Dv), (wipeD ρ vs)[i]? = some (some d) → ρ[i]? = some (some d)
  | [], _, _, h => h
  | v :: vs, i, d, h => by
    simp only [wipeD, List.getElem?_set] at h
    split at h
    · split at h <;> cases h
    · exact wipeD_sub ρ vs i d h
theorem Rl.forget {K : PySem.W.Frag} {C : Nat → Addr} {H : Hp} {μ : Mu} {S : Sto} {ρ : Ev} {σ : L2.St} (r : Rl K C μ ρ S σ H) (vs : List Nat) : Rl K C μ (wipeD ρ vs) S σ H :=
  ⟨r.sr, by rw [wipeD_len]; exact r.len, fun i d e => r.sl i d (wipeD_sub ρ vs i d e)⟩
theorem ss_wipe (vs : List Nat) : SSs X C W [] (cWipe vs) := by
  refine ⟨pss_imp pss_nil fun D σ H q => ?_⟩
  obtain ⟨μ, ρ, S, rl, q⟩ := q
  exact q μ σ H Aft.refl (rl.forget vs)
/-- name = [..] -/
theorem ss_setLc (i : Nat) {y : Str} {py spos : Pos} (c : Ctx X W k) (hi : SI X C W tge iter fi) (ok : BlkOk X.N X.env.scope scope own) (hsl : ∀ i ∈ tg.slots, i ∈ own.map (·.2)) (hg : ∀ (s : Shared) (H : Hp) (C' : Addr) (cl : List (Str × Addr)) (fp : List Addr), SG (X.blk s H scope (compEnvC scope cl C' X.env) fp) C tge tg)
    (ht : ∀ (s : Shared) (H : Hp) (C' : Addr) (cl : List (Str × Addr)) (fp : List Addr), STs (X.blk s H scope (compEnvC scope cl C' X.env) fp) C W0 ifs cond)
    (he : ∀ (s : Shared) (H : Hp) (C' : Addr) (cl : List (Str × Addr)) (fp : List Addr), SE (X.blk s H scope (compEnvC scope cl C' X.env) fp) C W0 elt f)
    (hsw : swapsWith (.ListComp elt [⟨tge, iter, ifs, 0⟩] scope pos) (some (.Name y py)) spos.line X.env = pure true) (hy : X.N[i]? = some y := by rfl) (hyl : X.env.scope.names.lookup y = some .local := by rfl)
    (hs : ∀ x, foldedSetIterable iter X.env x = pure x := by intro _; rfl) : SS X C W (.Assign [.Name y py] (.ListComp elt [⟨tge, iter, ifs, 0⟩] scope pos) spos) (cSet i (eLc fi tg cond f (own.map (·.2)))) := by
  refine ⟨ps_imp (ps_setLc (g := tTg X.K C tg) (tt := tG X.K C W0 PB cond) (te := tG X.K C W0 (PV X.K) f) c.calm c.nd hy hyl hsw hi.pi ok (fun s H C' cl fp => (hg s H C' cl fp).pg) (fun s H C' cl fp => (ht s H C' cl fp).pts) (fun s H C' cl fp => (he s H C' cl fp).pe) hs) fun D σ H q => ?_⟩
  obtain ⟨μ, ρ, S, rl, q⟩ := q
  refine lc_go (W := W) hsl ⟨μ, ρ, S, rl, (toS_go q rl).imp fun v H1 q1 => ?_⟩
  obtain ⟨μ1, S1, d, a1, s1, vr, q1⟩ := q1
  exact q1 μ1 _ H1 Aft.refl ((rl.next a1 s1).set vr i)
end
end
end Fc

set_option exponentiation.threshold 256
set_option maxHeartbeats 4000000
set_option maxHeartbeats 4000000
/-! FcCall: defs, calls of defs, the law's own call. -/
namespace Fc
open PySem L2
abbrev Den := List Dv → Sto → Res Dv
abbrev WEx (E : XK) : WX := fun cls d _ H => E cls d H
/-- what a def keeps: its denotation -/
def spG (K : PySem.W.Frag) (C : Nat → Addr) (n : Nat) (den : Den) : Sp := fun vs H Q E => vs.length = n ∧ ∃ μ S ds, SR K C μ S H ∧ VRs K H μ ds vs ∧ tR K C (WEx E) (PV K) (den ds S) μ [] H Q
structure FnG (P : Program) (w : World) (K : PySem.W.Frag) (mg : Str → Option Value) (base : Heap) (C : Nat → Addr) (k : Nat) (f : Addr) (fd : FuncData) (ps : List Str) (den : Den) : Prop where
  run : ∀ (A : Around) (outer : List Env) (s : Shared) (H : Hp) (args : Args) (us : List Value) (vs : List V) (Q : VK) (E : XK), Room k A → A.guards = some [] → Env0 P w K mg base A outer s H → BindsTo s fd args (ps.zip us) → Vals vs us →
    spG K C ps.length den vs H Q E → codeAny (model P w) A (.call (.ref f) args) (CR (L2.CX P w) outer P w H s Q E) s
/-- a def of the module under a name -/
structure Df (P : Program) (w : World) (K : PySem.W.Frag) (mg : Str → Option Value) (base : Heap) (C : Nat → Addr) (x : Str) (n k : Nat) (den : Den) : Prop where
  ex : ∃ f fd ps, mg x = some (.ref f) ∧ PySem.W.keepIn K (.ref f) = true ∧ Binds K fd ps [] ∧ ps.length = n ∧ FnG P w K mg base C k f fd ps den
section
variable {P : Program} {w : World} {K : PySem.W.Frag} {mg : Str → Option Value} {base : Heap} {C : Nat → Addr} {x : Str} {n j k : Nat} {den den' : Den}
theorem FnG.mono {f : Addr} {fd : FuncData} {ps : List Str} (F : FnG P w K mg base C j f fd ps den) (h : j ≤ k) : FnG P w K mg base C k f fd ps den :=
  ⟨fun A outer s H args us vs Q E hr => F.run A outer s H args us vs Q E (hr.mono h)⟩
theorem Df.mono (F : Df P w K mg base C x n j den) (h : j ≤ k) : Df P w K mg base C x n k den := by
  obtain ⟨f, fd, ps, h1, h2, h3, h4, h5⟩ := F.ex
  exact ⟨f, fd, ps, h1, h2, h3, h4, h5.mono h⟩
end

section
variable {X : Cx} {C : Nat → Addr} {W : WX} {j k n : Nat} {e : Expr} {es : List Expr} {l : DL} {den : Den} {x : Str} {p pos : Pos}
def eCall (n : Nat) (den : Den) (l : DL) : DE := fun ρ S => (l ρ S).bd fun ds S1 => if ds.length = n then den ds S1 else .stuck
theorem run_fnG {pins : List (Addr × Obj)} {σ : L2.St} {H : Hp} {s : Shared} {Q : VK} {us : List Value} {vs : List V} {f : Addr} {fd : FuncData} {ps : List Str} (c : Ctx X W j) (F : FnG X.prog X.w X.K X.mg X.base C k f fd ps den) (hk : k ≤ j) (hb : Binds X.K fd ps [])
    (I : Inv X pins σ H s) (r : Vals vs us) {μ : Mu} {S : Sto} {ds : List Dv} (sr : SR X.K C μ S H) (vr : VRs X.K H μ ds vs) (hl : ds.length = ps.length) (q : tR X.K C W (PV X.K) (den ds S) μ σ H Q) :
    wpAny (model X.prog X.w) X.A (call (.ref f) us) (EP X pins σ Q) X.xe s := by
  have hlu : us.length = ps.length := by rw [← r.length, ← vr.length]; exact hl
  have hbind := hb s us I.kIn (by rw [List.append_nil]; exact hlu)
  rw [List.append_nil] at hbind
  have q' : tR X.K C (WEx (WE W σ)) (PV X.K) (den ds S) μ [] H Q := by
    cases hd : den ds S with
    | ok d S' => rw [hd] at q; exact q
    | exn cc S' => rw [hd] at q; exact q
    | stuck => rw [hd] at q; exact q
  refine wpAny_call (codeAny_mono (F.run X.A X.stack s H ⟨us, []⟩ us vs Q (WE W σ) (c.room.mono hk) c.gd I.env0 hbind r ⟨by rw [← vr.length]; exact hl, μ, S, ds, sr, vr, q'⟩) fun res s' hq => ?_)
  match res, hq with
  | .error ex, hq => exact passAt c.tk σ pins H s ex s' I hq
  | .ok (.ret u), hq => exact I.after hq
  | .ok .next, hq => exact False.elim hq
  | .ok .brk, hq => exact False.elim hq
  | .ok .cont, hq => exact False.elim hq
theorem se_call (c : Ctx X W j) (G : Df X.prog X.w X.K X.mg X.base C x n k den) (ha : SL X C W (e :: es) l) (hk : k ≤ j := by decide) (hg : Gl X x := by rfl) (hdb : (x == ("__debug__" : Str)) = false := by decide)
    (he : starEach (e :: es) X.env = (false, eval e X.env) :: starEach es X.env := by rfl) (hpl : (backTo pos (starEach es X.env)).any (·.1) = false := by rfl) : SE X C W (.Call (.Name x p) (e :: es) [] pos) (eCall n den l) := by
  obtain ⟨f, fd, ps, hm, hkp, hb, hn, F⟩ := G.ex
  refine ⟨⟨fun pins s σ H Q I h => ?_⟩⟩
  obtain ⟨μ, ρ, S, rl, q⟩ := h
  refine wpAny_Call_Name_kw (ld_glob I hg hm ?_ hdb)
  refine PySem.W.callWith_K (h₀ := X.base) I.ok.mod.kin hkp (thn (ha.pa.run pos pins s σ H _ I ⟨μ, ρ, S, rl, tR.bd q⟩) fun us s1 hq => ?_) he hpl
  obtain ⟨vs, H1, I1, r, μ1, S1, ds, a1, s1', vr, q1⟩ := hq
  refine ⟨I1.kIn, ?_⟩
  by_cases hl : ds.length = n
  · rw [if_pos hl] at q1
    exact run_fnG c F hk hb I1 r s1' vr (hl.trans hn.symm) q1
  · rw [if_neg hl] at q1
    exact q1.elim
theorem se_call0 (c : Ctx X W j) (G : Df X.prog X.w X.K X.mg X.base C x 0 k den) (hk : k ≤ j := by decide) (hg : Gl X x := by rfl) (hdb : (x == ("__debug__" : Str)) = false := by decide) : SE X C W (.Call (.Name x p) [] [] pos) (fun _ S => den [] S) := by
  obtain ⟨f, fd, ps, hm, hkp, hb, hn, F⟩ := G.ex
  refine ⟨⟨fun pins s σ H Q I h => ?_⟩⟩
  obtain ⟨μ, ρ, S, rl, q⟩ := h
  refine wpAny_Call_Name_kw (ld_glob I hg hm ?_ hdb)
  exact PySem.W.callWith_K0 I.kIn hkp (run_fnG (us := []) c F hk hb I .nil rl.sr (VRs_nil.mpr rfl) hn.symm q)
end

/-! ### a def, by its body -/
def runB (n : Nat) (body : DS) : Den := fun args S => match body (args.map some ++ List.replicate (n - args.length) none) S with
  | .ok (.rt d) S' => .ok d S'
  | .ok (.nx _) S' => .ok .non S'
  | .ok (.ex c _) S' => .exn c S'
  | _ => .stuck
/-- the context of a body -/
abbrev BX (P : Program) (w : World) (K : PySem.W.Frag) (mg : Str → Option Value) (base : Heap) (N : List Str) (qual : Str) (st : Stmt) (f : Addr) (cdv : Value) (A : Around) (outer : List Env) (s : Shared) (H : Hp) (E : XK) : Cx :=
  cxOf (L2.CX P w) P w K mg base N qual (defScope st) f cdv A outer s H E
theorem guards_deeper (A : Around) (env : Env) : (A.deeper env).guards = A.guards := rfl
section
variable {P : Program} {w : World} {K : PySem.W.Frag} {mg : Str → Option Value} {base : Heap} {C : Nat → Addr} {k : Nat}
theorem start_rl {μ : Mu} {S : Sto} {H : Hp} {ds : List Dv} {vs : List V} {N : List Str} (sr : SR K C μ S H) (vr : VRs K H μ ds vs) : Rl K C μ (ds.map some ++ List.replicate (N.length - ds.length) none) S (L2.start N vs) H := by
  refine ⟨sr, ?_, fun i d e => ?_⟩
  · unfold L2.start
    simp [vr.length]
  · by_cases hi : i < ds.length
    · rw [List.getElem?_append_left (by simpa using hi), List.getElem?_map] at e
      obtain ⟨d', e1, e2⟩ := Option.map_eq_some_iff.mp e
      cases e2
      obtain ⟨v, h1, h2⟩ := vr.get e1
      refine ⟨v, ?_, h2⟩
      unfold L2.start
      rw [List.getElem?_append_left (by rw [List.length_map, ← vr.length]; exact hi), List.getElem?_map, h1]
      rfl
    · rw [List.getElem?_append_right (by simpa using hi), List.getElem?_replicate] at e
      split at e <;> cases e
theorem fng_of {x qual : Str} {st : Stmt} {f : Addr} {fd : FuncData} {N ps : List Str} {body : DS} (F : Fun K x qual st f fd) (sc : FnScope N ps (defScope st))
    (hbody : ∀ (cdv : Value) (A : Around) (outer : List Env) (s : Shared) (H : Hp) (E : XK), Ctx (BX P w K mg base N qual st f cdv A outer s H E) (WEx E) k → SSs (BX P w K mg base N qual st f cdv A outer s H E) C (WEx E) (defBody st) body) :
    FnG P w K mg base C (k + 1) f fd ps (runB N.length body) := by
  obtain ⟨oc, od, kV, doc, pm, an, cdv, ct, osl, rfl, lk, hcd⟩ := F.ex
  refine ⟨fun A outer s H args us vs Q E hr hgd e0 hb r hsp => ?_⟩
  obtain ⟨hl, μ, S, ds, sr, vr, q⟩ := hsp
  have inK : K.In s.heap := e0.mod.kin.keeps fun b o z => (e0.bs b o z).1
  have nolim : s.heap.NoLimit := e0.mod.nolimit.keeps fun b o z => (e0.bs b o z).1
  have kinds : ∀ y ∈ ps.zip us, (defScope st).names.lookup y.1 = some .local ∨ ((defScope st).names.lookup y.1 = some .cell ∧ ((cellsFrom (s.heap.objs.size + 1) (defScope st).names []).lookup y.1).isSome = true) := by
    rintro ⟨a, v⟩ hy
    rcases sc.par a (List.of_mem_zip hy).1 with z | z
    · exact .inl z
    · exact .inr ⟨z, PySem.W.cellsFrom_some _ _ _ (.inl z)⟩
  refine codeAny_call_function hr.depth (inK _ _ lk) rfl sc.co sc.gen rfl (PySem.W.codeRec_of inK hcd) (hb _ _ _ _ ?_)
  refine wpAny_newFunctionEnv_cells sc.kind kinds fun env henv s1 hin => ?_
  subst henv
  refine ⟨nolim.keeps hin.toInCall.keep, codeAny_func ?_⟩
  have I : Inv (BX P w K mg base N qual st f cdv A outer s H E) [] (L2.start N vs) H s1 := inv_start sc hr.hd e0 hl r hin
  have ctx : Ctx (BX P w K mg base N qual st f cdv A outer s H E) (WEx E) k := ⟨rfl, hr.deeper _, hgd, takes_of rfl rfl rfl rfl, passes_of rfl, sc.nd⟩
  refine wpAny_mono ((hbody cdv A outer s H E ctx).ps.run [] s1 (L2.start N vs) H { nx := fun _ H' => Q .non H', rt := Q } I ⟨μ, _, S, start_rl (N := N) sr vr, ?_⟩) (fun fl s' hs => ?_) fun ex s' hs => hs
  · unfold runB at q
    cases hb2 : body (ds.map some ++ List.replicate (N.length - ds.length) none) S with
    | ok o S' =>
      rw [hb2] at q
      cases o with
      | nx ρ' => exact fun μ' σ' H' a rl => q μ' H' .non a rl.sr (VR_non.mpr rfl)
      | rt d => exact q
      | bk d => exact q.elim
      | ct d => exact q.elim
      | ex c d => exact fun μ' σ' H' a rl => q μ' H' a rl.sr
    | exn c S' => rw [hb2] at q; exact q.elim
    | stuck => rw [hb2] at q; exact q.elim
  · have fin : ∀ {σ' : L2.St} {H' : Hp} {v : V} {u : Value}, Inv (BX P w K mg base N qual st f cdv A outer s H E) [] σ' H' s' → RelV v u → Q v H' → CE outer P w H s Q u s' :=
      fun {σ' H' v u} J rv z => ⟨v, H', J.os, J.bare, J.base, J.hok, rv, z⟩
    match fl, hs with
    | .ret u, ⟨v, σ', H', J, rv, z⟩ => exact fin J rv z
    | .next, ⟨σ', H', J, z⟩ => exact fin (v := V.non) (u := Value.none) J rfl z
    | .brk, ⟨_, _, _, z⟩ => exact False.elim z
    | .cont, ⟨_, _, _, z⟩ => exact False.elim z
/-- a fact of the head: the def st stands under x -/
structure Fact (K : PySem.W.Frag) (mg : Str → Option Value) (x : Str) (st : Stmt) : Prop where
  ex : ∃ f fd, mg x = some (.ref f) ∧ Fun K x x st f fd
theorem df_of {x : Str} {st : Stmt} {N ps : List Str} {body : DS} (T : Fact K mg x st) (sc : FnScope N ps (defScope st))
    (hbind : ∀ (kV doc pm : Value) (an : Option Addr) (cdv ct : Value) (us : List Value), us.length = ps.length → bindArgs (PySem.W.fnOf x x (defArgs st) (defBody st) (defScope st) .none kV doc pm an cdv ct) ⟨us, []⟩ = pure (ps.zip us))
    (hbody : ∀ (f : Addr) (cdv : Value) (A : Around) (outer : List Env) (s : Shared) (H : Hp) (E : XK), Ctx (BX P w K mg base N x st f cdv A outer s H E) (WEx E) k → SSs (BX P w K mg base N x st f cdv A outer s H E) C (WEx E) (defBody st) body) :
    Df P w K mg base C x ps.length (k + 1) (runB N.length body) := by
  obtain ⟨f, fd, h1, F⟩ := T.ex
  exact ⟨f, fd, ps, h1, F.kp, F.binds hbind, rfl, fng_of F sc (hbody f)⟩
end
/-! ### tidying -/
mutual
/-- all that it points to stands below n -/
def Dv.low (n : Nat) : Dv → Bool
  | .tup ds => Dv.lows n ds
  | .fz ds => Dv.lows n ds
  | .ref m => decide (m < n)
  | .obj _ fs => Dv.lowf n fs
  | _ => true
def Dv.lows (n : Nat) : List Dv → Bool
  | [] => true
  | d :: ds => d.low n && Dv.lows n ds
def Dv.lowf (n : Nat) : List (Str × Dv) → Bool
  | [] => true
  | (_, d) :: ds => d.low n && Dv.lowf n ds
end
def Ob.low (n : Nat) : Ob → Bool
  | .lst ds => Dv.lows n ds
  | .dic kvs => kvs.all fun p => p.2.low n
  | .ldic kvs => kvs.all fun p => p.2.low n
  | .ins _ fs => fs.all fun p => p.2.low n
theorem lows_all (n : Nat) : ∀ ds : List Dv, Dv.lows n ds = ds.all (Dv.low n)
  | [] => by simp [Dv.lows]
  | d :: ds => by simp [Dv.lows, lows_all n ds]
def Mu.cut (μ : Mu) (n : Nat) : Mu := ⟨μ.tr.take n, μ.hd⟩
section
variable {K : PySem.W.Frag} {C : Nat → Addr} {H H' : Hp} {μ ν : Mu} {n : Nat}
theorem Mu.cut_out {a : Addr} (h : μ.out a) : (μ.cut n).out a := ⟨fun z => h.1 (List.mem_of_mem_take z), h.2⟩
theorem Fzl.cut {a : Addr} {xs : List V} (h : Fzl K H μ a xs) : Fzl K H (μ.cut n) a xs := by
  rcases h with h | h | ⟨h, z⟩
  · exact .inl h
  · exact .inr (.inl h)
  · exact .inr (.inr ⟨h, Mu.cut_out z⟩)
mutual
theorem VR.cut : ∀ {d : Dv} {v : V}, d.low n = true → VR K H μ d v → VR K H (μ.cut n) d v
  | .non, _, _, h => by simpa [VR] using h
  | .bl _, _, _, h => by simpa [VR] using h
  | .int _, _, _, h => by simpa [VR] using h
  | .str _, _, _, h => by simpa [VR] using h
  | .tup ds, _, b, h => by
    obtain ⟨x, vs, e, h1, h2⟩ := VR_tup.mp h
    exact VR_tup.mpr ⟨x, vs, e, h1, VRs.cut (by simpa [Dv.low] using b) h2⟩
  | .fz ds, _, b, h => by
    obtain ⟨x, vs, e, h1, h2⟩ := VR_fz.mp h
    exact VR_fz.mpr ⟨x, vs, e, h1.cut, VRs.cut (by simpa [Dv.low] using b) h2⟩
  | .ref m, _, b, h => by
    obtain ⟨x, h1, e⟩ := VR_ref.mp h
    exact VR_ref.mpr ⟨x, by show (μ.tr.take n)[m]? = some x; rw [List.getElem?_take_of_lt (by simpa [Dv.low] using b)]; exact h1, e⟩
  | .obj c fs, _, b, h => by
    obtain ⟨x, dx, gs, e, h1, h2, h3⟩ := VR_obj.mp h
    exact VR_obj.mpr ⟨x, dx, gs, e, Mu.cut_out h1, h2, VRf.cut (by simpa [Dv.low] using b) h3⟩
theorem VRs.cut : ∀ {ds : List Dv} {vs : List V}, Dv.lows n ds = true → VRs K H μ ds vs → VRs K H (μ.cut n) ds vs
  | [], _, _, h => by simpa [VRs] using h
  | d :: ds, _, b, h => by
    obtain ⟨v, r, e, h1, h2⟩ := VRs_cons.mp h
    simp only [Dv.lows, Bool.and_eq_true] at b
    exact VRs_cons.mpr ⟨v, r, e, VR.cut b.1 h1, VRs.cut b.2 h2⟩
theorem VRf.cut : ∀ {ds : List (Str × Dv)} {vs : List (Str × V)}, Dv.lowf n ds = true → VRf K H μ ds vs → VRf K H (μ.cut n) ds vs
  | [], _, _, h => by simpa [VRf] using h
  | (f, d) :: ds, _, b, h => by
    obtain ⟨v, r, e, h1, h2⟩ := VRf_cons.mp h
    simp only [Dv.lowf, Bool.and_eq_true] at b
    exact VRf_cons.mpr ⟨v, r, e, VR.cut b.1 h1, VRf.cut b.2 h2⟩
end
theorem KRs.cut {κ : Type} : ∀ {l : List (κ × Dv)} {m : List (κ × V)}, (l.all fun p => p.2.low n) = true → KRs K H μ l m → KRs K H (μ.cut n) l m
  | [], _, _, h => h
  | (k, d) :: r, _, b, h => by
    obtain ⟨v, t, e, h1, h2⟩ := h
    simp only [List.all_cons, Bool.and_eq_true] at b
    exact ⟨v, t, e, h1.cut b.1, KRs.cut b.2 h2⟩
theorem OR.cut {o : Ob} {ho : HO} (b : o.low n = true) (h : OR K C H μ o ho) : OR K C H (μ.cut n) o ho := by
  cases o with
  | lst ds => obtain ⟨vs, e, r⟩ := h; exact ⟨vs, e, r.cut b⟩
  | dic ds => obtain ⟨vs, e, r⟩ := h; exact ⟨vs, e, r.cut b⟩
  | ldic ds => obtain ⟨x, vs, e, r⟩ := h; exact ⟨x, vs, e, r.cut b⟩
  | ins c ds => obtain ⟨x, vs, e, r⟩ := h; exact ⟨x, vs, e, r.cut b⟩
mutual
/-- what is told over a shorter store points below its length -/
theorem VR.isLow : ∀ {d : Dv} {v : V}, VR K H μ d v → d.low μ.tr.length = true
  | .non, _, _ => rfl
  | .bl _, _, _ => rfl
  | .int _, _, _ => rfl
  | .str _, _, _ => rfl
  | .tup ds, _, h => by
    obtain ⟨x, vs, e, h1, h2⟩ := VR_tup.mp h
    simpa [Dv.low] using VRs.isLow h2
  | .fz ds, _, h => by
    obtain ⟨x, vs, e, h1, h2⟩ := VR_fz.mp h
    simpa [Dv.low] using VRs.isLow h2
  | .ref m, _, h => by
    obtain ⟨x, h1, e⟩ := VR_ref.mp h
    simpa [Dv.low] using (List.getElem?_eq_some_iff.mp h1).1
  | .obj c fs, _, h => by
    obtain ⟨x, dx, gs, e, h1, h2, h3⟩ := VR_obj.mp h
    simpa [Dv.low] using VRf.isLow h3
theorem VRs.isLow : ∀ {ds : List Dv} {vs : List V}, VRs K H μ ds vs → Dv.lows μ.tr.length ds = true
  | [], _, _ => rfl
  | d :: ds, _, h => by
    obtain ⟨v, r, e, h1, h2⟩ := VRs_cons.mp h
    simp [Dv.lows, VR.isLow h1, VRs.isLow h2]
theorem VRf.isLow : ∀ {ds : List (Str × Dv)} {vs : List (Str × V)}, VRf K H μ ds vs → Dv.lowf μ.tr.length ds = true
  | [], _, _ => rfl
  | (f, d) :: ds, _, h => by
    obtain ⟨v, r, e, h1, h2⟩ := VRf_cons.mp h
    simp [Dv.lowf, VR.isLow h1, VRf.isLow h2]
end
theorem KRs.isLow {κ : Type} : ∀ {l : List (κ × Dv)} {m : List (κ × V)}, KRs K H μ l m → (l.all fun p => p.2.low μ.tr.length) = true
  | [], _, _ => rfl
  | (k, d) :: r, _, h => by
    obtain ⟨v, t, e, h1, h2⟩ := h
    simp [h1.isLow]
    simpa using KRs.isLow h2
theorem OR.isLow {o : Ob} {ho : HO} (h : OR K C H μ o ho) : o.low μ.tr.length = true := by
  cases o with
  | lst ds => obtain ⟨vs, e, r⟩ := h; exact r.isLow
  | dic ds => obtain ⟨vs, e, r⟩ := h; exact r.isLow
  | ldic ds => obtain ⟨x, vs, e, r⟩ := h; exact r.isLow
  | ins c ds => obtain ⟨x, vs, e, r⟩ := h; exact r.isLow
end
/-- the objects of the caller, as they are or pointing to the caller's own alone -/
def Kept (S S2 : Sto) : Prop := S2.length = S.length ∧ ∀ (i : Nat) (o : Ob), S2[i]? = some o → S[i]? = some o ∨ o.low S.length = true
theorem Kept.refl (S : Sto) : Kept S S := ⟨rfl, fun _ _ h => .inl h⟩
theorem Kept.set {S S2 : Sto} (h0 : Kept S S2) (n : Nat) {o : Ob} (h : o.low S.length = true) : Kept S (S2.set n o) := by
  refine ⟨by simp [h0.1], fun i q e => ?_⟩
  by_cases hi : n = i
  · subst hi
    have hl : n < S2.length := by
      have := (List.getElem?_eq_some_iff.mp e).1
      simpa using this
    rw [List.getElem?_set_self hl] at e
    cases e
    exact .inr h
  · rw [List.getElem?_set_ne hi] at e
    exact h0.2 i q e
/-! new lists and instances as values -/
mutual
def Dv.rsv (r : Nat → Option Dv) : Dv → Option Dv
  | .ref k => r k
  | .tup ds => (Dv.rsvs r ds).map .tup
  | .fz ds => (Dv.rsvs r ds).map .fz
  | .obj c fs => (Dv.rsvf r fs).map (.obj c)
  | .non => some .non
  | .bl b => some (.bl b)
  | .int i => some (.int i)
  | .str x => some (.str x)
def Dv.rsvs (r : Nat → Option Dv) : List Dv → Option (List Dv)
  | [] => some []
  | d :: ds => match d.rsv r, Dv.rsvs r ds with
    | some p, some ps => some (p :: ps)
    | _, _ => none
def Dv.rsvf (r : Nat → Option Dv) : List (Str × Dv) → Option (List (Str × Dv))
  | [] => some []
  | (f, d) :: ds => match d.rsv r, Dv.rsvf r ds with
    | some p, some ps => some ((f, p) :: ps)
    | _, _ => none
end
def rsvR (n : Nat) (S : Sto) : Nat → Nat → Option Dv
  | 0, k => if k < n then some (.ref k) else none
  | f + 1, k => if k < n then some (.ref k) else match S[k]? with
    | some (.lst ds) => (Dv.rsvs (rsvR n S f) ds).map .fz
    | some (.ins c fs) => (Dv.rsvf (rsvR n S f) fs).map (.obj c)
    | _ => none
section
variable {K : PySem.W.Frag} {C : Nat → Addr} {H : Hp} {μ : Mu} {S : Sto} {n : Nat}
mutual
theorem rsv_of {r : Nat → Option Dv} (hr : ∀ k v d, r k = some d → VR K H μ (.ref k) v → VR K H (μ.cut n) d v) : ∀ {d d' : Dv} {v : V}, d.rsv r = some d' → VR K H μ d v → VR K H (μ.cut n) d' v
  | .non, _, _, e, h => by cases e; simpa [VR] using h
  | .bl b, _, _, e, h => by cases e; simpa [VR] using h
  | .int i, _, _, e, h => by cases e; simpa [VR] using h
  | .str x, _, _, e, h => by cases e; simpa [VR] using h
  | .tup ds, _, _, e, h => by
    simp only [Dv.rsv, Option.map_eq_some_iff] at e
    obtain ⟨ps, e1, rfl⟩ := e
    obtain ⟨a, vs, rfl, h1, h2⟩ := VR_tup.mp h
    exact VR_tup.mpr ⟨a, vs, rfl, h1, rsvs_of hr e1 h2⟩
  | .fz ds, _, _, e, h => by
    simp only [Dv.rsv, Option.map_eq_some_iff] at e
    obtain ⟨ps, e1, rfl⟩ := e
    obtain ⟨a, vs, rfl, h1, h2⟩ := VR_fz.mp h
    exact VR_fz.mpr ⟨a, vs, rfl, h1.cut, rsvs_of hr e1 h2⟩
  | .obj c fs, _, _, e, h => by
    simp only [Dv.rsv, Option.map_eq_some_iff] at e
    obtain ⟨ps, e1, rfl⟩ := e
    obtain ⟨x, dx, gs, rfl, h1, h2, h3⟩ := VR_obj.mp h
    exact VR_obj.mpr ⟨x, dx, gs, rfl, Mu.cut_out h1, h2, rsvf_of hr e1 h3⟩
  | .ref k, _, _, e, h => hr _ _ _ e h
theorem rsvs_of {r : Nat → Option Dv} (hr : ∀ k v d, r k = some d → VR K H μ (.ref k) v → VR K H (μ.cut n) d v) : ∀ {ds ps : List Dv} {vs : List V}, Dv.rsvs r ds = some ps → VRs K H μ ds vs → VRs K H (μ.cut n) ps vs
  | [], _, _, e, h => by
    cases e
    rw [VRs_nil.mp h]
    exact VRs_nil.mpr rfl
  | d :: ds, _, _, e, h => by
    obtain ⟨v, t, rfl, h1, h2⟩ := VRs_cons.mp h
    simp only [Dv.rsvs] at e
    split at e
    · rename_i p ps e1 e2
      cases e
      exact VRs_cons.mpr ⟨v, t, rfl, rsv_of hr e1 h1, rsvs_of hr e2 h2⟩
    · cases e
theorem rsvf_of {r : Nat → Option Dv} (hr : ∀ k v d, r k = some d → VR K H μ (.ref k) v → VR K H (μ.cut n) d v) : ∀ {ds ps : List (Str × Dv)} {vs : List (Str × V)}, Dv.rsvf r ds = some ps → VRf K H μ ds vs → VRf K H (μ.cut n) ps vs
  | [], _, _, e, h => by
    cases e
    rw [VRf_nil.mp h]
    exact VRf_nil.mpr rfl
  | (f, d) :: ds, _, _, e, h => by
    obtain ⟨v, t, rfl, h1, h2⟩ := VRf_cons.mp h
    simp only [Dv.rsvf] at e
    split at e
    · rename_i p ps e1 e2
      cases e
      exact VRf_cons.mpr ⟨v, t, rfl, rsv_of hr e1 h1, rsvf_of hr e2 h2⟩
    · cases e
end
theorem rsvR_ok (sr : SR K C μ S H) : ∀ (f k : Nat) (v : V) (d : Dv), rsvR n S f k = some d → VR K H μ (.ref k) v → VR K H (μ.cut n) d v := by
  have below : ∀ (k : Nat) (v : V), k < n → VR K H μ (.ref k) v → VR K H (μ.cut n) (.ref k) v := fun k v hk h => h.cut (by simp [Dv.low, hk])
  intro f
  induction f with
  | zero =>
    intro k v d e h
    simp only [rsvR] at e
    split at e
    · rename_i hk; cases e; exact below k v hk h
    · cases e
  | succ f ih =>
    intro k v d e h
    simp only [rsvR] at e
    split at e
    · rename_i hk; cases e; exact below k v hk h
    · rename_i hk
      obtain ⟨a, ha, rfl⟩ := VR_ref.mp h
      have out : (μ.cut n).out a := by
        refine ⟨fun hm => ?_, fun hm => ?_⟩
        · obtain ⟨i, ei⟩ := List.getElem?_of_mem (show a ∈ μ.tr.take n from hm)
          rw [List.getElem?_take] at ei
          split at ei
          · rename_i hi
            have := SR.put.nodup_ix' sr.nd ei ha
            omega
          · cases ei
        · exact sr.apart a hm (List.mem_of_getElem? ha)
      split at e
      · rename_i ds e1
        obtain ⟨ps, e2, rfl⟩ := Option.map_eq_some_iff.mp e
        obtain ⟨ho, e3, vs, rfl, r⟩ := sr.ob k _ a e1 ha
        exact VR_fz.mpr ⟨a, vs, rfl, .inr (.inr ⟨e3, out⟩), rsvs_of ih e2 r⟩
      · rename_i c fs e1
        obtain ⟨ps, e2, rfl⟩ := Option.map_eq_some_iff.mp e
        obtain ⟨ho, e3, dx, gs, rfl, r⟩ := sr.ob k _ a e1 ha
        exact VR_obj.mpr ⟨a, dx, gs, rfl, out, e3, rsvf_of ih e2 (VRf_KRs.mpr r)⟩
      · cases e
end
open Classical in
/-- what the caller sees of an ending: its own objects; new lists and instances as values, where that can be -/
noncomputable def tidy (S : Sto) : Res Dv → Res Dv
  | .ok d S' => if Kept S (S'.take S.length) then (match d.rsv (rsvR S.length S' 6) with
    | some d' => .ok d' (S'.take S.length)
    | none => .ok d S') else .ok d S'
  | .exn c S' => if Kept S (S'.take S.length) then .exn c (S'.take S.length) else .exn c S'
  | .stuck => .stuck
section
variable {P : Program} {w : World} {K : PySem.W.Frag} {mg : Str → Option Value} {base : Heap} {C : Nat → Addr} {x : Str} {n k : Nat} {den den' : Den}
theorem SR.cut {μ μ' : Mu} {S S' : Sto} {H H' : Hp} (s0 : SR K C μ S H) (a : Aft K μ H μ' H') (s : SR K C μ' S' H') (kp : Kept S (S'.take S.length)) : SR K C μ (S'.take S.length) H' := by
  obtain ⟨ν, e1, _⟩ := a.aw.pre
  have hl : μ.tr.length = (S'.take S.length).length := s0.len.trans kp.1.symm
  have hc : μ'.cut S.length = μ := by
    cases μ
    simp only [Mu.cut, e1, a.hid]
    rw [List.take_left' s0.len]
  refine ⟨hl, s0.nd, fun x hx => a.aw.there x (s0.hids x hx), s0.apart, fun i o ad h1 h2 => ?_⟩
  have hi : i < S.length := by
    have := (List.getElem?_eq_some_iff.mp h1).1
    rw [kp.1] at this
    exact this
  obtain ⟨ho, e, r⟩ := s.ob i o ad (by rw [List.getElem?_take_of_lt hi] at h1; exact h1) (by rw [e1, List.getElem?_append_left (by rw [s0.len]; exact hi)]; exact h2)
  refine ⟨ho, e, ?_⟩
  have hb : o.low S.length = true := by
    rcases kp.2 i o h1 with z | z
    · obtain ⟨ho0, _, r0⟩ := s0.ob i o ad z h2
      rw [← s0.len]
      exact r0.isLow
    · exact z
  have := r.cut (n := S.length) hb
  rwa [hc] at this
theorem Aft.cut {μ μ' : Mu} {H H' : Hp} (a : Aft K μ H μ' H') : Aft K μ H μ H' :=
  ⟨⟨⟨[], by simp, by simp⟩, fun _ _ h _ => h, a.aw.keep, a.aw.there, a.aw.tup, a.aw.frz⟩, rfl, a.all⟩
theorem tidy_go {S : Sto} {r : Res Dv} {μ : Mu} {H : Hp} {W : WX} {σ : L2.St} {Q : VK} (s0 : SR K C μ S H) (q : tR K C W (PV K) (tidy S r) μ σ H Q) : tR K C W (PV K) r μ σ H Q := by
  cases r with
  | stuck => exact q
  | exn c S' =>
    simp only [tidy] at q
    split at q
    · rename_i hk
      intro μ' H' a s
      exact q μ H' a.cut (s0.cut a s hk)
    · exact q
  | ok d S' =>
    simp only [tidy] at q
    split at q
    · rename_i hk
      split at q
      · rename_i d' e
        intro μ' H' v a s vr
        have hc : μ'.cut S.length = μ := by
          obtain ⟨ν, e1, _⟩ := a.aw.pre
          cases μ
          simp only [Mu.cut, e1, a.hid]
          rw [List.take_left' s0.len]
        have vr' := rsv_of (n := S.length) (rsvR_ok s 6) e vr
        rw [hc] at vr'
        exact q μ H' v a.cut (s0.cut a s hk) vr'
      · exact q
    · exact q
/-- a def's denotation: its body's, tidied -/
noncomputable def runF (n : Nat) (body : DS) : Den := fun args S => tidy S (runB n body args S)
theorem Df.imp (F : Df P w K mg base C x n k den) (h : ∀ μ S ds (H : Hp) (W : WX) (Q : VK), SR K C μ S H → tR K C W (PV K) (den' ds S) μ [] H Q → tR K C W (PV K) (den ds S) μ [] H Q) : Df P w K mg base C x n k den' := by
  obtain ⟨f, fd, ps, h1, h2, h3, h4, h5⟩ := F.ex
  refine ⟨f, fd, ps, h1, h2, h3, h4, ⟨fun A outer s H args us vs Q E hr hg he hb hv hs => h5.run A outer s H args us vs Q E hr hg he hb hv ?_⟩⟩
  obtain ⟨hl, μ, S, ds, sr, vr, q⟩ := hs
  exact ⟨hl, μ, S, ds, sr, vr, h μ S ds H _ Q sr q⟩
theorem Df.tidy {m : Nat} {body : DS} (F : Df P w K mg base C x n k (runB m body)) : Df P w K mg base C x n k (runF m body) :=
  F.imp fun _ _ _ _ _ _ sr q => tidy_go sr q
end
/-! ### what a body's ending is worth -/
mutual
/-- no thing of the store, no hidden way to it -/
def Dv.plain : Dv → Bool
  | .tup ds => Dv.plains ds
  | .fz ds => Dv.plains ds
  | .ref _ => false
  | .obj _ fs => Dv.plainf fs
  | _ => true
def Dv.plains : List Dv → Bool
  | [] => true
  | d :: ds => d.plain && Dv.plains ds
def Dv.plainf : List (Str × Dv) → Bool
  | [] => true
  | (_, d) :: ds => d.plain && Dv.plainf ds
end
mutual
theorem plain_rsv (r : Nat → Option Dv) : ∀ (d : Dv), d.plain = true → d.rsv r = some d
  | .non, _ => rfl
  | .bl _, _ => rfl
  | .int _, _ => rfl
  | .str _, _ => rfl
  | .tup ds, h => by rw [Dv.rsv, plains_rsv r ds (by simpa [Dv.plain] using h)]; rfl
  | .fz ds, h => by rw [Dv.rsv, plains_rsv r ds (by simpa [Dv.plain] using h)]; rfl
  | .obj c fs, h => by rw [Dv.rsv, plainf_rsv r fs (by simpa [Dv.plain] using h)]; rfl
  | .ref _, h => by simp [Dv.plain] at h
theorem plains_rsv (r : Nat → Option Dv) : ∀ (ds : List Dv), Dv.plains ds = true → Dv.rsvs r ds = some ds
  | [], _ => rfl
  | d :: ds, h => by
    simp only [Dv.plains, Bool.and_eq_true] at h
    simp only [Dv.rsvs, plain_rsv r d h.1, plains_rsv r ds h.2]
theorem plainf_rsv (r : Nat → Option Dv) : ∀ (ds : List (Str × Dv)), Dv.plainf ds = true → Dv.rsvf r ds = some ds
  | [], _ => rfl
  | (f, d) :: ds, h => by
    simp only [Dv.plainf, Bool.and_eq_true] at h
    simp only [Dv.rsvf, plain_rsv r d h.1, plainf_rsv r ds h.2]
end
mutual
theorem plain_low (n : Nat) : ∀ (d : Dv), d.plain = true → d.low n = true
  | .non, _ => rfl
  | .bl _, _ => rfl
  | .int _, _ => rfl
  | .str _, _ => rfl
  | .tup ds, h => by rw [Dv.low]; exact plains_low n ds (by simpa [Dv.plain] using h)
  | .fz ds, h => by rw [Dv.low]; exact plains_low n ds (by simpa [Dv.plain] using h)
  | .obj c fs, h => by rw [Dv.low]; exact plainf_low n fs (by simpa [Dv.plain] using h)
  | .ref _, h => by simp [Dv.plain] at h
theorem plains_low (n : Nat) : ∀ (ds : List Dv), Dv.plains ds = true → Dv.lows n ds = true
  | [], _ => rfl
  | d :: ds, h => by
    simp only [Dv.plains, Bool.and_eq_true] at h
    simp only [Dv.lows, plain_low n d h.1, plains_low n ds h.2, Bool.and_self]
theorem plainf_low (n : Nat) : ∀ (ds : List (Str × Dv)), Dv.plainf ds = true → Dv.lowf n ds = true
  | [], _ => rfl
  | (f, d) :: ds, h => by
    simp only [Dv.plainf, Bool.and_eq_true] at h
    simp only [Dv.lowf, plain_low n d h.1, plainf_low n ds h.2, Bool.and_self]
end
theorem plains_all (ds : List Dv) : Dv.plains ds = ds.all Dv.plain := by
  induction ds with
  | nil => rfl
  | cons d ds ih => simp [Dv.plains, ih]
section
variable {S S2 G : Sto} {d : Dv} {ds : List Dv} {c n : Nat}
theorem tidy_ok (h : d.plain = true) (S G : Sto) : tidy S (.ok d (S ++ G)) = .ok d S := by
  simp only [tidy]
  rw [List.take_left' rfl, if_pos (Kept.refl S), plain_rsv _ d h]
theorem tidy_same (S : Sto) (h : d.plain = true) : tidy S (.ok d S) = .ok d S := by
  have := tidy_ok h S []
  rwa [List.append_nil] at this
/-- objects of the caller were written -/
theorem tidy_upd (h : d.plain = true) (k : Kept S S2) (G : Sto) : tidy S (.ok d (S2 ++ G)) = .ok d S2 := by
  simp only [tidy]
  rw [List.take_left' k.1, if_pos k, plain_rsv _ d h]
theorem tidy_exn (S G : Sto) : tidy S (.exn c (S ++ G)) = .exn c S := by
  simp only [tidy]
  rw [List.take_left' rfl, if_pos (Kept.refl S)]
theorem tidy_exn0 (S : Sto) : tidy S (.exn c S) = .exn c S := by
  have := tidy_exn (c := c) S []
  rwa [List.append_nil] at this
/-- a new list is handed back -/
theorem tidy_lst (h : Dv.plains ds = true) (S : Sto) {G : Sto} {j : Nat} (hj : G[j]? = some (.lst ds)) : tidy S (.ok (.ref (S.length + j)) (S ++ G)) = .ok (.fz ds) S := by
  have e : (S ++ G)[S.length + j]? = some (.lst ds) := by
    rw [List.getElem?_append_right (Nat.le_add_right _ _), Nat.add_sub_cancel_left]
    exact hj
  have hn : ¬ (S.length + j < S.length) := by omega
  simp only [tidy]
  rw [List.take_left' rfl, if_pos (Kept.refl S)]
  simp only [Dv.rsv, rsvR, if_neg hn, e, plains_rsv _ ds h, Option.map_some]
theorem tidy_lst0 (h : Dv.plains ds = true) (S G : Sto) : tidy S (.ok (.ref S.length) (S ++ .lst ds :: G)) = .ok (.fz ds) S := by
  have := tidy_lst (G := .lst ds :: G) (j := 0) h S rfl
  rwa [Nat.add_zero] at this
end
end Fc

set_option exponentiation.threshold 256
set_option maxHeartbeats 4000000
set_option maxHeartbeats 4000000
/-! FcOps: operators, subscripts, slices, builtins. -/
namespace Fc
open PySem L2

/-! ### data as the library has it -/
mutual
def Dv.pyW (r : Nat → Option PyData) : Dv → Option PyData
  | .non => some .none
  | .bl b => some (.bool b)
  | .int i => some (.int i)
  | .str x => some (.str x)
  | .tup ds => (Dv.pysW r ds).map .tuple
  | .fz ds => (Dv.pysW r ds).map .list
  | .ref n => r n
  | .obj _ _ => none
def Dv.pysW (r : Nat → Option PyData) : List Dv → Option (List PyData)
  | [] => some []
  | d :: ds => match d.pyW r, Dv.pysW r ds with
    | some p, some ps => some (p :: ps)
    | _, _ => none
end
def pyRef (S : Sto) : Nat → Nat → Option PyData
  | 0, _ => none
  | f + 1, n => match S[n]? with
    | some (.lst ds) => (Dv.pysW (pyRef S f) ds).map .list
    | _ => none
def Dv.py (S : Sto) (d : Dv) : Option PyData := d.pyW (pyRef S 8)
section
variable {K : PySem.W.Frag} {C : Nat → Addr} {H : Hp} {μ : Mu} {S : Sto}
mutual
theorem dp_of {r : Nat → Option PyData} (hr : ∀ n v p, r n = some p → VR K H μ (.ref n) v → Dp K H v p) : ∀ {d : Dv} {v : V} {p : PyData}, d.pyW r = some p → VR K H μ d v → Dp K H v p
  | .non, _, _, e, h => by
    cases e
    rw [VR_non.mp h]
    exact .non
  | .bl b, _, _, e, h => by
    cases e
    rw [VR_bl.mp h]
    exact .bl b
  | .int i, _, _, e, h => by
    cases e
    rw [VR_int.mp h]
    exact .int i
  | .str x, _, _, e, h => by
    cases e
    rw [VR_str.mp h]
    exact .str x
  | .tup ds, _, _, e, h => by
    simp only [Dv.pyW, Option.map_eq_some_iff] at e
    obtain ⟨ps, e1, rfl⟩ := e
    obtain ⟨a, vs, rfl, h1, h2⟩ := VR_tup.mp h
    exact .tup h1 (dps_of hr e1 h2)
  | .fz ds, _, _, e, h => by
    simp only [Dv.pyW, Option.map_eq_some_iff] at e
    obtain ⟨ps, e1, rfl⟩ := e
    obtain ⟨a, vs, rfl, h1, h2⟩ := VR_fz.mp h
    exact .lst h1.seq (dps_of hr e1 h2)
  | .ref n, _, _, e, h => hr _ _ _ e h
  | .obj _ _, _, _, e, _ => by cases e
theorem dps_of {r : Nat → Option PyData} (hr : ∀ n v p, r n = some p → VR K H μ (.ref n) v → Dp K H v p) : ∀ {ds : List Dv} {vs : List V} {ps : List PyData}, Dv.pysW r ds = some ps → VRs K H μ ds vs → DpAll K H vs ps
  | [], _, _, e, h => by
    cases e
    rw [VRs_nil.mp h]
    exact .nil
  | d :: ds, _, _, e, h => by
    obtain ⟨v, t, rfl, h1, h2⟩ := VRs_cons.mp h
    simp only [Dv.pysW] at e
    split at e
    · rename_i p ps e1 e2
      cases e
      exact .cons (dp_of hr e1 h1) (dps_of hr e2 h2)
    · cases e
end
theorem pyRef_dp (sr : SR K C μ S H) : ∀ (f n : Nat) (v : V) (p : PyData), pyRef S f n = some p → VR K H μ (.ref n) v → Dp K H v p
  | 0, _, _, _, e, _ => by simp [pyRef] at e
  | f + 1, n, v, p, e, h => by
    simp only [pyRef] at e
    split at e
    · rename_i ds e1
      obtain ⟨ps, e2, rfl⟩ := Option.map_eq_some_iff.mp e
      obtain ⟨a, ha, rfl⟩ := VR_ref.mp h
      obtain ⟨ho, e3, vs, rfl, r⟩ := sr.ob n _ a e1 ha
      exact .lst (SqL.of e3) (dps_of (pyRef_dp sr f) e2 r)
    · cases e
theorem py_dp (sr : SR K C μ S H) {d : Dv} {v : V} {p : PyData} (e : d.py S = some p) (h : VR K H μ d v) : Dp K H v p := dp_of (pyRef_dp sr 8) e h
/-- a list, however it is held -/
def listOf (S : Sto) : Dv → Option (List Dv)
  | .fz ds => some ds
  | .ref n => match S[n]? with
    | some (.lst ds) => some ds
    | _ => none
  | _ => none
theorem listOf_sq (sr : SR K C μ S H) {d : Dv} {v : V} {ds : List Dv} (e : listOf S d = some ds) (h : VR K H μ d v) : ∃ a vs, v = .ref a ∧ SqL K H a vs ∧ VRs K H μ ds vs := by
  cases d with
  | fz es =>
    cases e
    obtain ⟨a, vs, rfl, h1, h2⟩ := VR_fz.mp h
    exact ⟨a, vs, rfl, h1.seq, h2⟩
  | ref n =>
    simp only [listOf] at e
    split at e
    · rename_i es e1
      cases e
      obtain ⟨a, ha, rfl⟩ := VR_ref.mp h
      obtain ⟨ho, e3, vs, rfl, r⟩ := sr.ob n _ a e1 ha
      exact ⟨a, vs, rfl, SqL.of e3, r⟩
    · cases e
  | _ => cases e
/-- a list of the store -/
theorem lst_at (sr : SR K C μ S H) {n : Nat} {ds : List Dv} {v : V} (e : S[n]? = some (.lst ds)) (h : VR K H μ (.ref n) v) : ∃ a vs, v = .ref a ∧ μ.tr[n]? = some a ∧ H a = some (.lst vs) ∧ VRs K H μ ds vs := by
  obtain ⟨a, ha, rfl⟩ := VR_ref.mp h
  obtain ⟨ho, e3, vs, rfl, r⟩ := sr.ob n _ a e ha
  exact ⟨a, vs, rfl, ha, e3, r⟩
/-- a tuple is laid -/
theorem new_tup {ds : List Dv} {vs : List V} {σ : L2.St} {Q : VK} {W : WX} (s1 : SR K C μ S H) (vr : VRs K H μ ds vs) (q1 : tR K C W (PV K) (.ok (.tup ds) S) μ σ H Q) (p : Addr) (hp : H p = none) : Q (.ref p) (L2.upd H p (.tup vs)) := by
  have af : Aft K μ H μ (L2.upd H p (.tup vs)) := Aft.new hp
  exact q1 μ _ _ af (s1.lay hp) (VR_tup.mpr ⟨p, vs, rfl, SqT.of upd_same, vr.mono af⟩)
/-- .. or is one that stands -/
theorem old_val {d : Dv} {v : V} {σ : L2.St} {Q : VK} {W : WX} (s1 : SR K C μ S H) (vr : VR K H μ d v) (q1 : tR K C W (PV K) (.ok d S) μ σ H Q) : Q v H := q1 μ H v Aft.refl s1 vr
end
theorem lim_eq : lim = 100000 := rfl
/-! ### arithmetic -/
def mulOk (i j : Int) : Bool := decide (i.natAbs.log2 + j.natAbs.log2 < 100000000)
def divOk (j : Int) : Bool := decide (0 < j) && decide (j.natAbs.log2 < 9000)
def opAdd (m : Bool) : Op2 := fun x y S => match x, y with
  | .int i, .int j => some (.int (i + j), S)
  | .tup ds, .tup es => if ds.length + es.length ≤ lim then some (.tup (ds ++ es), S) else none
  | .str a, .str b => if a.length + b.length ≤ lim then some (.str (a ++ b), S) else none
  | _, _ => match listOf S x, listOf S y with
    | some ds, some es => if ds.length + es.length ≤ lim then some (mk m (ds ++ es) S) else none
    | _, _ => none
/-- list + list, whatever holds them -/
theorem op_catL {X : Cx} : OpR X (binaryOp .Add) fun x y H Q => ∃ a b xs zs, x = .ref a ∧ y = .ref b ∧ SqL X.K H a xs ∧ SqL X.K H b zs ∧ xs.length + zs.length ≤ sizeLine ∧ ∀ p, H p = none → Q (.ref p) (L2.upd H p (.lst (xs ++ zs))) := by
  intro pins s σ H x y v u Q I rx ry h
  obtain ⟨l, b, xs, zs, rfl, rfl, hH, hB, hz, q⟩ := h
  cases rx
  cases ry
  obtain ⟨its, r, ⟨⟨cls, dd, data, sl⟩, n, e, hc, hd, hs⟩, hl⟩ := I.list hH
  obtain ⟨its2, r2, ⟨⟨cls2, dd2, data2, sl2⟩, n2, e2, hc2, hd2, hs2⟩, hl2⟩ := I.list hB
  simp only at hc hd hs hc2 hd2 hs2
  subst hc hd hs hc2 hd2 hs2
  have hlen := r.length
  have hlen2 := r2.length
  have ea : its.toArray ++ its2.toArray = (its ++ its2).toArray := by simp
  refine PySem.concat_meets ⟨_, e, rfl⟩ ⟨_, e2, rfl⟩ PySem.noFill_list_add PySem.seq_list_add PySem.F.slot_list_add PySem.F.entry_list_add (PySem.F.args_list_add_2 _ _) (PyProof.Rows.list_addW l b its.toArray its2.toArray n n2 none none sl sl2 (by rw [List.size_toArray, List.size_toArray]; omega)) ⟨e, e2, ?_⟩
  rw [ea]
  exact ⟨.ref _, _, I.lnew (t' := s.toks) (r.append r2) (by rw [List.length_append]; omega), rfl, q _ I.fresh⟩
theorem add_lists {x y : Dv} {m : Bool} {S : Sto} (h : ∀ i j, ¬ (x = .int i ∧ y = .int j)) (h2 : ∀ i j, ¬ (x = .tup i ∧ y = .tup j)) (h3 : ∀ i j, ¬ (x = .str i ∧ y = .str j)) : opAdd m x y S = match listOf S x, listOf S y with
    | some ds, some es => if ds.length + es.length ≤ lim then some (mk m (ds ++ es) S) else none
    | _, _ => none := by
  unfold opAdd
  split
  · exact absurd ⟨rfl, rfl⟩ (h _ _)
  · exact absurd ⟨rfl, rfl⟩ (h2 _ _)
  · exact absurd ⟨rfl, rfl⟩ (h3 _ _)
  · rfl
def opSub : Op2 := fun x y S => match x, y with
  | .int i, .int j => some (.int (i - j), S)
  | _, _ => none
def opMul (m : Bool) : Op2 := fun x y S => match x, y with
  | .int i, .int j => if mulOk i j then some (.int (i * j), S) else none
  | .ref n, .int k => match S[n]? with
    | some (.lst ds) => if decide (-1000 ≤ k) && decide (k ≤ 1000000) && decide (ds.length * k.toNat ≤ lim) then some (mk m (List.replicate k.toNat ds).flatten S) else none
    | _ => none
  | .tup ds, .int k => if decide (ds ≠ []) && decide (2 ≤ k) && decide (k ≤ 1000) && decide (ds.length ≤ 1000) then some (.tup (List.replicate k.toNat ds).flatten, S) else none
  | _, _ => none
/-- [..] * n -/
def eRep (m : Bool) (l : DL) (fb : DE) : DE := fun ρ S => (l ρ S).bd fun ds S1 => if ds.length ≤ lim then (fb ρ S1).bd fun y S2 => match y with
    | .int k => if decide (-1000 ≤ k) && decide (k ≤ 1000000) && decide (ds.length * k.toNat ≤ lim) then .ok (mk m (List.replicate k.toNat ds).flatten S2).1 (mk m (List.replicate k.toNat ds).flatten S2).2 else .stuck
    | _ => .stuck else .stuck
theorem se_rep {X : Cx} {C : Nat → Addr} {W : WX} {es : List Expr} {b : Expr} {l : DL} {fb : DE} {pos p2 : Pos} (m : Bool) (h1 : SL X C W es l) (hb : SE X C W b fb) : SE X C W (.BinOp (.List es p2) .Mult b pos) (eRep m l fb) := by
  refine ⟨pe_imp (pe_op op_rep (pe_lst h1.pa) hb.pe) fun σ H Q q => ?_⟩
  obtain ⟨μ, ρ, S, rl, q⟩ := q
  refine ⟨μ, ρ, S, rl, (tR.bd q).imp fun vs H1 q1 => ?_⟩
  obtain ⟨μ1, S1, ds, a1, s1, vr, q1⟩ := q1
  by_cases hl : ds.length ≤ lim
  · rw [if_pos hl] at q1
    refine ⟨by rw [← vr.length]; exact Nat.le_trans hl lim_line, fun p hp => ?_⟩
    have af : Aft X.K μ1 H1 μ1 (L2.upd H1 p (.lst vs)) := Aft.new hp
    refine ⟨μ1, ρ, S1, (rl.next a1 s1).next af (s1.lay hp), (tR.bd (tR.aft q1 af)).imp fun y H2 q2 => ?_⟩
    obtain ⟨μ2, S2, d, a2, s2, vd, q2⟩ := q2
    cases d with
    | int k =>
      cases VR_int.mp vd
      simp only at q2
      split at q2
      · rename_i hc
        simp only [Bool.and_eq_true, decide_eq_true_eq] at hc
        exact ⟨p, k, vs, rfl, rfl, a2.all p _ (s1.notin hp) upd_same, by omega, by omega, by rw [← vr.length]; exact Nat.le_trans hc.2 lim_line, new_mk s2 ((vr.mono (af.trans a2)).rep _) q2⟩
      · exact q2.elim
    | _ => exact q2.elim
  · rw [if_neg hl] at q1
    exact q1.elim
def opDiv : Op2 := fun x y S => match x, y with
  | .int i, .int j => if divOk j then some (.int (i / j), S) else none
  | _, _ => none
def opMod : Op2 := fun x y S => match x, y with
  | .int i, .int j => if 0 < j then some (.int (i % j), S) else none
  | _, _ => none
def opPow : Op2 := fun x y S => match x, y with
  | .int i, .int j => if decide (0 ≤ j) && decide (j ≤ 1000000) && decide (i.natAbs < 2 ^ 64) then some (.int (i ^ j.toNat), S) else none
  | _, _ => none
section
variable {X : Cx} {C : Nat → Addr}
theorem ops_add (m : Bool) : OpS X C (binaryOp .Add) (opAdd m) := by
  intro pins s σ H x y v u Q I rx ry h
  obtain ⟨μ, S, dx, dy, sr, vx, vy, q⟩ := h
  have lists : (∀ i j, ¬ (dx = .int i ∧ dy = .int j)) → (∀ i j, ¬ (dx = .tup i ∧ dy = .tup j)) → (∀ i j, ¬ (dx = .str i ∧ dy = .str j)) → wpAny (model X.prog X.w) X.A (binaryOp .Add v u) (EP X pins σ Q) X.xe s := fun n1 n2 n3 => by
    rw [add_lists n1 n2 n3] at q
    cases e1 : listOf S dx with
    | none => rw [e1] at q; exact q.elim
    | some ds =>
      cases e2 : listOf S dy with
      | none => rw [e1, e2] at q; exact q.elim
      | some es =>
        rw [e1, e2] at q
        obtain ⟨a, vs, rfl, h1, h2⟩ := listOf_sq sr e1 vx
        obtain ⟨b, ws, rfl, h3, h4⟩ := listOf_sq sr e2 vy
        by_cases hl : ds.length + es.length ≤ lim
        · simp only [if_pos hl, ofO] at q
          exact op_catL pins s σ H _ _ v u Q I rx ry ⟨a, b, vs, ws, rfl, rfl, h1, h3, by rw [← h2.length, ← h4.length]; exact Nat.le_trans hl lim_line, new_mk sr (h2.append h4) q⟩
        · simp only [if_neg hl, ofO] at q
          exact q.elim
  cases dx with
  | int i =>
    cases dy with
    | int j =>
      cases VR_int.mp vx
      cases VR_int.mp vy
      exact op_add pins s σ H _ _ v u Q I rx ry ⟨i, j, rfl, rfl, old_val sr (VR_int.mpr rfl) q⟩
    | _ => exact lists (by simp) (by simp) (by simp)
  | tup ds =>
    cases dy with
    | tup es =>
      obtain ⟨a, vs, rfl, h1, h2⟩ := VR_tup.mp vx
      obtain ⟨b, ws, rfl, h3, h4⟩ := VR_tup.mp vy
      by_cases hl : ds.length + es.length ≤ lim
      · simp only [opAdd, if_pos hl, ofO] at q
        refine op_catA pins s σ H _ _ v u Q I rx ry ⟨a, b, vs, ws, rfl, rfl, h1, h3, by rw [← h2.length, ← h4.length]; exact Nat.le_trans hl lim_line, fun e => ?_, fun e1 e2 => ?_, fun e1 e2 p hp => ?_⟩
        · subst e
          have e : ds = [] := List.eq_nil_of_length_eq_zero (by rw [h2.length]; rfl)
          subst e
          exact old_val sr vy q
        · subst e2
          have e : es = [] := List.eq_nil_of_length_eq_zero (by rw [h4.length]; rfl)
          subst e
          rw [List.append_nil] at q
          exact old_val sr vx q
        · exact new_tup sr (h2.append h4) q p hp
      · simp only [opAdd, if_neg hl, ofO] at q
        exact q.elim
    | _ => exact lists (by simp) (by simp) (by simp)
  | str a =>
    cases dy with
    | str b =>
      cases VR_str.mp vx
      cases VR_str.mp vy
      by_cases hl : a.length + b.length ≤ lim
      · simp only [opAdd, if_pos hl, ofO] at q
        exact op_add_str pins s σ H _ _ v u Q I rx ry ⟨a, b, rfl, rfl, Nat.le_trans hl lim_line, old_val sr (VR_str.mpr rfl) q⟩
      · simp only [opAdd, if_neg hl, ofO] at q
        exact q.elim
    | _ => exact lists (by simp) (by simp) (by simp)
  | _ => exact lists (by simp) (by simp) (by simp)
theorem ops_sub : OpS X C (binaryOp .Sub) opSub := by
  intro pins s σ H x y v u Q I rx ry h
  obtain ⟨μ, S, dx, dy, sr, vx, vy, q⟩ := h
  cases dx with
  | int i =>
    cases dy with
    | int j =>
      cases VR_int.mp vx
      cases VR_int.mp vy
      exact op_sub pins s σ H _ _ v u Q I rx ry ⟨i, j, rfl, rfl, old_val sr (VR_int.mpr rfl) q⟩
    | _ => exact q.elim
  | _ => exact q.elim
theorem mulOk_fit {i j : Int} (h : mulOk i j = true) : PySem.IntMulOk i j := by
  have b : ∀ x : Int, Builtin.Int.intBits x ≤ x.natAbs.log2 + 1 := fun x => by
    unfold Builtin.Int.intBits
    split <;> omega
  have h1 := b i
  have h2 := b j
  have h3 : i.natAbs.log2 + j.natAbs.log2 < 100000000 := by simpa [mulOk] using h
  have e : bitsLine = 134217728 := by decide
  unfold PySem.IntMulOk
  intro z
  rw [Bool.and_eq_true] at z
  have z2 := z.2
  unfold Builtin.Int.intTooBig at z2
  have z3 := of_decide_eq_true z2
  rw [e] at z3
  omega
theorem op_mulX : OpR X (binaryOp .Mult) (rI (fun i j => mulOk i j = true) fun i j => .int (i * j)) := opI fun _ _ _ _ _ _ _ hc q => PyProof.Rows.mul_int q (mulOk_fit hc)
theorem ops_mul (m : Bool) : OpS X C (binaryOp .Mult) (opMul m) := by
  intro pins s σ H x y v u Q I rx ry h
  obtain ⟨μ, S, dx, dy, sr, vx, vy, q⟩ := h
  cases dx with
  | int i =>
    cases dy with
    | int j =>
      cases VR_int.mp vx
      cases VR_int.mp vy
      by_cases hl : mulOk i j = true
      · simp only [opMul, if_pos hl, ofO] at q
        exact op_mulX pins s σ H _ _ v u Q I rx ry ⟨i, j, rfl, rfl, hl, old_val sr (VR_int.mpr rfl) q⟩
      · simp only [opMul, if_neg hl, ofO] at q
        exact q.elim
    | _ => exact q.elim
  | ref n =>
    cases dy with
    | int k =>
      cases VR_int.mp vy
      simp only [opMul] at q
      split at q
      · rename_i ds e1
        obtain ⟨a, vs, rfl, ha, h1, h2⟩ := lst_at sr e1 vx
        by_cases hl : (decide (-1000 ≤ k) && decide (k ≤ 1000000) && decide (ds.length * k.toNat ≤ lim)) = true
        · rw [if_pos hl] at q
          simp only [Bool.and_eq_true, decide_eq_true_eq] at hl
          simp only [ofO] at q
          exact op_rep pins s σ H _ _ v u Q I rx ry ⟨a, k, vs, rfl, rfl, h1, by omega, by omega, by rw [← h2.length]; exact Nat.le_trans hl.2 lim_line, new_mk sr (h2.rep _) q⟩
        · rw [if_neg hl] at q
          exact q.elim
      · exact q.elim
    | _ => exact q.elim
  | tup ds =>
    cases dy with
    | int k =>
      cases VR_int.mp vy
      obtain ⟨a, vs, rfl, h1, h2⟩ := VR_tup.mp vx
      by_cases hl : (decide (ds ≠ []) && decide (2 ≤ k) && decide (k ≤ 1000) && decide (ds.length ≤ 1000)) = true
      · simp only [opMul] at q
        rw [if_pos hl] at q
        simp only [Bool.and_eq_true, decide_eq_true_eq] at hl
        simp only [ofO] at q
        refine op_repT pins s σ H _ _ v u Q I rx ry ⟨a, k, vs, rfl, rfl, h1, fun e => hl.1.1.1 (List.eq_nil_of_length_eq_zero (by rw [h2.length, e]; rfl)), hl.1.1.2, hl.1.2, by rw [← h2.length]; exact hl.2, new_tup sr (h2.rep _) q⟩
      · simp only [opMul] at q
        rw [if_neg hl] at q
        exact q.elim
    | _ => exact q.elim
  | _ => exact q.elim
theorem ops_div : OpS X C (binaryOp .FloorDiv) opDiv := by
  intro pins s σ H x y v u Q I rx ry h
  obtain ⟨μ, S, dx, dy, sr, vx, vy, q⟩ := h
  cases dx with
  | int i =>
    cases dy with
    | int j =>
      cases VR_int.mp vx
      cases VR_int.mp vy
      by_cases hl : divOk j = true
      · simp only [opDiv, if_pos hl, ofO] at q
        simp only [divOk, Bool.and_eq_true, decide_eq_true_eq] at hl
        exact op_fdivW pins s σ H _ _ v u Q I rx ry ⟨i, j, rfl, rfl, hl, old_val sr (VR_int.mpr rfl) q⟩
      · simp only [opDiv, if_neg hl, ofO] at q
        exact q.elim
    | _ => exact q.elim
  | _ => exact q.elim
theorem ops_mod : OpS X C (binaryOp .Mod) opMod := by
  intro pins s σ H x y v u Q I rx ry h
  obtain ⟨μ, S, dx, dy, sr, vx, vy, q⟩ := h
  cases dx with
  | int i =>
    cases dy with
    | int j =>
      cases VR_int.mp vx
      cases VR_int.mp vy
      by_cases hl : 0 < j
      · simp only [opMod, if_pos hl, ofO] at q
        exact op_mod pins s σ H _ _ v u Q I rx ry ⟨i, j, rfl, rfl, hl, old_val sr (VR_int.mpr rfl) q⟩
      · simp only [opMod, if_neg hl, ofO] at q
        exact q.elim
    | _ => exact q.elim
  | _ => exact q.elim
theorem ops_pow : OpS X C (binaryOp .Pow) opPow := by
  intro pins s σ H x y v u Q I rx ry h
  obtain ⟨μ, S, dx, dy, sr, vx, vy, q⟩ := h
  cases dx with
  | int i =>
    cases dy with
    | int j =>
      cases VR_int.mp vx
      cases VR_int.mp vy
      by_cases hl : (decide (0 ≤ j) && decide (j ≤ 1000000) && decide (i.natAbs < 2 ^ 64)) = true
      · simp only [opPow] at q
        rw [if_pos hl] at q
        simp only [Bool.and_eq_true, decide_eq_true_eq] at hl
        exact op_pow pins s σ H _ _ v u Q I rx ry ⟨i, j, rfl, rfl, ⟨hl.1.1, hl.1.2, hl.2⟩, old_val sr (VR_int.mpr rfl) q⟩
      · simp only [opPow] at q
        rw [if_neg hl] at q
        exact q.elim
    | _ => exact q.elim
  | _ => exact q.elim

/-! ### comparisons -/
def opInt (p : Int → Int → Bool) : Op2 := fun x y S => match x, y with
  | .int i, .int j => some (.bl (p i j), S)
  | _, _ => none
theorem ops_int {F : Value → Value → Sem Value} {p : Int → Int → Bool} (h : OpR X F (rI0 fun i j => .bl (p i j))) : OpS X C F (opInt p) := by
  intro pins s σ H x y v u Q I rx ry hh
  obtain ⟨μ, S, dx, dy, sr, vx, vy, q⟩ := hh
  cases dx with
  | int i =>
    cases dy with
    | int j =>
      cases VR_int.mp vx
      cases VR_int.mp vy
      exact h pins s σ H _ _ v u Q I rx ry ⟨i, j, rfl, rfl, old_val sr (VR_bl.mpr rfl) q⟩
    | _ => exact q.elim
  | _ => exact q.elim
abbrev opLt : Op2 := opInt fun i j => decide (i < j)
abbrev opLe : Op2 := opInt fun i j => decide (i ≤ j)
abbrev opGt : Op2 := opInt fun i j => decide (j < i)
abbrev opGe : Op2 := opInt fun i j => decide (j ≤ i)
theorem ops_lt : OpS X C (compareOp .Lt) opLt := ops_int op_lt
theorem ops_le : OpS X C (compareOp .LtE) opLe := ops_int op_le
theorem ops_gt : OpS X C (compareOp .Gt) opGt := ops_int op_gt
theorem ops_ge : OpS X C (compareOp .GtE) opGe := ops_int op_ge
def eqD (x y : Dv) (S : Sto) : Option Bool := match x, y with
  | .int i, .int j => some (decide (i = j))
  | .str a, .str b => some (decide (a = b))
  | .bl a, .bl b => some (decide (a = b))
  | _, _ => match x.py S, y.py S with
    | some p, some q => if SeqAt.shaped p && SeqAt.shaped q then some (PyData.eqv p q) else none
    | _, _ => none
def opEq : Op2 := fun x y S => (eqD x y S).map fun b => (.bl b, S)
def opNe : Op2 := fun x y S => (eqD x y S).map fun b => (.bl (!b), S)
theorem ofO_map {K : PySem.W.Frag} {W : WX} {o : Option Bool} {g : Bool → Dv} {S : Sto} {μ : Mu} {σ : L2.St} {H : Hp} {Q : VK} (q : tR K C W (PV K) (ofO (o.map fun b => (g b, S))) μ σ H Q) : ∃ b, o = some b ∧ tR K C W (PV K) (.ok (g b) S) μ σ H Q := by
  cases o with
  | none => exact q.elim
  | some b => exact ⟨b, rfl, q⟩
theorem eqD_deep {x y : Dv} {S : Sto} {b : Bool} (h : eqD x y S = some b) : (∃ i j, x = .int i ∧ y = .int j ∧ b = decide (i = j)) ∨ (∃ i j, x = .str i ∧ y = .str j ∧ b = decide (i = j)) ∨ (∃ i j, x = .bl i ∧ y = .bl j ∧ b = decide (i = j)) ∨
    ∃ p q, x.py S = some p ∧ y.py S = some q ∧ SeqAt.shaped p = true ∧ SeqAt.shaped q = true ∧ b = PyData.eqv p q := by
  unfold eqD at h
  split at h
  · cases h; exact .inl ⟨_, _, rfl, rfl, rfl⟩
  · cases h; exact .inr (.inl ⟨_, _, rfl, rfl, rfl⟩)
  · cases h; exact .inr (.inr (.inl ⟨_, _, rfl, rfl, rfl⟩))
  · split at h
    · rename_i p q e1 e2
      split at h
      · rename_i hs
        simp only [Bool.and_eq_true] at hs
        cases h
        exact .inr (.inr (.inr ⟨p, q, e1, e2, hs.1, hs.2, rfl⟩))
      · cases h
    · cases h
theorem ops_eq (hu : X.A.units + 64 < cLine) : OpS X C (compareOp .Eq) opEq := by
  intro pins s σ H x y v u Q I rx ry h
  obtain ⟨μ, S, dx, dy, sr, vx, vy, q⟩ := h
  obtain ⟨b, e, q⟩ := ofO_map q
  have fin := old_val sr (VR_bl.mpr rfl) q
  rcases eqD_deep e with ⟨i, j, rfl, rfl, rfl⟩ | ⟨i, j, rfl, rfl, rfl⟩ | ⟨i, j, rfl, rfl, rfl⟩ | ⟨p, q', e1, e2, s1, s2, rfl⟩
  · cases VR_int.mp vx
    cases VR_int.mp vy
    refine op_eq pins s σ H _ _ v u Q I rx ry ⟨rfl, ?_⟩
    rw [show decide (V.int i = V.int j) = decide (i = j) from by rw [dec_int]; rfl]
    exact fin
  · cases VR_str.mp vx
    cases VR_str.mp vy
    refine op_eq pins s σ H _ _ v u Q I rx ry ⟨rfl, ?_⟩
    rw [show decide (V.str i = V.str j) = decide (i = j) from by by_cases hij : i = j <;> simp [hij]]
    exact fin
  · cases VR_bl.mp vx
    cases VR_bl.mp vy
    refine op_eq pins s σ H _ _ v u Q I rx ry ⟨rfl, ?_⟩
    rw [show decide (V.bl i = V.bl j) = decide (i = j) from by by_cases hij : i = j <;> simp [hij]]
    exact fin
  · exact op_eqD hu pins s σ H _ _ v u Q I rx ry ⟨p, q', py_dp sr e1 vx, py_dp sr e2 vy, s1, s2, fin⟩
theorem ops_ne (hu : X.A.units + 64 < cLine) : OpS X C (compareOp .NotEq) opNe := by
  intro pins s σ H x y v u Q I rx ry h
  obtain ⟨μ, S, dx, dy, sr, vx, vy, q⟩ := h
  obtain ⟨b, e, q⟩ := ofO_map q
  have fin := old_val sr (VR_bl.mpr rfl) q
  rcases eqD_deep e with ⟨i, j, rfl, rfl, rfl⟩ | ⟨i, j, rfl, rfl, rfl⟩ | ⟨i, j, rfl, rfl, rfl⟩ | ⟨p, q', e1, e2, s1, s2, rfl⟩
  · cases VR_int.mp vx
    cases VR_int.mp vy
    refine op_ne pins s σ H _ _ v u Q I rx ry ⟨rfl, ?_⟩
    rw [show decide (V.int i = V.int j) = decide (i = j) from by rw [dec_int]; rfl]
    exact fin
  · cases VR_str.mp vx
    cases VR_str.mp vy
    refine op_ne pins s σ H _ _ v u Q I rx ry ⟨rfl, ?_⟩
    rw [show decide (V.str i = V.str j) = decide (i = j) from by by_cases hij : i = j <;> simp [hij]]
    exact fin
  · cases VR_bl.mp vx
    cases VR_bl.mp vy
    refine op_ne pins s σ H _ _ v u Q I rx ry ⟨rfl, ?_⟩
    rw [show decide (V.bl i = V.bl j) = decide (i = j) from by by_cases hij : i = j <;> simp [hij]]
    exact fin
  · exact op_neD hu pins s σ H _ _ v u Q I rx ry ⟨p, q', py_dp sr e1 vx, py_dp sr e2 vy, s1, s2, fin⟩
/-- x is None, x is True -/
def isD (x y : Dv) : Option Bool := match x, y with
  | .non, .non => some true
  | .ref _, .non => some false
  | .bl _, .non => some false
  | .int _, .non => some false
  | .str _, .non => some false
  | .tup _, .non => some false
  | .fz _, .non => some false
  | .bl a, .bl b => some (decide (a = b))
  | _, _ => none
def opIs : Op2 := fun x y S => (isD x y).map fun b => (.bl b, S)
def opIsnt : Op2 := fun x y S => (isD x y).map fun b => (.bl (!b), S)
theorem isD_of {K : PySem.W.Frag} {H : Hp} {μ : Mu} {x y : Dv} {b : Bool} {v u : V} (h : isD x y = some b) (vx : VR K H μ x v) (vy : VR K H μ y u) : (u = .non ∧ b = decide (v = .non)) ∨ ∃ i j, v = .bl i ∧ u = .bl j ∧ b = decide (i = j) := by
  unfold isD at h
  split at h
  · cases h; cases VR_non.mp vx; cases VR_non.mp vy; exact .inl ⟨rfl, rfl⟩
  · cases h; cases VR_non.mp vy; obtain ⟨_, _, rfl⟩ := VR_ref.mp vx; exact .inl ⟨rfl, by simp⟩
  · cases h; cases VR_non.mp vy; cases VR_bl.mp vx; exact .inl ⟨rfl, by simp⟩
  · cases h; cases VR_non.mp vy; cases VR_int.mp vx; exact .inl ⟨rfl, by simp⟩
  · cases h; cases VR_non.mp vy; cases VR_str.mp vx; exact .inl ⟨rfl, by simp⟩
  · cases h; cases VR_non.mp vy; obtain ⟨_, _, rfl, _⟩ := VR_tup.mp vx; exact .inl ⟨rfl, by simp⟩
  · cases h; cases VR_non.mp vy; obtain ⟨_, _, rfl, _⟩ := VR_fz.mp vx; exact .inl ⟨rfl, by simp⟩
  · cases h; cases VR_bl.mp vx; cases VR_bl.mp vy; exact .inr ⟨_, _, rfl, rfl, rfl⟩
  · cases h
theorem ops_is : OpS X C (compareOp .Is) opIs := by
  intro pins s σ H x y v u Q I rx ry h
  obtain ⟨μ, S, dx, dy, sr, vx, vy, q⟩ := h
  obtain ⟨b, e, q⟩ := ofO_map q
  have fin := old_val sr (VR_bl.mpr rfl) q
  rcases isD_of e vx vy with ⟨rfl, rfl⟩ | ⟨i, j, rfl, rfl, rfl⟩
  · exact op_isN pins s σ H _ _ v u Q I rx ry ⟨rfl, fin⟩
  · exact op_isBl pins s σ H _ _ v u Q I rx ry ⟨i, j, rfl, rfl, fin⟩
theorem ops_isnt : OpS X C (compareOp .IsNot) opIsnt := by
  intro pins s σ H x y v u Q I rx ry h
  obtain ⟨μ, S, dx, dy, sr, vx, vy, q⟩ := h
  obtain ⟨b, e, q⟩ := ofO_map q
  have fin := old_val sr (VR_bl.mpr rfl) q
  rcases isD_of e vx vy with ⟨rfl, rfl⟩ | ⟨i, j, rfl, rfl, rfl⟩
  · exact op_notN pins s σ H _ _ v u Q I rx ry ⟨rfl, fin⟩
  · exact op_notBl pins s σ H _ _ v u Q I rx ry ⟨i, j, rfl, rfl, fin⟩
end
end Fc

set_option exponentiation.threshold 256
set_option maxHeartbeats 4000000
set_option maxHeartbeats 4000000
/-! FcBuilt: subscripts, slices, built-in functions and methods, what loops walk. -/
namespace Fc
open PySem L2

/-- a list or a tuple -/
def seqOf (S : Sto) : Dv → Option (List Dv)
  | .tup ds => some ds
  | d => listOf S d
section
variable {K : PySem.W.Frag} {C : Nat → Addr} {H : Hp} {μ : Mu} {S : Sto}
theorem seqOf_sq (sr : SR K C μ S H) {d : Dv} {v : V} {ds : List Dv} (e : seqOf S d = some ds) (h : VR K H μ d v) : ∃ a vs, v = .ref a ∧ (SqL K H a vs ∨ SqT K H a vs) ∧ VRs K H μ ds vs := by
  cases d with
  | tup es =>
    cases e
    obtain ⟨a, vs, rfl, h1, h2⟩ := VR_tup.mp h
    exact ⟨a, vs, rfl, .inr h1, h2⟩
  | fz es =>
    obtain ⟨a, vs, e1, h1, h2⟩ := listOf_sq sr (d := .fz es) e h
    exact ⟨a, vs, e1, .inl h1, h2⟩
  | ref n =>
    obtain ⟨a, vs, e1, h1, h2⟩ := listOf_sq sr (d := .ref n) e h
    exact ⟨a, vs, e1, .inl h1, h2⟩
  | _ => cases e
theorem atI_VR {ds : List Dv} {vs : List V} {i : Int} {d : Dv} (h : VRs K H μ ds vs) (e : atI ds i = some d) : ∃ v, atI vs i = some v ∧ VR K H μ d v := by
  unfold atI at e ⊢
  obtain ⟨j, e1, e2⟩ := Option.bind_eq_some_iff.mp e
  obtain ⟨v, h1, h2⟩ := h.get e2
  rw [← h.length, e1]
  exact ⟨v, h1, h2⟩
end

/-! ### x[i] -/
def opIx : Op2 := fun x y S => match y with
  | .int i => match seqOf S x with
    | some ds => match atI ds i with
      | some d => some (d, S)
      | none => none
    | none => none
  | _ => none
section
variable {X : Cx} {C : Nat → Addr} {W : WX} {k : Nat} {e a b : Expr} {es : List Expr} {f g fa fb : DE} {l : DL} {pos p2 p : Pos}
theorem ixs : IxR X (rOp X.K C opIx) := by
  intro value slice pins s σ H x y v u Q I rx ry h hs
  obtain ⟨μ, S, dx, dy, sr, vx, vy, q⟩ := h
  cases dy with
  | int i =>
    simp only [opIx] at q
    split at q
    · rename_i ds e1
      split at q
      · rename_i d e2
        cases VR_int.mp vy
        obtain ⟨p, vs, rfl, hq, h2⟩ := seqOf_sq sr e1 vx
        obtain ⟨z, h3, h4⟩ := atI_VR h2 e2
        refine ix_seq value slice pins s σ H _ _ v u Q I rx ry ?_ hs
        rcases hq with hq | hq
        · exact .inl ⟨p, vs, i, z, rfl, rfl, hq, h3, old_val sr h4 q⟩
        · exact .inr (.inl ⟨p, vs, i, z, rfl, rfl, hq, h3, old_val sr h4 q⟩)
      · exact q.elim
    · exact q.elim
  | _ => exact q.elim
theorem se_ix (ha : SE X C W a fa) (hb : SE X C W b fb) (hs : PlainIx b := by exact fun _ _ => rfl) : SE X C W (.Subscript a b pos) (eOp opIx fa fb) :=
  ⟨pe_imp (pe_ix ixs ha.pe hb.pe hs) fun _ _ _ q => op_go q⟩

/-! ### x[lo:hi] -/
abbrev DO := Ev → Sto → Res (Option Int)
def oNo : DO := fun _ S => .ok none S
def oSo (f : DE) : DO := fun ρ S => (f ρ S).bd fun d S1 => match d with
  | .int i => .ok (some i) S1
  | _ => .stuck
abbrev PO2 : Mu → Hp → Option Int → Option Int → Prop := fun _ _ a b => a = b
structure SO (X : Cx) (C : Nat → Addr) (W : WX) (e : Option Expr) (f : DO) : Prop where
  po : PO X e (tG X.K C W PO2 f)
theorem po_imp {o : Option Expr} {t t' : TO} (h : PO X o t) (k : ∀ σ H Q, t' σ H Q → t σ H Q) : PO X o t' := ⟨fun pins s σ H Q I q => h.run pins s σ H Q I (k _ _ _ q)⟩
theorem so_no : SO X C W none oNo := ⟨po_imp po_none fun σ H Q ⟨μ, ρ, S, rl, q⟩ => q μ H none Aft.refl rl.sr rfl⟩
theorem so_so (h1 : SE X C W e f) : SO X C W (some e) (oSo f) := by
  refine ⟨po_imp (po_some h1.pe) fun σ H Q q => ?_⟩
  obtain ⟨μ, ρ, S, rl, q⟩ := q
  refine ⟨μ, ρ, S, rl, (tR.bd q).imp fun v H1 q1 => ?_⟩
  obtain ⟨μ1, S1, d, a1, s1, vr, q1⟩ := q1
  cases d with
  | int i => exact ⟨i, VR_int.mp vr, q1 μ1 H1 (some i) Aft.refl s1 rfl⟩
  | _ => exact q1.elim
def cutD (ds : List Dv) (lo hi : Option Int) : List Dv := (ds.drop (HT.sIx ds.length 0 lo)).take (HT.sIx ds.length ds.length hi - HT.sIx ds.length 0 lo)
theorem cut_VR {K : PySem.W.Frag} {H : Hp} {μ : Mu} {ds : List Dv} {vs : List V} (h : VRs K H μ ds vs) (lo hi : Option Int) : VRs K H μ (cutD ds lo hi) (cutV vs lo hi) := by
  unfold cutD cutV
  rw [h.length]
  exact (h.drop _).take _
def slD (m : Bool) (x : Dv) (lo hi : Option Int) (S : Sto) : Option (Dv × Sto) := match x with
  | .tup ds => some (.tup (cutD ds lo hi), S)
  | d => match listOf S d with
    | some ds => some (mk m (cutD ds lo hi) S)
    | none => none
theorem cutD_whole (ds : List Dv) (lo hi : Option Int) (h : HT.sIx ds.length 0 lo = 0 ∧ HT.sIx ds.length ds.length hi = ds.length) : cutD ds lo hi = ds := by
  unfold cutD
  rw [h.1, h.2]
  simp
theorem sls (m : Bool) : SlR X fun x lo hi H Q => ∃ μ S d, SR X.K C μ S H ∧ VR X.K H μ d x ∧ tR X.K C W0 (PV X.K) (ofO (slD m d lo hi S)) μ [] H Q := by
  intro pins s σ H x v vl vu lo hi sl Q I rx hs pl pu h
  obtain ⟨μ, S, d, sr, vr, q⟩ := h
  cases e1 : listOf S d with
  | some ds =>
    have e2 : slD m d lo hi S = some (mk m (cutD ds lo hi) S) := by
      cases d with
      | tup _ => cases e1
      | _ => simp only [slD, e1]
    obtain ⟨a, vs, rfl, h1, h2⟩ := listOf_sq sr e1 vr
    rw [e2] at q
    exact sl_list pins s σ H _ v vl vu lo hi sl Q I rx hs pl pu ⟨a, vs, rfl, h1, new_mk sr (cut_VR h2 lo hi) q⟩
  | none =>
    cases d with
    | tup ds =>
      obtain ⟨a, vs, rfl, h1, h2⟩ := VR_tup.mp vr
      refine sl_tupA pins s σ H _ v vl vu lo hi sl Q I rx hs pl pu ⟨a, vs, rfl, h1, fun hw => ?_, fun _ p hp => ?_⟩
      · simp only [slD] at q
        rw [cutD_whole ds lo hi (by rw [h2.length]; exact hw)] at q
        exact old_val sr vr q
      · exact new_tup sr (cut_VR h2 lo hi) q p hp
    | _ =>
      simp only [slD, e1] at q
      exact q.elim
def eSl (m : Bool) (f : DE) (lo hi : DO) : DE := fun ρ S => (f ρ S).bd fun d S1 => (lo ρ S1).bd fun a S2 => (hi ρ S2).bd fun b S3 => ofO (slD m d a b S3)
theorem se_sl (m : Bool) {lo hi : Option Expr} {fl fh : DO} (he : SE X C W e f) (hl : SO X C W lo fl) (hh : SO X C W hi fh) : SE X C W (.Subscript e (.Slice lo hi none p2) pos) (eSl m f fl fh) := by
  refine ⟨pe_imp (pe_slice (sls (C := C) m) he.pe hl.po hh.po) fun σ H Q q => ?_⟩
  obtain ⟨μ, ρ, S, rl, q⟩ := q
  refine ⟨μ, ρ, S, rl, (tR.bd q).imp fun v H1 q1 => ?_⟩
  obtain ⟨μ1, S1, d, a1, s1, vr, q1⟩ := q1
  refine ⟨μ1, ρ, S1, rl.next a1 s1, (tR.bd q1).imp fun v2 H2 q2 => ?_⟩
  obtain ⟨μ2, S2, d2, a2, s2, e2, q2⟩ := q2
  cases (show d2 = v2 from e2)
  refine ⟨μ2, ρ, S2, (rl.next a1 s1).next a2 s2, (tR.bd q2).imp fun v3 H3 q3 => ?_⟩
  obtain ⟨μ3, S3, d3, a3, s3, e3, q3⟩ := q3
  cases (show d3 = v3 from e3)
  exact ⟨μ3, S3, d, s3, vr.mono (a2.trans a3), tR.ofO q3⟩

/-! ### built-in functions -/
abbrev OpN := List Dv → Sto → Option (Dv × Sto)
def rCall (K : PySem.W.Frag) (C : Nat → Addr) (g : OpN) : List V → Hp → VK → Prop := fun vs H Q => ∃ μ S ds, SR K C μ S H ∧ VRs K H μ ds vs ∧ tR K C W0 (PV K) (ofO (g ds S)) μ [] H Q
abbrev CaS (X : Cx) (C : Nat → Addr) (F : Value) (g : OpN) : Prop := CallR X F (rCall X.K C g)
def eBi (g : OpN) (l : DL) : DE := fun ρ S => (l ρ S).bd fun ds S1 => ofO (g ds S1)
theorem bi_go {gg : OpN} {σ : L2.St} {H : Hp} {Q : VK} (q : tG X.K C W (PV X.K) (eBi gg l) σ H Q) : tCB (rCall X.K C gg) (tG X.K C W (PL X.K) l) σ H Q := by
  obtain ⟨μ, ρ, S, rl, q⟩ := q
  refine ⟨μ, ρ, S, rl, (tR.bd q).imp fun v H1 q1 => ?_⟩
  obtain ⟨μ1, S1, d, a1, s1, vr, q1⟩ := q1
  exact ⟨μ1, S1, d, s1, vr, tR.ofO q1⟩
theorem se_bi {x : Str} {id : String} {gg : OpN} (hc : CaS X C (.builtin id) gg) (hm : X.mg x = none) (hv : bootBuiltins x = some (.builtin id)) (ha : SL X C W (e :: es) l) (hg : Gl X x := by rfl) (hn : x ≠ "__name__" := by decide) (hdb : (x == ("__debug__" : Str)) = false := by decide)
    (he : starEach (e :: es) X.env = (false, eval e X.env) :: starEach es X.env := by rfl) (hpl : (backTo pos (starEach es X.env)).any (·.1) = false := by rfl) : SE X C W (.Call (.Name x p) (e :: es) [] pos) (eBi gg l) :=
  ⟨pe_imp (pe_callB hc hg hm hv ha.pa hn hdb he hpl) fun _ _ _ q => bi_go q⟩
theorem se_ty {x : Str} {T : String} {gg : OpN} (hc : CaS X C (.type T) gg) (hm : X.mg x = none) (hv : bootBuiltins x = some (.type T)) (ha : SL X C W (e :: es) l) (hg : Gl X x := by rfl) (hn : x ≠ "__name__" := by decide) (hdb : (x == ("__debug__" : Str)) = false := by decide)
    (he : starEach (e :: es) X.env = (false, eval e X.env) :: starEach es X.env := by rfl) (hpl : (backTo pos (starEach es X.env)).any (·.1) = false := by rfl) : SE X C W (.Call (.Name x p) (e :: es) [] pos) (eBi gg l) :=
  ⟨pe_imp (pe_callTy hc hg hm hv ha.pa hn hdb he hpl) fun _ _ _ q => bi_go q⟩
def fLen : OpN := fun ds S => match ds with
  | [.str x] => if x.length ≤ lim then some (.int (x.length : Nat), S) else none
  | [d] => match seqOf S d with
    | some es => some (.int (es.length : Nat), S)
    | none => none
  | _ => none
theorem cas_len : CaS X C (.builtin "len") fLen := by
  intro pins s σ H vs us Q I r h
  obtain ⟨μ, S, ds, sr, vr, q⟩ := h
  unfold fLen at q
  split at q
  · rename_i x
    split at q
    · rename_i hl
      obtain ⟨v, t, rfl, h1, h2⟩ := VRs_cons.mp vr
      cases VRs_nil.mp h2
      cases VR_str.mp h1
      exact call_len pins s σ H _ us Q I r ⟨_, x.length, rfl, ⟨Nat.le_trans hl lim_line, rfl⟩, old_val sr (VR_int.mpr rfl) q⟩
    · exact q.elim
  · rename_i d _
    split at q
    · rename_i es e1
      obtain ⟨v, t, rfl, h1, h2⟩ := VRs_cons.mp vr
      cases VRs_nil.mp h2
      obtain ⟨a, ws, rfl, hq, h3⟩ := seqOf_sq sr e1 h1
      refine call_len pins s σ H _ us Q I r ⟨_, ws.length, rfl, ?_, by rw [← h3.length]; exact old_val sr (VR_int.mpr rfl) q⟩
      rcases hq with hq | hq
      · exact .inl ⟨ws, hq, rfl⟩
      · exact .inr ⟨ws, hq, rfl⟩
    · exact q.elim
  · exact q.elim
def fAbs : OpN := fun ds S => match ds with
  | [.int i] => some (.int (if i < 0 then -i else i), S)
  | _ => none
theorem cas_abs : CaS X C (.builtin "abs") fAbs := by
  intro pins s σ H vs us Q I r h
  obtain ⟨μ, S, ds, sr, vr, q⟩ := h
  unfold fAbs at q
  split at q
  · obtain ⟨v, t, rfl, h1, h2⟩ := VRs_cons.mp vr
    cases VRs_nil.mp h2
    cases VR_int.mp h1
    exact call_abs pins s σ H _ us Q I r ⟨_, rfl, old_val sr (VR_int.mpr rfl) q⟩
  · exact q.elim
def fMax2 : OpN := fun ds S => match ds with
  | [.int i, .int j] => some (.int (if j > i then j else i), S)
  | _ => none
def fMin2 : OpN := fun ds S => match ds with
  | [.int i, .int j] => some (.int (if j < i then j else i), S)
  | _ => none
theorem cas_max2 (hc : X.calm = true) : CaS X C (.builtin "max") fMax2 := by
  intro pins s σ H vs us Q I r h
  obtain ⟨μ, S, ds, sr, vr, q⟩ := h
  unfold fMax2 at q
  split at q
  · obtain ⟨v, t, rfl, h1, h2⟩ := VRs_cons.mp vr
    obtain ⟨v2, t2, rfl, h3, h4⟩ := VRs_cons.mp h2
    cases VRs_nil.mp h4
    cases VR_int.mp h1
    cases VR_int.mp h3
    exact call_max2 hc pins s σ H _ us Q I r ⟨_, _, rfl, old_val sr (VR_int.mpr rfl) q⟩
  · exact q.elim
theorem cas_min2 (hc : X.calm = true) : CaS X C (.builtin "min") fMin2 := by
  intro pins s σ H vs us Q I r h
  obtain ⟨μ, S, ds, sr, vr, q⟩ := h
  unfold fMin2 at q
  split at q
  · obtain ⟨v, t, rfl, h1, h2⟩ := VRs_cons.mp vr
    obtain ⟨v2, t2, rfl, h3, h4⟩ := VRs_cons.mp h2
    cases VRs_nil.mp h4
    cases VR_int.mp h1
    cases VR_int.mp h3
    exact call_min2 hc pins s σ H _ us Q I r ⟨_, _, rfl, old_val sr (VR_int.mpr rfl) q⟩
  · exact q.elim
def fInt : OpN := fun ds S => match ds with
  | [.int i] => some (.int i, S)
  | [.bl b] => some (.int (if b then 1 else 0), S)
  | _ => none
theorem cas_int : CaS X C (.type "int") fInt := by
  intro pins s σ H vs us Q I r h
  obtain ⟨μ, S, ds, sr, vr, q⟩ := h
  unfold fInt at q
  split at q
  · obtain ⟨v, t, rfl, h1, h2⟩ := VRs_cons.mp vr
    cases VRs_nil.mp h2
    cases VR_int.mp h1
    exact call_int1 pins s σ H _ us Q I r (.inl ⟨_, rfl, old_val sr (VR_int.mpr rfl) q⟩)
  · obtain ⟨v, t, rfl, h1, h2⟩ := VRs_cons.mp vr
    cases VRs_nil.mp h2
    cases VR_bl.mp h1
    exact call_int1 pins s σ H _ us Q I r (.inr ⟨_, rfl, old_val sr (VR_int.mpr rfl) q⟩)
  · exact q.elim
/-! lists of ints, of bools -/
def intsOf : List Dv → Option (List Int)
  | [] => some []
  | .int i :: ds => (intsOf ds).map (i :: ·)
  | _ => none
theorem intsOf_eq : ∀ {ds : List Dv} {ns : List Int}, intsOf ds = some ns → ds = ns.map Dv.int
  | [], _, e => by cases e; rfl
  | .int i :: ds, _, e => by
    simp only [intsOf, Option.map_eq_some_iff] at e
    obtain ⟨ns, e1, rfl⟩ := e
    rw [intsOf_eq e1]
    rfl
  | .non :: _, _, e => by simp [intsOf] at e
  | .bl _ :: _, _, e => by simp [intsOf] at e
  | .str _ :: _, _, e => by simp [intsOf] at e
  | .tup _ :: _, _, e => by simp [intsOf] at e
  | .fz _ :: _, _, e => by simp [intsOf] at e
  | .ref _ :: _, _, e => by simp [intsOf] at e
@[simp] theorem intsOf_map : ∀ ns : List Int, intsOf (ns.map Dv.int) = some ns
  | [] => rfl
  | n :: ns => by simp [intsOf, intsOf_map ns]
def blsOf : List Dv → Option (List Bool)
  | [] => some []
  | .bl i :: ds => (blsOf ds).map (i :: ·)
  | _ => none
theorem blsOf_eq : ∀ {ds : List Dv} {ns : List Bool}, blsOf ds = some ns → ds = ns.map Dv.bl
  | [], _, e => by cases e; rfl
  | .bl i :: ds, _, e => by
    simp only [blsOf, Option.map_eq_some_iff] at e
    obtain ⟨ns, e1, rfl⟩ := e
    rw [blsOf_eq e1]
    rfl
  | .non :: _, _, e => by simp [blsOf] at e
  | .int _ :: _, _, e => by simp [blsOf] at e
  | .str _ :: _, _, e => by simp [blsOf] at e
  | .tup _ :: _, _, e => by simp [blsOf] at e
  | .fz _ :: _, _, e => by simp [blsOf] at e
  | .ref _ :: _, _, e => by simp [blsOf] at e
@[simp] theorem blsOf_map : ∀ ns : List Bool, blsOf (ns.map Dv.bl) = some ns
  | [] => rfl
  | n :: ns => by simp [blsOf, blsOf_map ns]
theorem VRs_bls {K : PySem.W.Frag} {H : Hp} {μ : Mu} : ∀ {ns : List Bool} {vs : List V}, VRs K H μ (ns.map Dv.bl) vs ↔ vs = ns.map V.bl
  | [], _ => by simp [VRs_nil]
  | n :: ns, vs => by
    rw [List.map_cons, List.map_cons, VRs_cons]
    constructor
    · rintro ⟨v, r, rfl, h1, h2⟩
      rw [VR_bl.mp h1, VRs_bls.mp h2]
    · rintro rfl
      exact ⟨_, _, rfl, VR_bl.mpr rfl, VRs_bls.mpr rfl⟩
def fAll : OpN := fun ds S => match ds with
  | [d] => match listOf S d with
    | some es => match blsOf es with
      | some bs => some (.bl (bs.all id), S)
      | none => none
    | none => none
  | _ => none
def fAny : OpN := fun ds S => match ds with
  | [d] => match listOf S d with
    | some es => match blsOf es with
      | some bs => some (.bl (bs.any id), S)
      | none => none
    | none => none
  | _ => none
def fSum : OpN := fun ds S => match ds with
  | [d] => match listOf S d with
    | some es => match intsOf es with
      | some ns => some (.int ns.sum, S)
      | none => none
    | none => none
  | _ => none
theorem cas_all (hc : X.calm = true) : CaS X C (.builtin "all") fAll := by
  intro pins s σ H vs us Q I r h
  obtain ⟨μ, S, ds, sr, vr, q⟩ := h
  unfold fAll at q
  split at q
  · split at q
    · rename_i es e1
      split at q
      · rename_i bs e2
        obtain ⟨v, t, rfl, h1, h2⟩ := VRs_cons.mp vr
        cases VRs_nil.mp h2
        obtain ⟨a, ws, rfl, hq, h3⟩ := listOf_sq sr e1 h1
        rw [blsOf_eq e2] at h3
        cases VRs_bls.mp h3
        exact cr_all hc pins s σ H _ us Q I r ⟨a, bs, rfl, hq, old_val sr (VR_bl.mpr rfl) q⟩
      · exact q.elim
    · exact q.elim
  · exact q.elim
theorem cas_any (hc : X.calm = true) : CaS X C (.builtin "any") fAny := by
  intro pins s σ H vs us Q I r h
  obtain ⟨μ, S, ds, sr, vr, q⟩ := h
  unfold fAny at q
  split at q
  · split at q
    · rename_i es e1
      split at q
      · rename_i bs e2
        obtain ⟨v, t, rfl, h1, h2⟩ := VRs_cons.mp vr
        cases VRs_nil.mp h2
        obtain ⟨a, ws, rfl, hq, h3⟩ := listOf_sq sr e1 h1
        rw [blsOf_eq e2] at h3
        cases VRs_bls.mp h3
        exact cr_any hc pins s σ H _ us Q I r ⟨a, bs, rfl, hq, old_val sr (VR_bl.mpr rfl) q⟩
      · exact q.elim
    · exact q.elim
  · exact q.elim
theorem cas_sum (hc : X.calm = true) : CaS X C (.builtin "sum") fSum := by
  intro pins s σ H vs us Q I r h
  obtain ⟨μ, S, ds, sr, vr, q⟩ := h
  unfold fSum at q
  split at q
  · split at q
    · rename_i es e1
      split at q
      · rename_i bs e2
        obtain ⟨v, t, rfl, h1, h2⟩ := VRs_cons.mp vr
        cases VRs_nil.mp h2
        obtain ⟨a, ws, rfl, hq, h3⟩ := listOf_sq sr e1 h1
        rw [intsOf_eq e2] at h3
        cases VRs.ints.mp h3
        exact cr_sum hc pins s σ H _ us Q I r ⟨a, bs, rfl, hq, old_val sr (VR_int.mpr rfl) q⟩
      · exact q.elim
    · exact q.elim
  · exact q.elim
def insI (n : Int) : List Int → List Int
  | [] => [n]
  | m :: ms => if n ≤ m then n :: m :: ms else m :: insI n ms
def sortI : List Int → List Int
  | [] => []
  | n :: ns => insI n (sortI ns)
theorem insI_perm (n : Int) : ∀ ms : List Int, (insI n ms).Perm (n :: ms)
  | [] => .refl _
  | m :: ms => by
    unfold insI
    split
    · exact .refl _
    · exact ((insI_perm n ms).cons m).trans (.swap n m ms)
theorem sortI_perm : ∀ ns : List Int, (sortI ns).Perm ns
  | [] => .refl _
  | n :: ns => (insI_perm n _).trans ((sortI_perm ns).cons n)
theorem insI_sorted (n : Int) : ∀ ms : List Int, ms.Pairwise (· ≤ ·) → (insI n ms).Pairwise (· ≤ ·)
  | [], _ => by simp [insI]
  | m :: ms, h => by
    unfold insI
    rw [List.pairwise_cons] at h
    split
    · rename_i hle
      refine List.pairwise_cons.mpr ⟨fun x hx => ?_, List.pairwise_cons.mpr h⟩
      rcases List.mem_cons.mp hx with rfl | hx
      · exact hle
      · exact Int.le_trans hle (h.1 x hx)
    · rename_i hle
      refine List.pairwise_cons.mpr ⟨fun x hx => ?_, insI_sorted n ms h.2⟩
      rcases List.mem_cons.mp ((insI_perm n ms).mem_iff.mp hx) with rfl | hx
      · omega
      · exact h.1 x hx
theorem sortI_sorted : ∀ ns : List Int, (sortI ns).Pairwise (· ≤ ·)
  | [] => List.Pairwise.nil
  | n :: ns => insI_sorted n _ (sortI_sorted ns)
theorem sorted_one : ∀ {l m : List Int}, l.Perm m → l.Pairwise (· ≤ ·) → m.Pairwise (· ≤ ·) → l = m
  | [], m, p, _, _ => (List.nil_perm.mp p).symm
  | x :: l, m, p, h1, h2 => by
    cases m with
    | nil => exact absurd p.length_eq (by simp)
    | cons y m =>
      rw [List.pairwise_cons] at h1 h2
      have e : x = y := by
        have a1 : x ∈ y :: m := p.mem_iff.mp List.mem_cons_self
        have a2 : y ∈ x :: l := p.mem_iff.mpr List.mem_cons_self
        rcases List.mem_cons.mp a1 with z | z
        · exact z
        · rcases List.mem_cons.mp a2 with z' | z'
          · exact z'.symm
          · exact Int.le_antisymm (h1.1 _ z') (h2.1 _ z)
      subst e
      rw [sorted_one ((List.perm_cons x).mp p) h1.2 h2.2]
def fSorted (m : Bool) : OpN := fun ds S => match ds with
  | [d] => match listOf S d with
    | some es => match intsOf es with
      | some ns => if ns.length < 64 then some (mk m ((sortI ns).map Dv.int) S) else none
      | none => none
    | none => none
  | _ => none
theorem cas_sorted (m : Bool) : CaS X C (.builtin "sorted") (fSorted m) := by
  intro pins s σ H vs us Q I r h
  obtain ⟨μ, S, ds, sr, vr, q⟩ := h
  unfold fSorted at q
  split at q
  · split at q
    · rename_i es e1
      split at q
      · rename_i bs e2
        split at q
        · rename_i hl
          obtain ⟨v, t, rfl, h1, h2⟩ := VRs_cons.mp vr
          cases VRs_nil.mp h2
          obtain ⟨a, ws, rfl, hq, h3⟩ := listOf_sq sr e1 h1
          rw [intsOf_eq e2] at h3
          cases VRs.ints.mp h3
          refine cr_sorted pins s σ H _ us Q I r ⟨a, bs, rfl, hq, hl, fun ns' p h4 h5 hp => ?_⟩
          have e3 : ns' = sortI bs := sorted_one (h4.trans (sortI_perm bs).symm) h5 (sortI_sorted bs)
          rw [e3]
          exact new_mk sr (VRs.ints.mpr rfl) q p hp
        · exact q.elim
      · exact q.elim
    · exact q.elim
  · exact q.elim
def fTuple : OpN := fun ds S => match ds with
  | [d] => match seqOf S d with
    | some es => some (.tup es, S)
    | none => none
  | _ => none
theorem cas_tuple : CaS X C (.type "tuple") fTuple := by
  intro pins s σ H vs us Q I r h
  obtain ⟨μ, S, ds, sr, vr, q⟩ := h
  unfold fTuple at q
  split at q
  · split at q
    · rename_i d es e1
      obtain ⟨v, t, rfl, h1, h2⟩ := VRs_cons.mp vr
      cases VRs_nil.mp h2
      obtain ⟨a, ws, rfl, hq, h3⟩ := seqOf_sq sr e1 h1
      refine call_tuple_of pins s σ H _ us Q I r ⟨a, ws, rfl, ?_⟩
      rcases hq with hq | hq
      · exact .inl ⟨hq, new_tup sr h3 q⟩
      · exact .inr ⟨hq, old_val sr (VR_tup.mpr ⟨a, ws, rfl, hq, h3⟩) q⟩
    · exact q.elim
  · exact q.elim
def fList (m : Bool) : OpN := fun ds S => match ds with
  | [d] => match seqOf S d with
    | some es => some (mk m es S)
    | none => none
  | _ => none
theorem cas_list (m : Bool) : CaS X C (.type "list") (fList m) := by
  intro pins s σ H vs us Q I r h
  obtain ⟨μ, S, ds, sr, vr, q⟩ := h
  unfold fList at q
  split at q
  · split at q
    · rename_i d es e1
      obtain ⟨v, t, rfl, h1, h2⟩ := VRs_cons.mp vr
      cases VRs_nil.mp h2
      obtain ⟨a, ws, rfl, hq, h3⟩ := seqOf_sq sr e1 h1
      exact call_list_of pins s σ H _ us Q I r ⟨a, ws, rfl, hq, new_mk sr h3 q⟩
    · exact q.elim
  · exact q.elim
/-! repr -/
def fRepr : OpN := fun ds S => match ds with
  | [d] => match d.py S with
    | some p => if SeqAt.shaped p && PyData.showable p && decide (p.shown.length ≤ lim) then some (.str p.shown, S) else none
    | none => none
  | _ => none
theorem cas_repr (hg : X.A.guards = some []) (hu : X.A.units + 100 < cLine) : CaS X C (.builtin "repr") fRepr := by
  intro pins s σ H vs us Q I r h
  obtain ⟨μ, S, ds, sr, vr, q⟩ := h
  unfold fRepr at q
  split at q
  · split at q
    · rename_i d p e1
      split at q
      · rename_i hc
        simp only [Bool.and_eq_true, decide_eq_true_eq] at hc
        obtain ⟨⟨hsh, hsw⟩, hlen⟩ := hc
        obtain ⟨v, t, rfl, h1, h2⟩ := VRs_cons.mp vr
        cases VRs_nil.mp h2
        obtain ⟨u, rfl, ru⟩ := Vals.one r
        obtain ⟨as, rd⟩ := Dp.reads I p v u (py_dp sr e1 h1) ru
        have fin : ∀ (h' : Heap) (w : Tok) (tk : Nat), (∀ b o, s.heap.get? b = some o → h'.get? b = some o) → EP X pins σ Q (.str p.shown w) { s with heap := h', toks := tk } := fun h' w tk kk =>
          ⟨.str p.shown, H, I.kept kk, ⟨w, rfl⟩, old_val sr (VR_str.mpr rfl) q⟩
        have hd := SeqAt.depth_of_shaped hsh
        have tight : p.shown.length ≤ sizeLine := Nat.le_trans hlen lim_line
        cases p with
        | none => cases rd; exact P.repr_of_none (fin _ _ _ fun _ _ z => z)
        | bool b => cases rd; exact P.repr_of_bool (fin _ _ _ fun _ _ z => z)
        | int i =>
          cases rd
          exact P.repr_of_int (by simpa [PyData.showable] using hsw) (fin _ _ _ fun _ _ z => z)
        | str x => cases rd; exact P.repr_of_str (fin _ _ _ fun _ _ z => z) tight
        | list xs =>
          cases rd with
          | list k1 k2 k3 k4 => exact repr_of_reads' (Reads.list k1 k2 k3 k4) hsw (PyData.noDict_hsm (PyData.hasDict_of_canLay _ (SeqAt.canLay_of_shaped hsh))) hg (by omega) (fun _ _ z => z) (fun h' w tk kk => fin h' w tk kk) tight
        | tuple xs =>
          cases rd with
          | tuple k1 k2 k3 k4 => exact repr_of_reads' (Reads.tuple k1 k2 k3 k4) hsw (PyData.noDict_hsm (PyData.hasDict_of_canLay _ (SeqAt.canLay_of_shaped hsh))) hg (by omega) (fun _ _ z => z) (fun h' w tk kk => fin h' w tk kk) tight
        | dict kvs => exact absurd (SeqAt.canLay_of_shaped hsh) (by simp [PyData.canLay0])
      · exact q.elim
    · exact q.elim
  · exact q.elim

/-! ### isinstance with a built-in class -/
inductive Ty where
  | non | bl | int | str | tup | lst | dic
  deriving DecidableEq
def Ty.nm : Ty → String
  | .non => "NoneType" | .bl => "bool" | .int => "int" | .str => "str" | .tup => "tuple" | .lst => "list" | .dic => "dict"
def isT (a b : Ty) : Bool := decide (a = b) || (decide (a = .bl) && decide (b = .int))
theorem isT_kit {K : PySem.W.Frag} {a b : Ty} (hb : b ≠ .non) : PySem.W.kitOne K (.type a.nm) (.type b.nm) = some (isT a b) := by
  cases a <;> cases b <;> first | exact absurd rfl hb | exact kit_ty (by decide +kernel)
def tyD (S : Sto) : Dv → Option Ty
  | .non => some .non
  | .bl _ => some .bl
  | .int _ => some .int
  | .str _ => some .str
  | .tup _ => some .tup
  | .fz _ => some .lst
  | .ref n => match S[n]? with
    | some (.lst _) => some .lst
    | some (.dic _) => some .dic
    | some (.ldic _) => some .dic
    | _ => none
  | .obj _ _ => none
theorem tyD_x {K : PySem.W.Frag} {H : Hp} {μ : Mu} {S : Sto} (sr : SR K C μ S H) {d : Dv} {v : V} {t : Ty} (e : tyD S d = some t) (h : VR K H μ d v) : TyX K H v (.type t.nm) := by
  cases d with
  | non => cases e; cases VR_non.mp h; exact .base .non
  | bl b => cases e; cases VR_bl.mp h; exact .base (.bl b)
  | int b => cases e; cases VR_int.mp h; exact .base (.int b)
  | str b => cases e; cases VR_str.mp h; exact .base (.str b)
  | tup ds =>
    cases e
    obtain ⟨a, vs, rfl, h1, _⟩ := VR_tup.mp h
    rcases h1 with (h1 | ⟨o, h1⟩) | ⟨o, its, n, h1, h2, _⟩
    · exact .base (.tup h1)
    · exact .fTuple h1
    · exact .kTuple h1 h2
  | fz ds =>
    cases e
    obtain ⟨a, vs, rfl, h1, _⟩ := VR_fz.mp h
    rcases h1 with ⟨o, h1⟩ | h1 | ⟨h1, _⟩
    · exact .base (.frz h1)
    · rcases h1 with (h1 | ⟨o, h1⟩) | ⟨o, its, n, h1, h2, _⟩
      · cases h1
      · cases h1
      · exact .kList h1 h2
    · exact .base (.lst h1)
  | obj c fs => cases e
  | ref n =>
    obtain ⟨a, ha, rfl⟩ := VR_ref.mp h
    simp only [tyD] at e
    split at e
    · rename_i ds e1
      cases e
      obtain ⟨ho, e3, vs, rfl, _⟩ := sr.ob n _ a e1 ha
      exact .base (.lst e3)
    · rename_i ds e1
      cases e
      obtain ⟨ho, e3, vs, rfl, _⟩ := sr.ob n _ a e1 ha
      exact .base (.dK e3)
    · rename_i ds e1
      cases e
      obtain ⟨ho, e3, o, vs, rfl, _⟩ := sr.ob n _ a e1 ha
      exact .fDict e3
    · cases e
def eIsi (T : Ty) (f : DE) : DE := fun ρ S => (f ρ S).bd fun d S1 => match tyD S1 d with
  | some t => .ok (.bl (isT t T)) S1
  | none => .stuck
theorem se_isi (T : Ty) {x : Str} {px : Pos} (ha : SE X C W e f) (hm : X.mg "isinstance" = none) (hmT : X.mg x = none) (hT : T ≠ .non := by decide) (hvT : bootBuiltins x = some (.type T.nm) := by decide +kernel) (hg : Gl X "isinstance" := by rfl) (hgT : Gl X x := by rfl)
    (hn : x ≠ "__name__" := by decide) (hdb : (x == ("__debug__" : Str)) = false := by decide)
    (he : starEach [e, .Name x px] X.env = (false, eval e X.env) :: starEach [.Name x px] X.env := by rfl) (he2 : starEach [.Name x px] X.env = (false, eval (.Name x px) X.env) :: starEach [] X.env := by rfl) (hpl : (backTo pos (starEach [.Name x px] X.env)).any (·.1) = false := by rfl) :
    SE X C W (.Call (.Name "isinstance" p) [e, .Name x px] [] pos) (eIsi T f) := by
  have pT : PE X (.Name x px) (tC (.ty T.nm)) := pe_bltn hgT hmT hvT rfl hn hdb
  refine ⟨pe_imp (pe_callB call_isi hg hm PyProof.Rows.boot_isinstance (pa_cons ha.pe (pa_cons pT pa_nil he2) he) (by decide) (by decide) he hpl) fun σ H Q q => ?_⟩
  obtain ⟨μ, ρ, S, rl, q⟩ := q
  refine ⟨μ, ρ, S, rl, (tR.bd q).imp fun v H1 q1 => ?_⟩
  obtain ⟨μ1, S1, d, a1, s1, vr, q1⟩ := q1
  cases e1 : tyD S1 d with
  | none => rw [e1] at q1; exact q1.elim
  | some t =>
    rw [e1] at q1
    exact ⟨v, .ty T.nm, .type t.nm, .type T.nm, isT t T, rfl, .ty _, tyD_x s1 e1 vr, isT_kit hT, old_val s1 (VR_bl.mpr rfl) q1⟩

/-! ### methods of lists and texts -/
abbrev OpM := Dv → List Dv → Sto → Option (Dv × Sto)
def rMt (K : PySem.W.Frag) (C : Nat → Addr) (g : OpM) : V → List V → Hp → VK → Prop := fun x xs H Q => ∃ μ S d ds, SR K C μ S H ∧ VR K H μ d x ∧ VRs K H μ ds xs ∧ tR K C W0 (PV K) (ofO (g d ds S)) μ [] H Q
abbrev MtS (X : Cx) (C : Nat → Addr) (id : String) (g : OpM) : Prop := MtR X id (rMt X.K C g)
/-- a list's method -/
def eMtL (g : OpM) (f : DE) (l : DL) : DE := fun ρ S => (f ρ S).bd fun d S1 => match listOf S1 d with
  | some _ => (l ρ S1).bd fun ds S2 => ofO (g d ds S2)
  | none => .stuck
theorem se_mtL {name : Str} {id : String} {gg : OpM} {o : Expr} {apos : Pos} (slot : Slot "list" name id) (hty : typeOf (.builtin id) = pure (.type "method_descriptor")) (hm : MtS X C id gg) (ho : SE X C W o f) (ha : SL X C W (e :: es) l)
    (hbase : attributeBase o name X.env (eval o X.env) = eval o X.env := by rfl)
    (hfew : ((backTo pos (starEach (e :: es) X.env)).all (fun x => !x.1) && (backToKw pos (keywordEach [] X.env)).all (fun x => x.1.isSome)
      && decide ((e :: es).length + ([] : List Keyword).length + (if ([] : List Keyword).isEmpty then 0 else 1) < 30)) = true := by rfl)
    (hline : (apos.endLine == pos.line) = true := by rfl) (hs : starEach (e :: es) X.env = (false, eval e X.env) :: starEach es X.env := by rfl) (hplain : (backTo pos (starEach es X.env)).any (·.1) = false := by rfl) :
    SE X C W (.Call (.Attribute o name apos) (e :: es) [] pos) (eMtL gg f l) := by
  refine ⟨pe_imp (pe_bm PySem.F.plainAttrs_list slot hty hm ho.pe ha.pa hbase hfew hline hs hplain) fun σ H Q q => ?_⟩
  obtain ⟨μ, ρ, S, rl, q⟩ := q
  refine ⟨μ, ρ, S, rl, (tR.bd q).imp fun v H1 q1 => ?_⟩
  obtain ⟨μ1, S1, d, a1, s1, vr, q1⟩ := q1
  cases e1 : listOf S1 d with
  | none => rw [e1] at q1; exact q1.elim
  | some ds =>
    rw [e1] at q1
    obtain ⟨a, vs, rfl, h1, h2⟩ := listOf_sq s1 e1 vr
    refine ⟨.inl ⟨rfl, vs, h1⟩, μ1, ρ, S1, rl.next a1 s1, (tR.bd q1).imp fun v2 H2 q2 => ?_⟩
    obtain ⟨μ2, S2, ds2, a2, s2, vr2, q2⟩ := q2
    exact ⟨μ2, S2, d, ds2, s2, vr.mono a2, vr2, tR.ofO q2⟩
def mAppend : OpM := fun d ds S => match d, ds with
  | .ref n, [y] => match S[n]? with
    | some (.lst es) => if es.length < lim then some (.non, S.set n (.lst (es ++ [y]))) else none
    | _ => none
  | _, _ => none
/-- a list of the store is changed -/
theorem put_lst {μ : Mu} {S : Sto} {H : Hp} {n : Nat} {ad : Addr} {ds : List Dv} {vs : List V} {d : Dv} {v : V} {σ : L2.St} {Q : VK} (sr : SR X.K C μ S H) (ha : μ.tr[n]? = some ad) (so : Soft (H ad)) (vr : VRs X.K H μ ds vs) (vd : VR X.K H μ d v)
    (q : tR X.K C W (PV X.K) (.ok d (S.set n (.lst ds))) μ σ H Q) : Q v (L2.upd H ad (.lst vs)) := by
  have af : Aft X.K μ H μ (L2.upd H ad (.lst vs)) := sr.put_aft ha so
  exact q μ _ v af (sr.put (o := .lst ds) ha so ⟨vs, rfl, vr.mono af⟩) (vd.mono af)
theorem mts_append : MtS X C "list.append" mAppend := by
  intro pins s σ H x xs v us Q I rx rxs h
  obtain ⟨μ, S, d, ds, sr, vd, vr, q⟩ := h
  unfold mAppend at q
  split at q
  · split at q
    · rename_i es e1
      split at q
      · rename_i hl
        obtain ⟨z, t, rfl, h1, h2⟩ := VRs_cons.mp vr
        cases VRs_nil.mp h2
        obtain ⟨a, vs, rfl, ha, h3, h4⟩ := lst_at sr e1 vd
        exact mt_append pins s σ H _ _ v us Q I rx rxs ⟨a, vs, z, rfl, rfl, h3, by rw [← h4.length]; exact Nat.lt_of_lt_of_le hl lim_line,
          put_lst sr ha (by rw [h3]; exact True.intro) (h4.append (VRs_cons.mpr ⟨z, [], rfl, h1, VRs_nil.mpr rfl⟩)) (VR_non.mpr rfl) q⟩
      · exact q.elim
    · exact q.elim
  · exact q.elim
def mExtend : OpM := fun d ds S => match d, ds with
  | .ref n, [.ref m] => match S[n]?, S[m]? with
    | some (.lst es), some (.lst fs) => if es.length + fs.length ≤ lim then some (.non, S.set n (.lst (es ++ fs))) else none
    | _, _ => none
  | _, _ => none
theorem mts_extend : MtS X C "list.extend" mExtend := by
  intro pins s σ H x xs v us Q I rx rxs h
  obtain ⟨μ, S, d, ds, sr, vd, vr, q⟩ := h
  unfold mExtend at q
  split at q
  · split at q
    · rename_i es fs e1 e2
      split at q
      · rename_i hl
        obtain ⟨z, t, rfl, h1, h2⟩ := VRs_cons.mp vr
        cases VRs_nil.mp h2
        obtain ⟨a, vs, rfl, ha, h3, h4⟩ := lst_at sr e1 vd
        obtain ⟨b, ws, rfl, hb, h5, h6⟩ := lst_at sr e2 h1
        exact mt_extend pins s σ H _ _ v us Q I rx rxs ⟨a, b, vs, ws, rfl, rfl, h3, h5, by rw [← h4.length, ← h6.length]; exact Nat.le_trans hl lim_line,
          put_lst sr ha (by rw [h3]; exact True.intro) (h4.append h6) (VR_non.mpr rfl) q⟩
      · exact q.elim
    · exact q.elim
  · exact q.elim
def mIndex : OpM := fun d ds S => match ds with
  | [y] => match d.py S, y.py S with
    | some (.list ps), some p => if SeqAt.shaped (.list ps) && SeqAt.shaped p then (match ps.findIdx? (fun z => PyData.eqv z p) with
      | some j => some (.int (j : Nat), S)
      | none => none) else none
    | _, _ => none
  | _ => none
theorem mts_index (hu : X.A.units + 65 < cLine) : MtS X C "list.index" mIndex := by
  intro pins s σ H x xs v us Q I rx rxs h
  obtain ⟨μ, S, d, ds, sr, vd, vr, q⟩ := h
  unfold mIndex at q
  split at q
  · split at q
    · rename_i y _ _ ps p e1 e2
      split at q
      · rename_i hc
        simp only [Bool.and_eq_true] at hc
        split at q
        · rename_i j ej
          obtain ⟨z, t, rfl, h1, h2⟩ := VRs_cons.mp vr
          cases VRs_nil.mp h2
          have D1 := py_dp sr e1 vd
          obtain ⟨a, ex⟩ : ∃ a, x = V.ref a := by cases D1; exact ⟨_, rfl⟩
          subst ex
          rw [List.findIdx?_eq_some_iff_getElem] at ej
          obtain ⟨hj, hz, hno⟩ := ej
          refine mt_indexD hu pins s σ H _ _ v us Q I rx rxs ⟨a, z, p, ps, j, ps[j], rfl, rfl, D1, py_dp sr e2 h1, hc.1, hc.2, List.getElem?_eq_getElem hj, hz, fun m z' hm e => ?_, old_val sr (VR_int.mpr rfl) q⟩
          have hlt : m < ps.length := (List.getElem?_eq_some_iff.mp e).1
          rw [List.getElem?_eq_getElem hlt] at e
          cases e
          simpa using hno m hm
        · exact q.elim
      · exact q.elim
    · exact q.elim
  · exact q.elim

/-! ### x in xs -/
def inD (x y : Dv) (S : Sto) : Option Bool := match x.py S, y.py S with
  | some p, some (.list qs) => if SeqAt.shaped p && SeqAt.shaped (.list qs) then some (qs.any fun z => PyData.eqv z p) else none
  | _, _ => none
def opIn : Op2 := fun x y S => (inD x y S).map fun b => (.bl b, S)
def opNotIn : Op2 := fun x y S => (inD x y S).map fun b => (.bl (!b), S)
theorem inD_of {x y : Dv} {S : Sto} {b : Bool} (h : inD x y S = some b) : ∃ p qs, x.py S = some p ∧ y.py S = some (.list qs) ∧ SeqAt.shaped p = true ∧ SeqAt.shaped (.list qs) = true ∧ b = qs.any fun z => PyData.eqv z p := by
  unfold inD at h
  split at h
  · rename_i p qs e1 e2
    split at h
    · rename_i hc
      simp only [Bool.and_eq_true] at hc
      cases h
      exact ⟨p, qs, e1, e2, hc.1, hc.2, rfl⟩
    · cases h
  · cases h
theorem ops_in (hu : X.A.units + 65 < cLine) : OpS X C (compareOp .In) opIn := by
  intro pins s σ H x y v u Q I rx ry h
  obtain ⟨μ, S, dx, dy, sr, vx, vy, q⟩ := h
  obtain ⟨b, e, q⟩ := ofO_map q
  have fin := old_val sr (VR_bl.mpr rfl) q
  obtain ⟨p, qs, e1, e2, s1, s2, rfl⟩ := inD_of e
  exact op_inD hu pins s σ H _ _ v u Q I rx ry ⟨p, qs, py_dp sr e1 vx, py_dp sr e2 vy, s1, s2, fin⟩
theorem ops_notin (hu : X.A.units + 65 < cLine) : OpS X C (compareOp .NotIn) opNotIn := by
  intro pins s σ H x y v u Q I rx ry h
  obtain ⟨μ, S, dx, dy, sr, vx, vy, q⟩ := h
  obtain ⟨b, e, q⟩ := ofO_map q
  have fin := old_val sr (VR_bl.mpr rfl) q
  obtain ⟨p, qs, e1, e2, s1, s2, rfl⟩ := inD_of e
  exact op_notInD hu pins s σ H _ _ v u Q I rx ry ⟨p, qs, py_dp sr e1 vx, py_dp sr e2 vy, s1, s2, fin⟩

/-! ### xs[i] = v -/
def cStore (fe fo fi : DE) : DS := fun ρ S => toS (fe ρ S) ρ fun d S1 => toS (fo ρ S1) ρ fun o S2 => toS (fi ρ S2) ρ fun i S3 => match o, i with
  | .ref n, .int j => match S3[n]? with
    | some (.lst es) => match ixN es.length j with
      | some m => .ok (.nx ρ) (S3.set n (.lst (es.set m d)))
      | none => .stuck
    | _ => .stuck
  | _, _ => .stuck
theorem ss_store {fo fi : DE} (h1 : SE X C W e f) (ho : SE X C W a fo) (hi : SE X C W b fi) (hs : swapsWithSole [.Subscript a b p2] e pos.line X.env = pure false := by rfl) (hw : swappedStores [.Subscript a b p2] e X.env = pure none := by rfl)
    (hh : (assignEach [.Subscript a b p2] X.env).map (·.2) = [assign (.Subscript a b p2) X.env] := by rfl)
    (ha : ∀ v, assign (.Subscript a b p2) X.env v = (do
      let ov ← holding [v] (eval a X.env)
      let iv ← holding [v, ov] (eval b X.env)
      standAt p2
      holding [v, ov, iv] (setItem ov iv v)
      release [v, ov, iv] []) := by intro _; rfl) : SS X C W (.Assign [.Subscript a b p2] e pos) (cStore f fo fi) := by
  refine ⟨ps_imp (ps_asg h1.pe (pg_sub ho.pe hi.pe set_list ha) hs hw hh) fun D σ H q => ?_⟩
  obtain ⟨μ, ρ, S, rl, q⟩ := q
  refine ⟨μ, ρ, S, rl, (toS_go q rl).imp fun v H1 q1 => ?_⟩
  obtain ⟨μ1, S1, d, a1, s1, vr, q1⟩ := q1
  have rl1 := rl.next a1 s1
  refine ⟨μ1, ρ, S1, rl1, (toS_go q1 rl1).imp fun v2 H2 q2 => ?_⟩
  obtain ⟨μ2, S2, d2, a2, s2, vr2, q2⟩ := q2
  have rl2 := rl1.next a2 s2
  refine ⟨μ2, ρ, S2, rl2, (toS_go q2 rl2).imp fun v3 H3 q3 => ?_⟩
  obtain ⟨μ3, S3, d3, a3, s3, vr3, q3⟩ := q3
  split at q3
  · rename_i n j
    split at q3
    · rename_i es e1
      split at q3
      · rename_i m em
        cases VR_int.mp vr3
        obtain ⟨ad, vs, rfl, ha3, h3, h4⟩ := lst_at s3 e1 (vr2.mono a3)
        have af : Aft X.K μ3 H3 μ3 (L2.upd H3 ad (.lst (vs.set m v))) := s3.put_aft ha3 (by rw [h3]; exact True.intro)
        refine ⟨ad, vs, j, m, rfl, rfl, h3, by rw [← h4.length]; exact em, q3 μ3 σ _ af ((rl2.next a3 s3).next af (s3.put (o := .lst (es.set m d)) ha3 (by rw [h3]; exact True.intro) ⟨_, rfl, ?_⟩))⟩
        exact (h4.mono af).set m ((vr.mono (a2.trans a3)).mono af)
      · exact q3.elim
    · exact q3.elim
  · exact q3.elim

/-! ### what loops walk -/
def itSeq (d : Dv) : Itf := fun S i => (seqOf S d).map fun ds => ds[i]?
def itList (d : Dv) : Itf := fun S i => (listOf S d).map fun ds => ds[i]?
def itRange (lo : Int) (n : Nat) : Itf := fun _ i => some (if i < n then some (.int (lo + i)) else none)
def iSeq (f : DE) : DI := fun ρ S => (f ρ S).bd fun d S1 => match seqOf S1 d with
  | some _ => .ok (itSeq d) S1
  | none => .stuck
/-- a range's bound (not to be worked out by the kernel) -/
noncomputable def rngB (j : Int) : Bool := @decide (-(2 ^ 62) ≤ j ∧ j < 2 ^ 62) (Classical.propDecidable _)
theorem rngB_iff {j : Int} : rngB j = true ↔ -(2 ^ 62) ≤ j ∧ j < 2 ^ 62 := by
  unfold rngB
  exact @decide_eq_true_iff _ (Classical.propDecidable _)
noncomputable def iRange1 (l : DL) : DI := fun ρ S => (l ρ S).bd fun ds S1 => match ds with
  | [.int j] => if rngB j then .ok (itRange 0 j.toNat) S1 else .stuck
  | _ => .stuck
noncomputable def iRange2 (l : DL) : DI := fun ρ S => (l ρ S).bd fun ds S1 => match ds with
  | [.int i, .int j] => if rngB i && rngB j then .ok (itRange i (j - i).toNat) S1 else .stuck
  | _ => .stuck
section
variable {tg : Expr}
theorem jm_range {K : PySem.W.Frag} {μ : Mu} {H : Hp} (lo : Int) (n : Nat) : Jm K C μ H (itRange lo n) (Itr lo n) := by
  intro μ1 S1 H1 af sr i
  simp only [itRange]
  by_cases h : i < n
  · rw [if_pos h]
    exact ⟨h, fun x H' y => by obtain ⟨rfl, rfl⟩ := y; exact ⟨Aft.refl, sr, VR_int.mpr rfl⟩⟩
  · rw [if_neg h]
    exact Nat.le_of_not_lt h
theorem si_range1 (hm : X.mg "range" = none) (ha : SL X C W [a] l) (hg : Gl X "range" := by rfl) (hs : starEach [a] X.env = [(false, eval a X.env)] := by rfl) : SI X C W tg (.Call (.Name "range" p) [a] [] pos) (iRange1 l) := by
  refine ⟨pi_imp (pi_range1 hg hm ha.pa hs) fun σ H R q => ?_⟩
  obtain ⟨μ, ρ, S, rl, q⟩ := q
  refine ⟨μ, ρ, S, rl, (tR.bd q).imp fun v H1 q1 => ?_⟩
  obtain ⟨μ1, S1, d, a1, s1, vr, q1⟩ := q1
  split at q1
  · rename_i j
    split at q1
    · rename_i hc
      have hc := rngB_iff.mp hc
      obtain ⟨z, t, rfl, h1, h2⟩ := VRs_cons.mp vr
      cases VRs_nil.mp h2
      cases VR_int.mp h1
      exact ⟨j, rfl, hc.1, hc.2, q1 μ1 H1 _ Aft.refl s1 (jm_range 0 _)⟩
    · exact q1.elim
  · exact q1.elim
theorem si_range2 (hm : X.mg "range" = none) (ha : SL X C W [a, b] l) (hg : Gl X "range" := by rfl) (hs : starEach [a, b] X.env = [(false, eval a X.env), (false, eval b X.env)] := by rfl) (hs2 : starEach [b] X.env = [(false, eval b X.env)] := by rfl) :
    SI X C W tg (.Call (.Name "range" p) [a, b] [] pos) (iRange2 l) := by
  refine ⟨pi_imp (pi_range2 hg hm ha.pa hs hs2) fun σ H R q => ?_⟩
  obtain ⟨μ, ρ, S, rl, q⟩ := q
  refine ⟨μ, ρ, S, rl, (tR.bd q).imp fun v H1 q1 => ?_⟩
  obtain ⟨μ1, S1, d, a1, s1, vr, q1⟩ := q1
  split at q1
  · rename_i i j
    split at q1
    · rename_i hc
      rw [Bool.and_eq_true, rngB_iff, rngB_iff] at hc
      obtain ⟨z, t, rfl, h1, h2⟩ := VRs_cons.mp vr
      obtain ⟨z2, t2, rfl, h3, h4⟩ := VRs_cons.mp h2
      cases VRs_nil.mp h4
      cases VR_int.mp h1
      cases VR_int.mp h3
      exact ⟨i, j, rfl, ⟨hc.1.1, hc.1.2, hc.2.1, hc.2.2⟩, q1 μ1 H1 _ Aft.refl s1 (jm_range i _)⟩
    · exact q1.elim
  · exact q1.elim
theorem VR.fixed {K : PySem.W.Frag} {μ μ1 : Mu} {H H1 : Hp} {d : Dv} {v : V} (h : VR K H μ d v) (af : Aw K μ H μ1 H1) : VR K H1 μ1 d v := h.weak af
theorem sq_at {K : PySem.W.Frag} {H : Hp} {a : Addr} {xs ys : List V} (I : ∀ ys, SqL K H a ys → ys = xs) (h : SqL K H a ys) : ys = xs := I ys h
/-- a list, as it stands at each turn; a tuple -/
theorem jm_list {μ : Mu} {H : Hp} {d : Dv} {ad : Addr} (vd : VR X.K H μ d (.ref ad)) (hl : ∀ S, seqOf S d = listOf S d) : Jm X.K C μ H (itSeq d) (Itl X.K ad) := by
  intro μ1 S1 H1 af sr i
  simp only [itSeq, hl]
  cases e1 : listOf S1 d with
  | none => trivial
  | some ds =>
    obtain ⟨a', vs, e2, hq, h2⟩ := listOf_sq sr e1 (vd.weak af)
    cases e2
    simp only [Option.map_some]
    cases e3 : ds[i]? with
    | none => exact ⟨vs, hq, by rw [← h2.length]; exact List.getElem?_eq_none_iff.mp e3⟩
    | some z =>
      obtain ⟨v, h3, h4⟩ := h2.get e3
      refine ⟨⟨vs, v, hq, h3⟩, fun x H' y => ?_⟩
      obtain ⟨rfl, y⟩ := y
      have e4 := y vs hq
      rw [h3] at e4
      cases e4
      exact ⟨Aft.refl, sr, h4⟩
theorem jm_tup {μ : Mu} {H : Hp} {ds : List Dv} {ad : Addr} (vd : VR X.K H μ (.tup ds) (.ref ad)) : Jm X.K C μ H (itSeq (.tup ds)) (Itt X.K ad) := by
  intro μ1 S1 H1 af sr i
  simp only [itSeq, seqOf, Option.map_some]
  obtain ⟨a', vs, e2, hq, h2⟩ := VR_tup.mp (vd.weak af)
  cases e2
  cases e3 : ds[i]? with
  | none => exact ⟨vs, hq, by rw [← h2.length]; exact List.getElem?_eq_none_iff.mp e3⟩
  | some z =>
    obtain ⟨v, h3, h4⟩ := h2.get e3
    refine ⟨⟨vs, v, hq, h3⟩, fun x H' y => ?_⟩
    obtain ⟨rfl, y⟩ := y
    have e4 := y vs hq
    rw [h3] at e4
    cases e4
    exact ⟨Aft.refl, sr, h4⟩
/-- a list or a tuple, whichever the value is -/
theorem si_seq (h1 : SE X C W e f) : SI X C W tg e (iSeq f) := by
  refine ⟨⟨fun pins s σ H R I q => ?_⟩⟩
  obtain ⟨μ, ρ, S, rl, q⟩ := q
  refine thn (h1.pe.run pins s σ H _ I ⟨μ, ρ, S, rl, tR.bd q⟩) fun v s1 hq => ?_
  obtain ⟨x, H1, I1, r1, μ1, S1, d, a1, s1', vr, q1⟩ := hq
  have go : ∀ (J : It), Jm X.K C μ1 H1 (itSeq d) J → seqOf S1 d ≠ none → R J H1 := fun J jm hn => by
    cases e1 : seqOf S1 d with
    | none => exact absurd e1 hn
    | some es => rw [e1] at q1; exact q1 μ1 H1 J Aft.refl s1' jm
  cases e1 : listOf S1 d with
  | some es =>
    have hl : ∀ S, seqOf S d = listOf S d := fun S => by cases d <;> first | rfl | cases e1
    obtain ⟨ad, vs, rfl, hq, h2⟩ := listOf_sq s1' e1 vr
    cases r1
    obtain ⟨its, rv, pp, hz⟩ := I1.list hq
    refine wpAny_pyIter_list pp.isList ?_
    refine ⟨s1.heap.objs.size, [s1.heap.objs.size], _, _, H1, rfl, I1.kept (t' := s1.toks) fun b o e => Heap.get?_push_of_some _ e, turn_list ad _, ⟨_, Heap.get?_push_size _ rfl, rfl, rfl⟩, fun b hb => ?_, go _ (jm_list vr hl) (by rw [hl, e1]; simp)⟩
    have eb : b = s1.heap.objs.size := by simpa using hb
    rw [eb]
    exact I1.fpOk (Nat.le_refl _) (I1.hok.fresh (Nat.le_refl _))
  | none =>
    cases d with
    | tup ds =>
      obtain ⟨ad, vs, rfl, hq, h2⟩ := VR_tup.mp vr
      cases r1
      obtain ⟨its, rv, pp, hz⟩ := I1.tuple hq
      refine wpAny_pyIter_tuple (show s1.heap.IsTuple ad its.toArray from pp) ?_
      refine ⟨s1.heap.objs.size, [s1.heap.objs.size], _, _, H1, rfl, I1.kept (t' := s1.toks) fun b o e => Heap.get?_push_of_some _ e, turn_tuple ad _, ⟨_, Heap.get?_push_size _ rfl, rfl, rfl⟩, fun b hb => ?_, go _ (jm_tup vr) (by simp [seqOf])⟩
      have eb : b = s1.heap.objs.size := by simpa using hb
      rw [eb]
      exact I1.fpOk (Nat.le_refl _) (I1.hok.fresh (Nat.le_refl _))
    | _ =>
      simp only [seqOf, e1] at q1
      exact q1.elim
/-! zip of two lists, of two tuples -/
def itZip (d e : Dv) : Itf := fun S i => match seqOf S d, seqOf S e with
  | some ds, some es => some (match ds[i]?, es[i]? with
    | some x, some y => some (.tup [x, y])
    | _, _ => none)
  | _, _ => none
def isTup : Dv → Bool
  | .tup _ => true
  | _ => false
def iZip (l : DL) : DI := fun ρ S => (l ρ S).bd fun ds S1 => match ds with
  | [d, e] => match seqOf S1 d, seqOf S1 e with
    | some _, some _ => if isTup d = isTup e then .ok (itZip d e) S1 else .stuck
    | _, _ => .stuck
  | _ => .stuck
/-- a pair that a walk makes -/
theorem new_pair {K : PySem.W.Frag} {μ : Mu} {S : Sto} {H : Hp} {x y : Dv} {v w : V} {T : Addr} (sr : SR K C μ S H) (hT : H T = none) (h1 : VR K H μ x v) (h2 : VR K H μ y w) :
    Aft K μ H μ (L2.upd H T (.tup [v, w])) ∧ SR K C μ S (L2.upd H T (.tup [v, w])) ∧ VR K (L2.upd H T (.tup [v, w])) μ (.tup [x, y]) (.ref T) := by
  have af : Aft K μ H μ (L2.upd H T (.tup [v, w])) := Aft.new hT
  exact ⟨af, sr.lay hT, VR_tup.mpr ⟨T, _, rfl, SqT.of upd_same, VRs_cons.mpr ⟨v, _, rfl, h1.mono af, VRs_cons.mpr ⟨w, _, rfl, h2.mono af, VRs_nil.mpr rfl⟩⟩⟩⟩
theorem seq_notTup {d : Dv} (h : isTup d = false) (S : Sto) : seqOf S d = listOf S d := by
  cases d <;> first | rfl | cases h
theorem jm_zipL {μ : Mu} {H : Hp} {d e : Dv} {ad bd : Addr} (vd : VR X.K H μ d (.ref ad)) (ve : VR X.K H μ e (.ref bd)) (hd : isTup d = false) (he : isTup e = false) : Jm X.K C μ H (itZip d e) (Itz X.K ad bd) := by
  intro μ1 S1 H1 af sr i
  simp only [itZip, seq_notTup hd, seq_notTup he]
  cases e1 : listOf S1 d with
  | none => trivial
  | some ds =>
    cases e2 : listOf S1 e with
    | none => trivial
    | some es =>
      obtain ⟨a', vs, q1, hq, h2⟩ := listOf_sq sr e1 (vd.weak af)
      cases q1
      obtain ⟨b', ws, q2, hq', h2'⟩ := listOf_sq sr e2 (ve.weak af)
      cases q2
      simp only
      cases e3 : ds[i]? with
      | none => exact ⟨vs, ws, hq, hq', .inl (by rw [← h2.length]; exact List.getElem?_eq_none_iff.mp e3)⟩
      | some x =>
        cases e4 : es[i]? with
        | none => exact ⟨vs, ws, hq, hq', .inr (by rw [← h2'.length]; exact List.getElem?_eq_none_iff.mp e4)⟩
        | some y =>
          obtain ⟨v, h3, h4⟩ := h2.get e3
          obtain ⟨w, h5, h6⟩ := h2'.get e4
          refine ⟨⟨vs, ws, v, w, hq, hq', h3, h5⟩, fun z H' yy => ?_⟩
          obtain ⟨T, x', y', rfl, hT, rfl, g1, g2⟩ := yy
          have g1' := g1 vs hq
          have g2' := g2 ws hq'
          rw [h3] at g1'
          rw [h5] at g2'
          cases g1'
          cases g2'
          exact new_pair sr hT h4 h6
theorem jm_zipT {μ : Mu} {H : Hp} {ds es : List Dv} {ad bd : Addr} (vd : VR X.K H μ (.tup ds) (.ref ad)) (ve : VR X.K H μ (.tup es) (.ref bd)) : Jm X.K C μ H (itZip (.tup ds) (.tup es)) (RZ.ItzT X.K ad bd) := by
  intro μ1 S1 H1 af sr i
  simp only [itZip, seqOf]
  obtain ⟨a', vs, q1, hq, h2⟩ := VR_tup.mp (vd.weak af)
  cases q1
  obtain ⟨b', ws, q2, hq', h2'⟩ := VR_tup.mp (ve.weak af)
  cases q2
  cases e3 : ds[i]? with
  | none => exact ⟨vs, ws, hq, hq', .inl (by rw [← h2.length]; exact List.getElem?_eq_none_iff.mp e3)⟩
  | some x =>
    cases e4 : es[i]? with
    | none => exact ⟨vs, ws, hq, hq', .inr (by rw [← h2'.length]; exact List.getElem?_eq_none_iff.mp e4)⟩
    | some y =>
      obtain ⟨v, h3, h4⟩ := h2.get e3
      obtain ⟨w, h5, h6⟩ := h2'.get e4
      refine ⟨⟨vs, ws, v, w, hq, hq', h3, h5⟩, fun z H' yy => ?_⟩
      obtain ⟨T, x', y', rfl, hT, rfl, g1, g2⟩ := yy
      have g1' := g1 vs hq
      have g2' := g2 ws hq'
      rw [h3] at g1'
      rw [h5] at g2'
      cases g1'
      cases g2'
      exact new_pair sr hT h4 h6
theorem si_zip {elts : List Expr} {kk : Nat} {tpos : Pos} (hm : X.mg "zip" = none) (ha : SL X C W [a, b] l) (hg : Gl X "zip" := by rfl) (hs : starEach [a, b] X.env = (false, eval a X.env) :: starEach [b] X.env := by rfl) (hpl : (backTo pos (starEach [b] X.env)).any (·.1) = false := by rfl) :
    SI X C W (.Tuple elts kk tpos) (.Call (.Name "zip" p) [a, b] [] pos) (Fc.iZip l) := by
  refine ⟨pi_imp (RZ.pi_zipA hg hm ha.pa hs hpl) fun σ H R q => ?_⟩
  obtain ⟨μ, ρ, S, rl, q⟩ := q
  refine ⟨μ, ρ, S, rl, (tR.bd q).imp fun v H1 q1 => ?_⟩
  obtain ⟨μ1, S1, dl, a1, s1, vr, q1⟩ := q1
  split at q1
  · rename_i d e
    split at q1
    · rename_i ds es e1 e2
      split at q1
      · rename_i hc
        obtain ⟨z, t, rfl, h1, h2⟩ := VRs_cons.mp vr
        obtain ⟨z2, t2, rfl, h3, h4⟩ := VRs_cons.mp h2
        cases VRs_nil.mp h4
        cases hd : isTup d with
        | false =>
          rw [hd] at hc
          obtain ⟨ad, vs, rfl, hq, _⟩ := listOf_sq s1 (by rw [← seq_notTup hd]; exact e1) h1
          obtain ⟨bd, ws, rfl, hq2, _⟩ := listOf_sq s1 (by rw [← seq_notTup hc.symm]; exact e2) h3
          exact ⟨ad, bd, vs, ws, rfl, .inl ⟨hq, hq2, q1 μ1 H1 _ Aft.refl s1 (jm_zipL h1 h3 hd hc.symm)⟩⟩
        | true =>
          rw [hd] at hc
          cases d with
          | tup dd =>
            cases e with
            | tup ee =>
              obtain ⟨ad, vs, rfl, hq, _⟩ := VR_tup.mp h1
              obtain ⟨bd, ws, rfl, hq2, _⟩ := VR_tup.mp h3
              exact ⟨ad, bd, vs, ws, rfl, .inr ⟨hq, hq2, q1 μ1 H1 _ Aft.refl s1 (jm_zipT h1 h3)⟩⟩
            | _ => cases hc
          | _ => cases hd
      · exact q1.elim
    · exact q1.elim
  · exact q1.elim
/-! enumerate of a list -/
def itEnum (d : Dv) : Itf := fun S i => match listOf S d with
  | some ds => some (match ds[i]? with
    | some x => some (.tup [.int (i : Nat), x])
    | none => none)
  | none => none
def iEnumL (l : DL) : DI := fun ρ S => (l ρ S).bd fun ds S1 => match ds with
  | [d] => match listOf S1 d with
    | some _ => .ok (itEnum d) S1
    | none => .stuck
  | _ => .stuck
theorem jm_enum {μ : Mu} {H : Hp} {d : Dv} {ad : Addr} (vd : VR X.K H μ d (.ref ad)) : Jm X.K C μ H (itEnum d) (Ite X.K ad) := by
  intro μ1 S1 H1 af sr i
  simp only [itEnum]
  cases e1 : listOf S1 d with
  | none => trivial
  | some ds =>
    obtain ⟨a', vs, q1, hq, h2⟩ := listOf_sq sr e1 (vd.weak af)
    cases q1
    simp only
    cases e3 : ds[i]? with
    | none => exact ⟨vs, hq, by rw [← h2.length]; exact List.getElem?_eq_none_iff.mp e3⟩
    | some x =>
      obtain ⟨v, h3, h4⟩ := h2.get e3
      refine ⟨⟨vs, v, hq, h3⟩, fun z H' yy => ?_⟩
      obtain ⟨T, x', rfl, hT, rfl, g1⟩ := yy
      have g1' := g1 vs hq
      rw [h3] at g1'
      cases g1'
      exact new_pair sr hT (VR_int.mpr rfl) h4
theorem si_enumL {elts : List Expr} {kk : Nat} {tpos : Pos} (hm : X.mg "enumerate" = none) (ha : SL X C W [a] l) (hg : Gl X "enumerate" := by rfl) (hs : starEach [a] X.env = [(false, eval a X.env)] := by rfl) :
    SI X C W (.Tuple elts kk tpos) (.Call (.Name "enumerate" p) [a] [] pos) (iEnumL l) := by
  refine ⟨pi_imp (pi_enum hg hm ha.pa hs) fun σ H R q => ?_⟩
  obtain ⟨μ, ρ, S, rl, q⟩ := q
  refine ⟨μ, ρ, S, rl, (tR.bd q).imp fun v H1 q1 => ?_⟩
  obtain ⟨μ1, S1, dl, a1, s1, vr, q1⟩ := q1
  split at q1
  · rename_i d
    split at q1
    · rename_i ds e1
      obtain ⟨z, t, rfl, h1, h2⟩ := VRs_cons.mp vr
      cases VRs_nil.mp h2
      obtain ⟨ad, vs, rfl, hq, _⟩ := listOf_sq s1 e1 h1
      exact ⟨ad, vs, rfl, hq, q1 μ1 H1 _ Aft.refl s1 (jm_enum h1)⟩
    · exact q1.elim
  · exact q1.elim
end
end
end Fc

set_option exponentiation.threshold 256
set_option maxHeartbeats 4000000
set_option maxHeartbeats 4000000
/-! FcLaw: the law's own call, from its denotation. -/
namespace Fc
open PySem L2
/-- the law's denotation says True of every script -/
def Says (den : Den) : Prop := ∀ ns : List Int, ns.length ≤ 63 → (∀ n ∈ ns, n.natAbs.log2 ≤ 1048576) → ∃ S', den [.fz (ns.map Dv.int)] [] = .ok (.bl true) S'
theorem log2_bits (n : Int) : n.natAbs.log2 ≤ Builtin.Int.intBits n := by
  unfold Builtin.Int.intBits
  split
  · rename_i h
    simp at h
    subst h
    decide
  · omega
section
variable {P : Program} {w : World} {K : PySem.W.Frag} {mg mb : Str → Option Value} {C : Nat → Addr} {k : Nat} {den : Den}
theorem law_at {fa a : Addr} {s1 : Shared} {vs : List Value} {ns : List Int} {H : Hp} (hD : ∀ base : Heap, K.In base → base.Ns mainGlobals mg → Df P w K mg base C "law" 1 k den) (hfa : mg "law" = some (.ref fa)) (hr : Room k callerA)
    (inK : K.In (hidT s1.heap H)) (hmod : Mod K mg (hidT s1.heap H)) (hok : HOk P w H s1.heap) (hgen : s1.gens = #[]) (hS : Fzl K H ⟨[], []⟩ a (ns.map V.int)) (hden : ∃ S', den [.fz (ns.map Dv.int)] [] = .ok (.bl true) S')
    (only : ∀ b, H b = none ∨ ∃ o xs, H b = some (.frz o (.lst xs))) :
    codeAny (model P w) callerA (.call (.ref fa) ⟨[.ref a], []⟩) (fun r s' => r = .ok (.ret (.bool true)) ∧ OldK s1.heap s'.heap ∧ s'.os = s1.os ∧ PyProof.Rows.AllBare s'.gens) s1 := by
  obtain ⟨f, fd, ps, h1, h2, h3, h4, F⟩ := (hD _ inK hmod.glob).ex
  have ef : f = fa := by
    have := h1.symm.trans hfa
    injection this with this
    injection this
  subst ef
  have e0 : Env0 P w K mg (hidT s1.heap H) callerA [] s1 H := ⟨rfl, hmod, fun b o e => of_hidT e, Nat.le_of_eq (hidT_size _ _), trivial, fun b hb => absurd hb (by simp [frs]), hok, PyProof.Rows.AllBare.of_eq hgen⟩
  have hbind := h3 s1 [.ref a] (hmod.kin.keeps fun b o e => (of_hidT e).1) (by simp [h4])
  rw [List.append_nil] at hbind
  obtain ⟨S', eden⟩ := hden
  have hsp : spG K C ps.length den [.ref a] H (fun v _ => v = .bl true) (fun _ _ _ => False) := by
    refine ⟨by simp [h4], ⟨[], []⟩, [], [.fz (ns.map Dv.int)], ⟨rfl, List.nodup_nil, fun x hx => (by simp at hx), fun x hx => (by simp at hx), fun n o x e _ => by simp at e⟩, VRs_cons.mpr ⟨.ref a, [], rfl, VR_fz.mpr ⟨a, _, rfl, hS, VRs.ints.mpr rfl⟩, VRs_nil.mpr rfl⟩, ?_⟩
    rw [eden]
    exact fun μ' H' v _ _ z => VR_bl.mp z
  refine codeAny_mono (F.run callerA [] s1 H ⟨[.ref a], []⟩ [.ref a] [.ref a] _ _ hr rfl e0 hbind (.cons rfl .nil) hsp) fun r s' h => ?_
  match r, h with
  | .error e, h => obtain ⟨_, _, _, _, _, _, _, _, _, _, _, _, z⟩ := h; exact z.elim
  | .ok .next, h => exact False.elim h
  | .ok .brk, h => exact False.elim h
  | .ok .cont, h => exact False.elim h
  | .ok (.ret u), h =>
    obtain ⟨v, H', os, bare, un, hok', r', q⟩ := h
    cases (show v = .bl true from q)
    cases (show u = Value.bool true from r')
    refine ⟨rfl, OldK.of_keep fun b o e => ?_, os, bare⟩
    rcases only b with z | ⟨ob, xs, z⟩
    · exact un.keep b o e z (by simp [frs]) (by simp)
    · have z2 := un.frzs b ob _ z
      have g1 := (hok b _ z).1
      have g2 := (hok' b _ z2).1
      rw [e] at g1
      cases g1
      exact g2
theorem law_code {fa a : Addr} {s1 : Shared} {vs : List Value} {ns : List Int} (inK : K.In s1.heap) (hns : s1.heap.Ns mainGlobals mg) (hb : s1.heap.Ns builtinsNs mb) (hbb : ∀ x : Str, x ≠ "__name__" → mb x = bootBuiltins x) (hlim : s1.heap.NoLimit) (hgen : s1.gens = #[])
    (ha : s1.heap.get? a = some { cls := .type "list", data := .seq vs.toArray }) (hi : PyProof.Rows.IntsAre vs ns) (hl : ns.length ≤ sizeLine) (hr : Room k callerA)
    (hD : ∀ base : Heap, K.In base → base.Ns mainGlobals mg → Df P w K mg base C "law" 1 k den) (hfa : mg "law" = some (.ref fa)) (hden : ∃ S', den [.fz (ns.map Dv.int)] [] = .ok (.bl true) S') :
    codeAny (model P w) callerA (.call (.ref fa) ⟨[.ref a], []⟩) (fun r s' => r = .ok (.ret (.bool true)) ∧ OldK s1.heap s'.heap ∧ s'.os = s1.os ∧ PyProof.Rows.AllBare s'.gens) s1 := by
  have rv := vals_ints hi
  -- the written part is seen where nothing but a may be hidden
  have modOf : ∀ H : Hp, (∀ b, H b ≠ none → b = a) → (H a ≠ none → K.lookup a = none) → Mod K mg (hidT s1.heap H) := fun H hA hK => by
    have dict_free : ∀ {b : Addr} {o : Obj} {es : Array DictEntry} {ep : Nat}, s1.heap.get? b = some o → o.data = .dict es ep → H b = none := fun {b o es ep} e d => by
      by_cases hn : H b = none
      · exact hn
      · have eb := hA b hn
        subst eb
        rw [ha] at e
        cases e
        cases d
    have ns_at : ∀ {b : Addr} {m : Str → Option Value}, s1.heap.Ns b m → (hidT s1.heap H).Ns b m := fun {b m} z => by
      obtain ⟨o, es, ep, e, d, r⟩ := z
      exact ⟨o, es, ep, hidT_get e (dict_free e d), d, r⟩
    refine ⟨fun b o e => hidT_get (inK b o e) ?_, ns_at hns, ⟨mb, ns_at hb, hbb⟩, ?_⟩
    · by_cases hn : H b = none
      · exact hn
      · have eb := hA b hn
        subst eb
        rw [hK hn] at e
        cases e
    · obtain ⟨mc, g1, g2⟩ := hlim
      exact ⟨mc, ns_at g1, g2⟩
  cases hk : K.lookup a with
  | some o =>
    have e := inK a o hk
    rw [ha] at e
    cases e
    have M := modOf (fun _ => none) (fun b z => absurd rfl z) fun z => absurd rfl z
    refine law_at (H := fun _ => none) (vs := vs) hD hfa hr M.kin M (fun b u z => by cases z) hgen (.inr (.inl (.inr ⟨_, vs.toArray, _, hk, rfl, rfl, rfl, ?_, by simpa using rv⟩))) hden fun _ => .inl rfl
    have := hi.length
    rw [List.size_toArray]
    omega
  | none =>
    let H : Hp := fun b => if b = a then some (.frz { cls := .type "list", data := .seq vs.toArray } (.lst (ns.map V.int))) else none
    have hH : ∀ b, b ≠ a → H b = none := fun b hb => if_neg hb
    have hHa : H a = some (.frz { cls := .type "list", data := .seq vs.toArray } (.lst (ns.map V.int))) := if_pos rfl
    have M := modOf H (fun b z => by
      by_cases hb : b = a
      · exact hb
      · exact absurd (hH b hb) z) fun _ => hk
    refine law_at (H := H) (vs := vs) hD hfa hr M.kin M (fun b u z => ?_) hgen (.inl ⟨_, hHa⟩) hden fun b => ?_
    · by_cases hb : b = a
      · subst hb
        rw [hHa] at z
        cases z
        exact ⟨ha, by rw [List.length_map]; exact hl, vs, _, rv, ha⟩
      · rw [hH b hb] at z
        cases z
    · by_cases hb : b = a
      · subst hb
        exact .inr ⟨_, _, hHa⟩
      · exact .inl (hH b hb)
end
/-- what k_head leaves, from the law's denotation -/
theorem walk_den {l : PySem.W.OpenLaw} {q : Program} {loose : List Str} {XP : (Str → Option Value) → Heap → Prop} {YP : World → Heap → Prop} {d : DefRec} {K : Params → PySem.W.Frag} {k : Nat} {den : Den}
    (hn : l.most = some 63) (hdf : d.params.defaults = []) (hname : d.name = "law") (hr : Room k callerA) (hY : ∀ (w : World) (h : Heap), YP w h → (K w.params).In h)
    (F : ∀ (w : World) (mg : Str → Option Value) (h : Heap), (K w.params).In h → h.Ns mainGlobals mg → ∃ C, ∀ base : Heap, (K w.params).In base → base.Ns mainGlobals mg → Df l.prog w (K w.params) mg base C "law" 1 k den)
    (hden : Says den) : PySem.W.WalkO q loose XP YP l.row.toRowW d [] (fun f vs => PySem.call f vs) := by
  refine Att.attach_callB hn hdf fun w s0 s1 mg mb fa o pm cd doc a vs ns G Y ho hd hcd hmg hobj hints hlen hbits hg => ?_
  have inK := hY w _ Y
  obtain ⟨C, hD⟩ := F w mg _ inK G.T.g
  rw [hname] at hmg
  exact law_code inK G.T.g G.T.b G.T.builtins G.T.nolimit hg hobj hints (Nat.le_trans hlen (by decide)) hr hD hmg (hden ns hlen fun n hn => Nat.le_trans (log2_bits n) (hbits n hn))
end Fc

set_option exponentiation.threshold 256
set_option maxHeartbeats 4000000
set_option maxHeartbeats 4000000
/-! FcKit: small words for the printed derivations. -/
namespace Fc
open PySem L2
section
variable {X : Cx} {C : Nat → Addr} {W : WX} {k : Nat}
theorem Ctx.blk (c : Ctx X W k) {s : Shared} {H : Hp} {scope : Scope} {cenv : Env} {fp : List Addr} : Ctx (X.blk s H scope cenv fp) W0 k := ⟨c.calm, c.room, c.gd, takes0, PassesOwn.never, c.nd⟩
theorem Ctx.h64 (c : Ctx X W k) : X.A.units + 64 < cLine := by have := c.room.un; omega
theorem Ctx.h65 (c : Ctx X W k) : X.A.units + 65 < cLine := by have := c.room.un; omega
theorem Ctx.h100 (c : Ctx X W k) : X.A.units + 100 < cLine := by have := c.room.un; omega
def opIadd : Op2 := opInt2 fun i j => i + j
where opInt2 (p : Int → Int → Int) : Op2 := fun x y S => match x, y with
  | .int i, .int j => some (.int (p i j), S)
  | _, _ => none
theorem ips_add : IpS X C .Add opIadd := by
  intro pins s σ H x y v u Q I rx ry h
  obtain ⟨μ, S, dx, dy, sr, vx, vy, q⟩ := h
  cases dx with
  | int i =>
    cases dy with
    | int j =>
      cases VR_int.mp vx
      cases VR_int.mp vy
      exact ip_add pins s σ H _ _ v u Q I rx ry ⟨i, j, rfl, rfl, old_val sr (VR_int.mpr rfl) q⟩
    | _ => exact q.elim
  | _ => exact q.elim
end
/-- a module's int; a module's tuple -/
theorem gc_int {K : PySem.W.Frag} {mg : Str → Option Value} {x : Str} {i : Int} {t : Tok} (h : mg x = some (.int i t)) : GC K mg x (.int i) := ⟨_, .int i, h, ⟨t, rfl⟩, fun _ _ => VR_int.mpr rfl⟩
theorem gc_str {K : PySem.W.Frag} {mg : Str → Option Value} {x y : Str} {t : Tok} (h : mg x = some (.str y t)) : GC K mg x (.str y) := ⟨_, .str y, h, ⟨t, rfl⟩, fun _ _ => VR_str.mpr rfl⟩
theorem gc_fr {K : PySem.W.Frag} {mg : Str → Option Value} {x : Str} {a : Addr} {i j : Int} {t u : Tok} {dd : Option Addr} {n : Nat} {sl : Array (Option Value)} (h : mg x = some (.ref a)) (hl : K.lookup a = some ⟨.type "tuple", dd, .seq #[.int i t, .int j u] n, sl⟩) :
    GC K mg x (.tup [.int i, .int j]) :=
  ⟨_, .ref a, h, rfl, fun H μ => VR_tup.mpr ⟨a, [.int i, .int j], rfl, .inr ⟨_, _, n, hl, rfl, rfl, by simp [sizeLine_eq], .cons ⟨t, rfl⟩ (.cons ⟨u, rfl⟩ .nil)⟩, VRs.ints (ns := [i, j]) |>.mpr rfl⟩⟩
/-- an own class of errors -/
structure XC (K : PySem.W.Frag) (mg : Str → Option Value) (x : Str) (a : Addr) : Prop where
  g : mg x = some (.ref a)
  k : PySem.W.keepIn K (.ref a) = true
  b : PySem.W.subIn K (.ref a) (.type "BaseException") = some true
  t : PySem.W.typeIn K (.ref a) = some (.type "type")
  q : PySem.W.excIn K a [.type "ValueError", .type "Exception", .type "BaseException", .type "object"] "ValueError.__new__" = true
theorem ss_raiseX {X : Cx} {C : Nat → Addr} {W : WX} {k n : Nat} {x m : Str} {jj : Nat} {pos pos' p2 pos3 : Pos} (c : Ctx X W k) (F : XC X.K X.mg x (C n)) (hg : Gl X x := by rfl) (hdb : (x == ("__debug__" : Str)) = false := by decide) :
    SS X C W (.Raise (some (.Call (.Name x pos') [.Constant (.str m) jj p2] [] pos)) none pos3) (cRaise n) :=
  ss_raise c PySem.F.excBase_ValueError F.q F.g F.k (raises_own F.b F.t) hg hdb
theorem fact_mk {K : PySem.W.Frag} {h : Heap} {mg : Str → Option Value} {x : Str} {st : Stmt} {f : Addr} {oc kV doc pm cdv ct : Value} {od an : Option Addr} {osl : Array (Option Value)} (Xh : K.In h) (G : h.Ns mainGlobals mg) (a : PySem.W.nsIn K mainGlobals x = some (some (.ref f)))
    (l : K.lookup f = some ⟨oc, od, .func (PySem.W.fnOf x x (defArgs st) (defBody st) (defScope st) .none kV doc pm an cdv ct), osl⟩) (c : PySem.W.codeIn K cdv x = true) (k : PySem.W.keepIn K (.ref f) = true) : Fact K mg x st :=
  ⟨f, _, PySem.W.mg_of Xh G a, fun_mk l c k⟩
end Fc

set_option exponentiation.threshold 256
set_option maxHeartbeats 4000000
set_option maxHeartbeats 4000000
/-! FcZip: zip of two sequences, each a list or a tuple. -/
namespace Fc
open PySem L2 RZ PySem.Spec PyProof.Rows
def ZSq (p : Bool) (h : Heap) (l : Addr) (xs : Array Value) : Prop := if p then h.IsTuple l xs else h.IsList l xs
def ZIt (p : Bool) (h : Heap) (a l : Addr) (i : Nat) : Prop := if p then h.IsTupleIter a l i else h.IsListIter a l i
theorem ZSq.extBut {p : Bool} {h h' : Heap} {a b xs} (x : ZSq p h a xs) (hs : Heap.ExtBut b h h') (hab : a ≠ b) : ZSq p h' a xs := by
  cases p
  · exact Heap.IsList.extBut x hs hab
  · exact Heap.IsTuple.extBut x hs hab
theorem ZIt.extBut {p : Bool} {h h' : Heap} {a b t i} (x : ZIt p h a t i) (hs : Heap.ExtBut b h h') (hab : a ≠ b) : ZIt p h' a t i := by
  cases p
  · exact Heap.IsListIter.extBut x hs hab
  · exact Heap.IsTupleIter.extBut x hs hab
theorem ZIt.at {p : Bool} {h h' : Heap} {a t i} (x : ZIt p h a t i) (e : ∀ o, h.get? a = some o → h'.get? a = some o) : ZIt p h' a t i := by
  cases p
  · exact Heap.IsListIter.at x e
  · exact Heap.IsTupleIter.at x e
theorem ZIt.obj {p : Bool} {h : Heap} {a t i} (x : ZIt p h a t i) : ∃ o, h.get? a = some o ∧ o.data = .fields #[.ref t, .int i 0] := by
  cases p
  · obtain ⟨o, e, _, d⟩ := x; exact ⟨o, e, d⟩
  · obtain ⟨o, e, _, d⟩ := x; exact ⟨o, e, d⟩
theorem ZIt.lt {p : Bool} {h : Heap} {a t i} (x : ZIt p h a t i) : a < h.objs.size := by
  obtain ⟨o, e, _⟩ := x.obj
  exact Heap.lt_size e
section
variable {prog : Program} {w : World} {A : Around} {E : Value → Shared → Prop} {s : Shared} {p q : Bool}
theorem zit_item {it l : Addr} {i : Nat} {items} {x : Value} {Q : Value → Shared → Prop} (hit : ZIt p s.heap it l i)
    (hl : ZSq p s.heap l items) (hx : items[i]? = some x) (hQ : ∀ h', ZIt p h' it l (i + 1) → Heap.SameBut it s.heap h' → Q x { s with heap := h' }) :
    wpAny (model prog w) A (Builtin.SmallTypes.nextOf (.ref it)) Q E s := by
  cases p
  · exact wpAny_nextOf_list_item hit hl hx hQ
  · exact nextOf_tuple_item hit hl hx hQ
theorem zit_end {it l : Addr} {i : Nat} {items} {Q : Value → Shared → Prop} (hh : A.handled = none) (hit : ZIt p s.heap it l i) (hl : ZSq p s.heap l items) (hx : items[i]? = none)
    (hE : ∀ h' e, Heap.ExtBut it s.heap h' → (∃ o, h'.get? e = some o ∧ o.cls = .type "StopIteration") → E (.ref e) { s with heap := h' }) : wpAny (model prog w) A (Builtin.SmallTypes.nextOf (.ref it)) Q E s := by
  cases p
  · exact wpAny_nextOf_list_end hh hit hl hx hE
  · exact nextOf_tuple_end hh hit hl hx hE
theorem zm_next_item {zz ti to j1 j2 m1 m2 : Addr} {n1 n2 : Nat} {us ws : Array Value} {x y a b : Value} {Q : Value → Shared → Prop} (dd : ZipApart zz ti to j1 j2 m1 m2)
    (gz : IsZip s.heap zz ti to .none) (gti : IsPair s.heap ti (.ref j1) (.ref j2)) (gto : IsPair s.heap to a b)
    (g1 : ZIt p s.heap j1 m1 n1) (g2 : ZIt q s.heap j2 m2 n2) (gl1 : ZSq p s.heap m1 us) (gl2 : ZSq q s.heap m2 ws) (gx : us[n1]? = some x) (gy : ws[n2]? = some y)
    (gQ : ∀ h', IsZip h' zz ti to (rawInt s.heap.objs.size) → IsPair h' to x y → ZIt p h' j1 m1 (n1 + 1) → ZIt q h' j2 m2 (n2 + 1) → IsPair h' s.heap.objs.size x y → h'.objs.size = s.heap.objs.size + 1 →
      (∀ c o, c ≠ zz → c ≠ to → c ≠ j1 → c ≠ j2 → s.heap.get? c = some o → h'.get? c = some o) → Q (.ref s.heap.objs.size) { s with heap := h' }) :
    wpAny (model prog w) A (Builtin.«zip.__next__» ⟨[.ref zz], []⟩) (fun fin s' => ∃ v, fin = .done (.ret v) ∧ Q v s') E s := by
  show wpAny _ _ (field (.ref zz) 2 >>= _) _ _ _
  refine wpAny_bind (wpAny_field gz rfl (x := .bool false) rfl ?_)
  show wpAny _ _ (field (.ref zz) 3 >>= _) _ _ _
  refine wpAny_bind (wpAny_field gz rfl (x := .ref ti) rfl ?_)
  refine wpAny_bind (wpAny_seqItems gti rfl ?_)
  show wpAny _ _ (Builtin.SmallTypes.ownedTupleIsFree (.ref zz) >>= _) _ _ _
  refine wpAny_bind ?_
  unfold Builtin.SmallTypes.ownedTupleIsFree
  refine wpAny_bind (wpAny_field gz rfl (x := .none) rfl (wpAny_pure ?_))
  simp only [if_true]
  refine wpAny_bind (wpAny_rule ?_)
  refine wpAny_bind (wpAny_field gz rfl (x := .ref to) rfl ?_)
  refine wpAny_bind (wpAny_setField_rec gz (by simp) fun h₁ gz₁ hs₁ => ?_)
  replace gz₁ : IsZip h₁ zz ti to .ellipsis := gz₁
  refine wpAny_bind ?_
  simp only [List.zipIdx_cons, List.zipIdx_nil, List.forIn_cons, List.forIn_nil]

  refine wpAny_bind (wpAny_bind (wpAny_onRaise ?_))
  show wpAny _ _ (Builtin.SmallTypes.nextOf (.ref j1) >>= _) _ _ _
  refine wpAny_bind (zit_item (g1.extBut hs₁.extBut dd.i1z) (gl1.extBut hs₁.extBut dd.l1z) gx fun h₂ g1₂ hs₂ => wpAny_pure ?_)
  have gto₂ : IsPair h₂ to a b := hs₂.extBut _ _ dd.TOi1 (hs₁.extBut _ _ dd.TOz gto)
  refine wpAny_bind (wpAny_seqItems gto₂ rfl ?_)
  refine wpAny_bind (wpAny_updateSeq_pair gto₂ fun h₃ gto₃ hs₃ => ?_)
  replace gto₃ : IsPair h₃ to x b := gto₃
  refine wpAny_bind (wpAny_letGo (wpAny_pure ?_))

  refine wpAny_bind (wpAny_bind (wpAny_onRaise ?_))
  show wpAny _ _ (Builtin.SmallTypes.nextOf (.ref j2) >>= _) _ _ _
  refine wpAny_bind (zit_item (((g2.extBut hs₁.extBut dd.i2z).extBut hs₂.extBut dd.i12.symm).extBut hs₃.extBut dd.TOi2.symm)
    (((gl2.extBut hs₁.extBut dd.l2z).extBut hs₂.extBut dd.l2i1).extBut hs₃.extBut dd.l2TO) gy fun h₄ g2₄ hs₄ => wpAny_pure ?_)
  have gto₄ : IsPair h₄ to x b := hs₄.extBut _ _ dd.TOi2 gto₃
  refine wpAny_bind (wpAny_seqItems gto₄ rfl ?_)
  refine wpAny_bind (wpAny_updateSeq_pair gto₄ fun h₅ gto₅ hs₅ => ?_)
  replace gto₅ : IsPair h₅ to x y := gto₅
  refine wpAny_bind (wpAny_letGo (wpAny_pure (wpAny_pure ?_)))

  refine wpAny_bind (wpAny_seqItems gto₅ rfl ?_)
  refine wpAny_bind (wpAny_newTuple ?_)
  have hsz : h₅.objs.size = s.heap.objs.size := by rw [hs₅.1, hs₄.1, hs₃.1, hs₂.1, hs₁.1]
  have gz₅ : IsZip h₅ zz ti to .ellipsis := hs₅.extBut _ _ dd.TOz.symm (hs₄.extBut _ _ dd.i2z.symm (hs₃.extBut _ _ dd.TOz.symm (hs₂.extBut _ _ dd.i1z.symm gz₁)))
  have hk₅ : ∀ c o, c ≠ zz → c ≠ to → c ≠ j1 → c ≠ j2 → s.heap.get? c = some o → h₅.get? c = some o := fun c o c1 c2 c3 c4 e =>
    hs₅.extBut _ _ c2 (hs₄.extBut _ _ c4 (hs₃.extBut _ _ c2 (hs₂.extBut _ _ c3 (hs₁.extBut _ _ c1 e))))
  have g1₅ : ZIt p h₅ j1 m1 (n1 + 1) := ((g1₂.extBut hs₃.extBut dd.TOi1.symm).extBut hs₄.extBut dd.i12).extBut hs₅.extBut dd.TOi1.symm
  have g2₅ : ZIt q h₅ j2 m2 (n2 + 1) := g2₄.extBut hs₅.extBut dd.TOi2.symm
  have hzlt : zz < h₅.objs.size := Heap.lt_size gz₅
  have hTOlt : to < h₅.objs.size := Heap.lt_size gto₅
  have hi1lt : j1 < h₅.objs.size := by exact g1₅.lt
  have hi2lt : j2 < h₅.objs.size := by exact g2₅.lt
  show wpAny _ _ (Builtin.SmallTypes.ownedTupleHandOut (.ref zz) (.ref h₅.objs.size) >>= _) _ _ _
  refine wpAny_bind ?_
  unfold Builtin.SmallTypes.ownedTupleHandOut
  have gz₆ : IsZip (h₅.push { cls := .type "tuple", data := .seq #[x, y] }) zz ti to .ellipsis := Heap.get?_push_of_some _ gz₅
  refine wpAny_bind (wpAny_setField_rec gz₆ (by simp) fun h₇ gz₇ hs₇ => ?_)
  replace gz₇ : IsZip h₇ zz ti to (rawInt h₅.objs.size) := gz₇
  refine wpAny_setField_rec gz₇ (by simp) fun h₈ gz₈ hs₈ => ?_
  replace gz₈ : IsZip h₈ zz ti to (rawInt h₅.objs.size) := gz₈
  have up : ∀ c o, c ≠ zz → h₅.get? c = some o → h₈.get? c = some o := fun c o c1 e => hs₈.extBut _ _ c1 (hs₇.extBut _ _ c1 (Heap.get?_push_of_some _ e))
  have hT₈ : IsPair h₈ h₅.objs.size x y := hs₈.extBut _ _ (Nat.ne_of_gt hzlt) (hs₇.extBut _ _ (Nat.ne_of_gt hzlt) (Heap.get?_push_size _ rfl))
  have hz8 : h₈.objs.size = h₅.objs.size + 1 := by rw [hs₈.1, hs₇.1, Heap.size_push]
  rw [hsz] at gz₈ hT₈ hz8
  refine wpAny_pure ⟨_, rfl, ?_⟩
  show Q (.ref h₅.objs.size) _
  rw [hsz]
  exact gQ h₈ gz₈ (up _ _ dd.TOz gto₅) (g1₅.at fun o e => up _ o dd.i1z e) (g2₅.at fun o e => up _ o dd.i2z e) hT₈ hz8 fun c o c1 c2 c3 c4 e => up c o c1 (hk₅ c o c1 c2 c3 c4 e)

theorem zm_next_end {zz ti to j1 j2 m1 m2 : Addr} {n1 n2 : Nat} {us ws : Array Value} {a b : Value} {Q : Fin → Shared → Prop} (gh : A.handled = none) (dd : ZipApart zz ti to j1 j2 m1 m2)
    (gz : IsZip s.heap zz ti to .none) (gti : IsPair s.heap ti (.ref j1) (.ref j2)) (gto : IsPair s.heap to a b)
    (g1 : ZIt p s.heap j1 m1 n1) (g2 : ZIt q s.heap j2 m2 n2) (gl1 : ZSq p s.heap m1 us) (gl2 : ZSq q s.heap m2 ws) (gend : us[n1]? = none ∨ ws[n2]? = none)
    (gE : ∀ h' e, (∀ c o, c ≠ zz → c ≠ to → c ≠ j1 → c ≠ j2 → s.heap.get? c = some o → h'.get? c = some o) → (∃ o, h'.get? e = some o ∧ o.cls = .type "StopIteration") → E (.ref e) { s with heap := h' }) :
    wpAny (model prog w) A (Builtin.«zip.__next__» ⟨[.ref zz], []⟩) Q E s := by
  show wpAny _ _ (field (.ref zz) 2 >>= _) _ _ _
  refine wpAny_bind (wpAny_field gz rfl (x := .bool false) rfl ?_)
  show wpAny _ _ (field (.ref zz) 3 >>= _) _ _ _
  refine wpAny_bind (wpAny_field gz rfl (x := .ref ti) rfl ?_)
  refine wpAny_bind (wpAny_seqItems gti rfl ?_)
  show wpAny _ _ (Builtin.SmallTypes.ownedTupleIsFree (.ref zz) >>= _) _ _ _
  refine wpAny_bind ?_
  unfold Builtin.SmallTypes.ownedTupleIsFree
  refine wpAny_bind (wpAny_field gz rfl (x := .none) rfl (wpAny_pure ?_))
  simp only [if_true]
  refine wpAny_bind (wpAny_rule ?_)
  refine wpAny_bind (wpAny_field gz rfl (x := .ref to) rfl ?_)
  refine wpAny_bind (wpAny_setField_rec gz (by simp) fun h₁ gz₁ hs₁ => ?_)
  replace gz₁ : IsZip h₁ zz ti to .ellipsis := gz₁
  refine wpAny_bind ?_
  simp only [List.zipIdx_cons, List.zipIdx_nil, List.forIn_cons, List.forIn_nil]
  refine wpAny_bind (wpAny_bind (wpAny_onRaise ?_))
  show wpAny _ _ (Builtin.SmallTypes.nextOf (.ref j1) >>= _) _ _ _
  cases gx : us[n1]? with
  | none =>
    refine wpAny_bind (zit_end gh (g1.extBut hs₁.extBut dd.i1z) (gl1.extBut hs₁.extBut dd.l1z) gx fun h₂ e hs₂ he => ?_)
    obtain ⟨oe, hoe, hce⟩ := he
    have gz₂ : IsZip h₂ zz ti to .ellipsis := hs₂ _ _ dd.i1z.symm gz₁
    have hez : e ≠ zz := fun x => by subst x; rw [gz₂] at hoe; cases hoe; simp at hce
    refine wpAny_setField_rec gz₂ (by simp) fun h₃ _ hs₃ => gE h₃ e (fun c o c1 _ c3 _ x => hs₃.extBut _ _ c1 (hs₂ _ _ c3 (hs₁.extBut _ _ c1 x))) ⟨oe, hs₃.extBut _ _ hez hoe, hce⟩
  | some x =>
    have gy : ws[n2]? = none := by rcases gend with h | h; rw [gx] at h; cases h; exact h
    refine wpAny_bind (zit_item (g1.extBut hs₁.extBut dd.i1z) (gl1.extBut hs₁.extBut dd.l1z) gx fun h₂ g1₂ hs₂ => wpAny_pure ?_)
    have gto₂ : IsPair h₂ to a b := hs₂.extBut _ _ dd.TOi1 (hs₁.extBut _ _ dd.TOz gto)
    refine wpAny_bind (wpAny_seqItems gto₂ rfl ?_)
    refine wpAny_bind (wpAny_updateSeq_pair gto₂ fun h₃ gto₃ hs₃ => ?_)
    refine wpAny_bind (wpAny_letGo (wpAny_pure ?_))
    refine wpAny_bind (wpAny_bind (wpAny_onRaise ?_))
    show wpAny _ _ (Builtin.SmallTypes.nextOf (.ref j2) >>= _) _ _ _
    refine wpAny_bind (zit_end gh (((g2.extBut hs₁.extBut dd.i2z).extBut hs₂.extBut dd.i12.symm).extBut hs₃.extBut dd.TOi2.symm)
      (((gl2.extBut hs₁.extBut dd.l2z).extBut hs₂.extBut dd.l2i1).extBut hs₃.extBut dd.l2TO) gy fun h₄ e hs₄ he => ?_)
    obtain ⟨oe, hoe, hce⟩ := he
    have gz₄ : IsZip h₄ zz ti to .ellipsis := hs₄ _ _ dd.i2z.symm (hs₃.extBut _ _ dd.TOz.symm (hs₂.extBut _ _ dd.i1z.symm gz₁))
    have hez : e ≠ zz := fun x => by subst x; rw [gz₄] at hoe; cases hoe; simp at hce
    refine wpAny_setField_rec gz₄ (by simp) fun h₅ _ hs₅ => gE h₅ e (fun c o c1 c2 c3 c4 x => hs₅.extBut _ _ c1 (hs₄ _ _ c4 (hs₃.extBut _ _ c2 (hs₂.extBut _ _ c3 (hs₁.extBut _ _ c1 x))))) ⟨oe, hs₅.extBut _ _ hez hoe, hce⟩

theorem zm_py_item {zz ti to j1 j2 m1 m2 : Addr} {n1 n2 : Nat} {us ws : Array Value} {x y a b : Value} {Q : Option Value → Shared → Prop} (dd : ZipApart zz ti to j1 j2 m1 m2)
    (gz : IsZip s.heap zz ti to .none) (gti : IsPair s.heap ti (.ref j1) (.ref j2)) (gto : IsPair s.heap to a b)
    (g1 : ZIt p s.heap j1 m1 n1) (g2 : ZIt q s.heap j2 m2 n2) (gl1 : ZSq p s.heap m1 us) (gl2 : ZSq q s.heap m2 ws) (gx : us[n1]? = some x) (gy : ws[n2]? = some y)
    (gQ : ∀ h', IsZip h' zz ti to (rawInt s.heap.objs.size) → IsPair h' to x y → ZIt p h' j1 m1 (n1 + 1) → ZIt q h' j2 m2 (n2 + 1) → IsPair h' s.heap.objs.size x y → h'.objs.size = s.heap.objs.size + 1 →
      (∀ c o, c ≠ zz → c ≠ to → c ≠ j1 → c ≠ j2 → s.heap.get? c = some o → h'.get? c = some o) → Q (some (.ref s.heap.objs.size)) { s with heap := h' }) :
    wpAny (model prog w) A (pyNext (.ref zz)) Q E s := by
  have hT : s.TypeIs (.ref zz) "zip" := ⟨_, gz, rfl⟩
  unfold pyNext
  exact wpAny_bind (wpAny_attempt (wpAny_callSpecial?_slot (name := Str.ofString "__next__") hT F.slot_zip_next
    (wpAny_call_entry F.slot_zip_next hT F.entry_zip_next
      (zm_next_item dd gz gti gto g1 g2 gl1 gl2 gx gy fun h' a1 a2 a3 a4 a5 a6 a7 => wpAny_pure (gQ h' a1 a2 a3 a4 a5 a6 a7)) (F.args_zip_next_1 _))))

theorem zm_py_end {zz ti to j1 j2 m1 m2 : Addr} {n1 n2 : Nat} {us ws : Array Value} {a b : Value} {Q : Option Value → Shared → Prop} (gh : A.handled = none) (dd : ZipApart zz ti to j1 j2 m1 m2)
    (gz : IsZip s.heap zz ti to .none) (gti : IsPair s.heap ti (.ref j1) (.ref j2)) (gto : IsPair s.heap to a b)
    (g1 : ZIt p s.heap j1 m1 n1) (g2 : ZIt q s.heap j2 m2 n2) (gl1 : ZSq p s.heap m1 us) (gl2 : ZSq q s.heap m2 ws) (gend : us[n1]? = none ∨ ws[n2]? = none)
    (gQ : ∀ h', (∀ c o, c ≠ zz → c ≠ to → c ≠ j1 → c ≠ j2 → s.heap.get? c = some o → h'.get? c = some o) → Q none { s with heap := h' }) : wpAny (model prog w) A (pyNext (.ref zz)) Q E s := by
  have hT : s.TypeIs (.ref zz) "zip" := ⟨_, gz, rfl⟩
  unfold pyNext
  refine wpAny_bind (wpAny_attempt (wpAny_callSpecial?_slot (name := Str.ofString "__next__") hT F.slot_zip_next
    (wpAny_call_entry F.slot_zip_next hT F.entry_zip_next (zm_next_end gh dd gz gti gto g1 g2 gl1 gl2 gend fun h' e hk he => ?_) (F.args_zip_next_1 _))))
  obtain ⟨o, ho, hc⟩ := he
  refine wpAny_bind (wpAny_isInstance (T := "StopIteration") (b := true) ⟨o, ho, hc⟩ isSubtype_stop ?_)
  exact wpAny_pure (gQ _ hk)
def icls (p : Bool) : String := if p then "tuple_iterator" else "list_iterator"
abbrev zmA (p : Bool) (h : Heap) (a : Addr) : Heap := h.push { cls := .type (icls p), data := .fields #[.ref a, .int 0 0] }
abbrev zmB (p q : Bool) (h : Heap) (a b : Addr) : Heap := (zmA p h a).push { cls := .type (icls q), data := .fields #[.ref b, .int 0 0] }
abbrev zmC (p q : Bool) (h : Heap) (a b : Addr) : Heap := (zmB p q h a b).push { cls := .type "tuple", data := .seq #[.ref h.objs.size, .ref (zmA p h a).objs.size] }
abbrev zmD (p q : Bool) (h : Heap) (a b : Addr) : Heap := (zmC p q h a b).push { cls := .type "tuple", data := .seq #[.none, .none] }
abbrev zmE (p q : Bool) (h : Heap) (a b : Addr) : Heap := (zmD p q h a b).push { cls := .type "zip", data := .fields #[.none, .bool false, .bool false, .ref (zmB p q h a b).objs.size, .ref (zmC p q h a b).objs.size] }
theorem meets_lt (a b : Addr) (us ws : Array Value) : Meets (Builtin.«zip.__new__» ⟨[.type "zip", .ref a, .ref b], []⟩) (fun _ R s => ZSq false s.heap a us ∧ ZSq true s.heap b ws ∧
      R (.ok (.ret (.ref (zmD false true s.heap a b).objs.size))) { s with heap := zmE false true s.heap a b }) :=
  .of_wp fun prog w A R s h => by
    obtain ⟨hp, g, d, tk, os⟩ := s
    obtain ⟨ha, hb, h⟩ := h
    have hsub := sub_zip
    have la : Heap.IsList (Shared.heap ⟨hp, g, d, tk, os⟩) a us := ha
    have lb : Heap.IsTuple (Shared.heap ⟨hp.push { cls := .type "list_iterator", data := .fields #[.ref a, .int 0 0] }, g, d, tk, os⟩) b ws := Heap.IsTuple.push hb _
    wp_walk using wpAny_pyIter_list la, wpAny_pyIter_tuple lb
    exact ⟨_, rfl, h⟩
theorem meets_tl (a b : Addr) (us ws : Array Value) : Meets (Builtin.«zip.__new__» ⟨[.type "zip", .ref a, .ref b], []⟩) (fun _ R s => ZSq true s.heap a us ∧ ZSq false s.heap b ws ∧
      R (.ok (.ret (.ref (zmD true false s.heap a b).objs.size))) { s with heap := zmE true false s.heap a b }) :=
  .of_wp fun prog w A R s h => by
    obtain ⟨hp, g, d, tk, os⟩ := s
    obtain ⟨ha, hb, h⟩ := h
    have hsub := sub_zip
    have la : Heap.IsTuple (Shared.heap ⟨hp, g, d, tk, os⟩) a us := ha
    have lb : Heap.IsList (Shared.heap ⟨hp.push { cls := .type "tuple_iterator", data := .fields #[.ref a, .int 0 0] }, g, d, tk, os⟩) b ws := Heap.IsList.push hb _
    wp_walk using wpAny_pyIter_tuple la, wpAny_pyIter_list lb
    exact ⟨_, rfl, h⟩
theorem meets_zm (p q : Bool) (a b : Addr) (us ws : Array Value) : Meets (Builtin.«zip.__new__» ⟨[.type "zip", .ref a, .ref b], []⟩) (fun _ R s => ZSq p s.heap a us ∧ ZSq q s.heap b ws ∧
      R (.ok (.ret (.ref (zmD p q s.heap a b).objs.size))) { s with heap := zmE p q s.heap a b }) := by
  cases p
  · cases q
    · exact meets_zip_new a b us ws
    · exact meets_lt a b us ws
  · cases q
    · exact meets_tl a b us ws
    · exact meets_zipT_new a b us ws
theorem ZIt.mk {p : Bool} {h : Heap} {a t : Addr} (e : h.get? a = some { cls := .type (icls p), data := .fields #[.ref t, .int 0 0] }) : ZIt p h a t 0 := by
  cases p
  · exact ⟨_, e, rfl, rfl⟩
  · exact ⟨_, e, rfl, rfl⟩
theorem call_zm {a b : Addr} {us ws : Array Value} {Q : Value → Shared → Prop} (ha : ZSq p s.heap a us) (hb : ZSq q s.heap b ws)
    (h : ∀ h', IsZip h' (s.heap.objs.size + 4) (s.heap.objs.size + 2) (s.heap.objs.size + 3) .none → IsPair h' (s.heap.objs.size + 2) (.ref s.heap.objs.size) (.ref (s.heap.objs.size + 1)) →
      IsPair h' (s.heap.objs.size + 3) .none .none → ZIt p h' s.heap.objs.size a 0 → ZIt q h' (s.heap.objs.size + 1) b 0 → h'.objs.size = s.heap.objs.size + 5 →
      (∀ c o, s.heap.get? c = some o → h'.get? c = some o) → Q (.ref (s.heap.objs.size + 4)) { s with heap := h' }) : wpAny (model prog w) A (call (.type "zip") [.ref a, .ref b]) Q E s := by
  refine callType_new F.called_zip (by decide) (F.typeCall_zip_2 _ _) (F.newCall_zip_2 _ _) (fun obj => F.args_object_init_3 obj _ _) F.entry_zip_new (meets_zm p q a b us ws) ⟨ha, hb, ?_⟩
  have y1 : (zmA p s.heap a).objs.size = s.heap.objs.size + 1 := Heap.size_push ..
  have y2 : (zmB p q s.heap a b).objs.size = s.heap.objs.size + 2 := by rw [Heap.size_push, y1]
  have y3 : (zmC p q s.heap a b).objs.size = s.heap.objs.size + 3 := by rw [Heap.size_push, y2]
  have y4 : (zmD p q s.heap a b).objs.size = s.heap.objs.size + 4 := by rw [Heap.size_push, y3]
  have y5 : (zmE p q s.heap a b).objs.size = s.heap.objs.size + 5 := by rw [Heap.size_push, y4]
  have k5 : (zmE p q s.heap a b).get? (zmD p q s.heap a b).objs.size = some _ := Heap.get?_push_size _ rfl
  have k4 : (zmE p q s.heap a b).get? (zmC p q s.heap a b).objs.size = some _ := Heap.get?_push_of_some _ (Heap.get?_push_size _ rfl)
  have k3 : (zmE p q s.heap a b).get? (zmB p q s.heap a b).objs.size = some _ := Heap.get?_push_of_some _ (Heap.get?_push_of_some _ (Heap.get?_push_size _ rfl))
  have k2 : (zmE p q s.heap a b).get? (zmA p s.heap a).objs.size = some _ := Heap.get?_push_of_some _ (Heap.get?_push_of_some _ (Heap.get?_push_of_some _ (Heap.get?_push_size _ rfl)))
  have k1 : (zmE p q s.heap a b).get? s.heap.objs.size = some _ := Heap.get?_push_of_some _ (Heap.get?_push_of_some _ (Heap.get?_push_of_some _ (Heap.get?_push_of_some _ (Heap.get?_push_size _ rfl))))
  show _ ∧ _
  rw [y2, y3, y4] at k5
  rw [y1, y2] at k3
  rw [y3] at k4
  rw [y1] at k2
  rw [y4]
  exact ⟨⟨_, k5, rfl⟩, h _ k5 k3 k4 (.mk k1) (.mk k2) y5 fun c o x =>
    Heap.get?_push_of_some _ (Heap.get?_push_of_some _ (Heap.get?_push_of_some _ (Heap.get?_push_of_some _ (Heap.get?_push_of_some _ x))))⟩
end
def SqP (p : Bool) (K : PySem.W.Frag) (H : Hp) (a : Addr) (xs : List V) : Prop := if p then SqT K H a xs else SqL K H a xs
section
variable {X : Cx} {pins : List (Addr × Obj)} {σ : L2.St} {H : Hp} {s : Shared} {p : Bool} {a : Addr} {xs ys : List V}
theorem _root_.L2.Inv.sqp (I : Inv X pins σ H s) (h : SqP p X.K H a xs) : ∃ its : List Value, Vals xs its ∧ ZSq p s.heap a its.toArray ∧ xs.length ≤ sizeLine := by
  cases p
  · obtain ⟨its, r, e, z⟩ := I.list h
    exact ⟨its, r, e.isList, z⟩
  · exact I.tuple h
theorem _root_.L2.Inv.sqp_inj (I : Inv X pins σ H s) (h : SqP p X.K H a xs) (h' : SqP p X.K H a ys) : xs = ys := by
  cases p
  · exact I.list_inj h h'
  · exact I.tuple_inj h h'
theorem ZSq.lt {h : Heap} {a : Addr} {us} (x : ZSq p h a us) : a < h.objs.size := by
  cases p
  · obtain ⟨o, e, _⟩ := id x; exact Heap.lt_size e
  · obtain ⟨o, e, _⟩ := id x; exact Heap.lt_size e
end
def ItzG (pa pb : Bool) (K : PySem.W.Frag) (a b : Addr) : It :=
  ⟨fun i H => ∃ (xs ys : List V) (x y : V), SqP pa K H a xs ∧ SqP pb K H b ys ∧ xs[i]? = some x ∧ ys[i]? = some y,
    fun i H v H' => ∃ T x y, v = .ref T ∧ H T = none ∧ H' = upd H T (.tup [x, y]) ∧ (∀ xs, SqP pa K H a xs → xs[i]? = some x) ∧ ∀ ys, SqP pb K H b ys → ys[i]? = some y,
    fun i H => ∃ xs ys : List V, SqP pa K H a xs ∧ SqP pb K H b ys ∧ (xs.length ≤ i ∨ ys.length ≤ i)⟩
theorem turn_zm {pa pb : Bool} {P : Program} {w : World} {K : PySem.W.Frag} {elts : List Expr} {kk : Nat} {tpos : Pos} {a b zz ti to j1 j2 : Addr} (dd : ZipApart zz ti to j1 j2 a b) :
    Turn P w K (.Tuple elts kk tpos) (ItzG pa pb K a b) [zz, ti, to, j1, j2] zz (fun i h => IsZip h zz ti to .none ∧ IsPair h ti (.ref j1) (.ref j2) ∧ (∃ x y, IsPair h to x y) ∧ ZIt pa h j1 a i ∧ ZIt pb h j2 b i) where
  mem := by simp
  obj := fun i h st c hc => by
    obtain ⟨gz, gti, ⟨x, y, gto⟩, hh1, hh2⟩ := st
    obtain ⟨o1, e1, d1⟩ := hh1.obj
    obtain ⟨o2, e2, d2⟩ := hh2.obj
    have e' : c = zz ∨ c = ti ∨ c = to ∨ c = j1 ∨ c = j2 := by simpa using hc
    rcases e' with q | q | q | q | q
    · rw [q]; exact ⟨_, gz, fun v q => nomatch q⟩
    · rw [q]; exact ⟨_, gti, fun v q => nomatch q⟩
    · rw [q]; exact ⟨_, gto, fun v q => nomatch q⟩
    · rw [q]; exact ⟨o1, e1, fun v q => by rw [d1] at q; cases q⟩
    · rw [q]; exact ⟨o2, e2, fun v q => by rw [d2] at q; cases q⟩
  keep := fun i h h' st k => by
    obtain ⟨gz, gti, ⟨x, y, gto⟩, h1, h2⟩ := st
    exact ⟨k zz (by simp) _ gz, k ti (by simp) _ gti, ⟨x, y, k to (by simp) _ gto⟩, h1.at fun o q => k j1 (by simp) o q, h2.at fun o q => k j2 (by simp) o q⟩
  item := by
    intro X hP hw hK hc i pins s σ H E I hf st hg
    subst hP hw hK
    obtain ⟨gz, gti, ⟨x0, y0, gto⟩, h1, h2⟩ := st
    obtain ⟨xs, ys, x, y, gx, gy, hx, hy⟩ := hg
    obtain ⟨ux, rx, p, _⟩ := I.sqp gx
    obtain ⟨uy, ry, py, _⟩ := I.sqp gy
    obtain ⟨u, hu, ru⟩ := rx.get hx
    obtain ⟨u2, hu2, ru2⟩ := ry.get hy
    have hzl : zz < s.heap.objs.size := Heap.lt_size gz
    refine zm_py_item dd gz gti gto h1 h2 p py (x := u) (y := u2) (by simpa using hu) (by simpa using hu2) fun h' z' TO' h1' h2' hT hsz hk => ?_
    refine ⟨_, rfl, wpAny_letOwnedTupleGo_zip (s := { s with heap := h' }) z' fun h'' z'' sb => ?_⟩
    have hT2 : h''.get? s.heap.objs.size = some { cls := .type "tuple", data := .seq #[u, u2] } := (sb.2 _ (Nat.ne_of_gt hzl)).trans hT
    have new : ObjOk X.prog X.w (upd H s.heap.objs.size (.tup [x, y])) h'' s.heap.objs.size (.tup [x, y]) :=
      ⟨by show 2 ≤ sizeLine; decide, [u, u2], .cons ru (.cons ru2 .nil), ⟨_, hT2, rfl, _, rfl⟩⟩
    have I1 : Inv X pins σ (upd H s.heap.objs.size (.tup [x, y])) { s with heap := h'' } :=
      I.turnedNew (t' := s.toks) (ch := [zz, ti, to, j1, j2]) (fun c o hb q => (sb.2 c (fun q' => hb (by simp [q']))).trans (hk c o (fun q' => hb (by simp [q'])) (fun q' => hb (by simp [q'])) (fun q' => hb (by simp [q'])) (fun q' => hb (by simp [q'])) q)) hf (Nat.le_refl _) new
    refine ⟨.ref s.heap.objs.size, _, I1, rfl, ⟨_, x, y, rfl, I.hok.fresh (Nat.le_refl _), rfl, fun l hl => by rw [I.sqp_inj hl gx]; exact hx, fun l hl => by rw [I.sqp_inj hl gy]; exact hy⟩, ⟨z'', ?_, ⟨u, u2, ?_⟩, ?_, ?_⟩, fun c gm => ?_⟩
    · exact (sb.2 _ dd.TIz).trans (hk _ _ dd.TIz dd.TITO dd.TIi1 dd.TIi2 gti)
    · exact (sb.2 _ dd.TOz).trans TO'
    · exact h1'.at fun o q => (sb.2 _ dd.i1z).trans q
    · exact h2'.at fun o q => (sb.2 _ dd.i2z).trans q
    · have hlt : c < s.heap.objs.size := by
        have e' : c = zz ∨ c = ti ∨ c = to ∨ c = j1 ∨ c = j2 := by simpa using gm
        rcases e' with q | q | q | q | q
        · rw [q]; exact hzl
        · rw [q]; exact Heap.lt_size gti
        · rw [q]; exact Heap.lt_size gto
        · rw [q]; exact h1.lt
        · rw [q]; exact h2.lt
      rw [upd_ne (Nat.ne_of_lt hlt)]
      exact (hf c gm).1
  done := by
    intro X hP hw hK hc i pins s σ H E I hf st hg
    subst hP hw hK
    obtain ⟨gz, gti, ⟨x0, y0, gto⟩, h1, h2⟩ := st
    obtain ⟨xs, ys, gx, gy, hend⟩ := hg
    obtain ⟨ux, rx, p, _⟩ := I.sqp gx
    obtain ⟨uy, ry, py, _⟩ := I.sqp gy
    have l1 := rx.length
    have l2 := ry.length
    have he : ux.toArray[i]? = none ∨ uy.toArray[i]? = none := by
      rcases hend with q | q
      · exact .inl (by simp; omega)
      · exact .inr (by simp; omega)
    exact zm_py_end (I.ok.hd hc) dd gz gti gto h1 h2 p py he fun h' hk => ⟨rfl, I.turnedL (t' := s.toks) (ch := [zz, ti, to, j1, j2]) (fun c o hb q =>
      hk c o (fun q' => hb (by simp [q'])) (fun q' => hb (by simp [q'])) (fun q' => hb (by simp [q'])) (fun q' => hb (by simp [q'])) q) hf⟩
  self := fun A i s Q E st h => wpAny_pyIter_zip st.1 h

def iZm (K : PySem.W.Frag) (ta : TA) : TI := fun σ H R => ta σ H fun vs H1 => ∃ pa pb a b xs ys, vs = [.ref a, .ref b] ∧ SqP pa K H1 a xs ∧ SqP pb K H1 b ys ∧ R (ItzG pa pb K a b) H1
theorem pi_zm {X : Cx} {e e2 : Expr} {ta : TA} {p pos tpos : Pos} {elts : List Expr} {kk : Nat} (hg : Gl X "zip") (hm : X.mg "zip" = none) (ha : PA X [e, e2] ta)
    (hs : starEach [e, e2] X.env = (false, eval e X.env) :: starEach [e2] X.env := by rfl) (hpl : (backTo pos (starEach [e2] X.env)).any (·.1) = false := by rfl) : PI X (.Tuple elts kk tpos) (.Call (.Name "zip" p) [e, e2] [] pos) (iZm X.K ta) := by
  refine ⟨fun pins s σ H R I h => ?_⟩
  refine Call_ (ld_blt I hg hm PyProof.Rows.boot_zip (PyProof.Rows.callWith_type1 (thn (ha.run pos pins s σ H _ I h) fun us t ⟨vs, H1, I1, r1, q1⟩ => ?_) hs hpl))
  obtain ⟨pa, pb, a, b, xs, ys, rfl, gx, gy, q⟩ := q1
  cases r1 with
  | cons r rr =>
    cases rr with
    | cons r' rr =>
      cases rr
      cases r
      cases r'
      have new5 : ∀ c, c ∈ [t.heap.objs.size + 4, t.heap.objs.size + 2, t.heap.objs.size + 3, t.heap.objs.size, t.heap.objs.size + 1] → FpOk X pins H1 c := fun c gm => by
        have hle : t.heap.objs.size ≤ c := by
          simp only [List.mem_cons, List.not_mem_nil, or_false] at gm
          rcases gm with e | e | e | e | e <;> rw [e] <;> omega
        exact I1.fpOk hle (I1.hok.fresh hle)
      obtain ⟨ux, rx, px, _⟩ := I1.sqp gx
      obtain ⟨uy, ry, py, _⟩ := I1.sqp gy
      refine call_zm px py fun h' gz gti gto h1 h2 hsz hk => wpAny_pyIter_zip gz ?_
      have I2 : Inv X pins σ H1 { t with heap := h' } := I1.kept (t' := t.toks) hk
      exact ⟨t.heap.objs.size + 4, [t.heap.objs.size + 4, t.heap.objs.size + 2, t.heap.objs.size + 3, t.heap.objs.size, t.heap.objs.size + 1], _, _, H1, rfl, I2, turn_zm (PySem.W.ktu_apart t.heap.objs.size a b px.lt py.lt), ⟨gz, gti, ⟨_, _, gto⟩, h1, h2⟩, new5, q⟩
section
variable {X : Cx} {C : Nat → Addr} {W : WX} {a b : Expr} {l : DL} {p pos : Pos}
/-- zip of any two sequences -/
def iZ (l : DL) : DI := fun ρ S => (l ρ S).bd fun ds S1 => match ds with
  | [d, e] => match seqOf S1 d, seqOf S1 e with
    | some _, some _ => .ok (itZip d e) S1
    | _, _ => .stuck
  | _ => .stuck
theorem seq_sqp {K : PySem.W.Frag} {H : Hp} {μ : Mu} {S : Sto} (sr : SR K C μ S H) {d : Dv} {v : V} {ds : List Dv} (e : seqOf S d = some ds) (h : VR K H μ d v) : ∃ a vs, v = .ref a ∧ SqP (isTup d) K H a vs ∧ VRs K H μ ds vs := by
  cases d with
  | tup es =>
    cases e
    obtain ⟨a, vs, rfl, h1, h2⟩ := VR_tup.mp h
    exact ⟨a, vs, rfl, h1, h2⟩
  | fz es =>
    obtain ⟨a, vs, rfl, h1, h2⟩ := listOf_sq (d := .fz es) sr e h
    exact ⟨a, vs, rfl, h1, h2⟩
  | ref n =>
    obtain ⟨a, vs, rfl, h1, h2⟩ := listOf_sq (d := .ref n) sr e h
    exact ⟨a, vs, rfl, h1, h2⟩
  | _ => cases e
theorem jm_zm {μ : Mu} {H : Hp} {d e : Dv} {ad bd : Addr} (vd : VR X.K H μ d (.ref ad)) (ve : VR X.K H μ e (.ref bd)) : Jm X.K C μ H (itZip d e) (ItzG (isTup d) (isTup e) X.K ad bd) := by
  intro μ1 S1 H1 af sr i
  simp only [itZip]
  cases e1 : seqOf S1 d with
  | none => trivial
  | some ds =>
    cases e2 : seqOf S1 e with
    | none => trivial
    | some es =>
      obtain ⟨a', vs, q1, hq, h2⟩ := seq_sqp sr e1 (vd.weak af)
      cases q1
      obtain ⟨b', ws, q2, hq', h2'⟩ := seq_sqp sr e2 (ve.weak af)
      cases q2
      simp only
      cases e3 : ds[i]? with
      | none => exact ⟨vs, ws, hq, hq', .inl (by rw [← h2.length]; exact List.getElem?_eq_none_iff.mp e3)⟩
      | some x =>
        cases e4 : es[i]? with
        | none => exact ⟨vs, ws, hq, hq', .inr (by rw [← h2'.length]; exact List.getElem?_eq_none_iff.mp e4)⟩
        | some y =>
          obtain ⟨v, h3, h4⟩ := h2.get e3
          obtain ⟨w, h5, h6⟩ := h2'.get e4
          refine ⟨⟨vs, ws, v, w, hq, hq', h3, h5⟩, fun z H' yy => ?_⟩
          obtain ⟨T, x', y', rfl, hT, rfl, g1, g2⟩ := yy
          have g1' := g1 vs hq
          have g2' := g2 ws hq'
          rw [h3] at g1'
          rw [h5] at g2'
          cases g1'
          cases g2'
          exact new_pair sr hT h4 h6
theorem si_z {elts : List Expr} {kk : Nat} {tpos : Pos} (hm : X.mg "zip" = none) (ha : SL X C W [a, b] l) (hg : Gl X "zip" := by rfl) (hs : starEach [a, b] X.env = (false, eval a X.env) :: starEach [b] X.env := by rfl) (hpl : (backTo pos (starEach [b] X.env)).any (·.1) = false := by rfl) :
    SI X C W (.Tuple elts kk tpos) (.Call (.Name "zip" p) [a, b] [] pos) (iZ l) := by
  refine ⟨pi_imp (pi_zm hg hm ha.pa hs hpl) fun σ H R q => ?_⟩
  obtain ⟨μ, ρ, S, rl, q⟩ := q
  refine ⟨μ, ρ, S, rl, (tR.bd q).imp fun v H1 q1 => ?_⟩
  obtain ⟨μ1, S1, dl, a1, s1, vr, q1⟩ := q1
  split at q1
  · rename_i d e
    split at q1
    · rename_i ds es e1 e2
      obtain ⟨z, t, rfl, h1, h2⟩ := VRs_cons.mp vr
      obtain ⟨z2, t2, rfl, h3, h4⟩ := VRs_cons.mp h2
      cases VRs_nil.mp h4
      obtain ⟨ad, vs, rfl, hq, _⟩ := seq_sqp s1 e1 h1
      obtain ⟨bd, ws, rfl, hq2, _⟩ := seq_sqp s1 e2 h3
      exact ⟨_, _, ad, bd, vs, ws, rfl, hq, hq2, q1 μ1 H1 _ Aft.refl s1 (jm_zm h1 h3)⟩
    · exact q1.elim
  · exact q1.elim
end
end Fc

set_option exponentiation.threshold 256
set_option maxHeartbeats 4000000
set_option maxHeartbeats 4000000
/-! FcEnum: enumerate of any sequence. -/
namespace Fc
open PySem L2 RZ PySem.Spec PyProof.Rows Builtin
section
variable {prog : Program} {w : World} {A : Around} {E : Value → Shared → Prop} {s : Shared} {p : Bool}
theorem draws_z (hh : A.handled = none) (it l : Addr) (hne : l ≠ it) (items : Array Value) : Draws prog w A it [it, l] items.size (fun i v => items[i]? = some v) (fun i h => ZIt p h it l i ∧ ZSq p h l items) where
  live := fun _ _ st => by
    obtain ⟨o, e, _⟩ := st.1.obj
    exact ⟨o, e⟩
  frame := fun _ _ _ st hk => ⟨st.1.at fun o e => hk it (by simp) o e, by
    cases p
    · exact Heap.IsList.at st.2 fun o e => hk l (by simp) o e
    · obtain ⟨o, e, r⟩ := st.2
      exact ⟨o, hk l (by simp) o e, r⟩⟩
  item := fun i s Q E hi st hQ => by
    refine zit_item st.1 st.2 (x := items[i]) (by simp [hi]) fun h' hit' hs' => ?_
    exact hQ _ h' s.toks (by simp [hi]) ⟨hit', st.2.extBut hs'.extBut hne⟩ hs'
  done := fun s Q E st hE => zit_end hh st.1 st.2 (by simp) hE
theorem meets_enum (l : Addr) (us : Array Value) : Meets (Builtin.«enumerate.__new__» ⟨[.type "enumerate", .ref l], []⟩) (fun _ R s => ZSq p s.heap l us ∧
      R (.ok (.ret (.ref (zmA p s.heap l).objs.size))) { s with heap := (zmA p s.heap l).push { cls := .type "enumerate", data := .fields #[.none, .bool false, .ref s.heap.objs.size, rawInt 0, .none, .none] } }) :=
  .of_wp fun prog w A R s h => by
    obtain ⟨hp, g, d, tk, os⟩ := s
    obtain ⟨hl, h⟩ := h
    have hsub := sub_enumerate
    cases p
    · have hL : Heap.IsList (Shared.heap ⟨hp, g, d, tk, os⟩) l us := hl
      wp_walk using wpAny_pyIter_list hL
      refine wpAny_stack_any fun st => wpAny_pure ?_
      split
      · rename_i c _ _ _ _ _
        cases (c == Value.type "enumerate")
        · wp_walk using wpAny_pyIter_list hL
          exact ⟨_, rfl, h⟩
        · wp_walk using wpAny_pyIter_list hL
          exact ⟨_, rfl, h⟩
      · wp_walk using wpAny_pyIter_list hL
        exact ⟨_, rfl, h⟩
    · have hL : Heap.IsTuple (Shared.heap ⟨hp, g, d, tk, os⟩) l us := hl
      wp_walk using wpAny_pyIter_tuple hL
      refine wpAny_stack_any fun st => wpAny_pure ?_
      split
      · rename_i c _ _ _ _ _
        cases (c == Value.type "enumerate")
        · wp_walk using wpAny_pyIter_tuple hL
          exact ⟨_, rfl, h⟩
        · wp_walk using wpAny_pyIter_tuple hL
          exact ⟨_, rfl, h⟩
      · wp_walk using wpAny_pyIter_tuple hL
        exact ⟨_, rfl, h⟩
theorem call_enum {l : Addr} {us : Array Value} {Q : Value → Shared → Prop} (hL : ZSq p s.heap l us)
    (h : ∀ h', IsEnum h' (s.heap.objs.size + 1) s.heap.objs.size 0 .none → ZIt p h' s.heap.objs.size l 0 → h'.objs.size = s.heap.objs.size + 2 →
      (∀ b o, s.heap.get? b = some o → h'.get? b = some o) → Q (.ref (s.heap.objs.size + 1)) { s with heap := h' }) : wpAny (model prog w) A (call (.type "enumerate") [.ref l]) Q E s := by
  refine callType_new F.called_enumerate (by decide) (F.typeCall_enumerate_1 _) (F.newCall_enumerate_1 _) (fun obj => F.args_object_init_2 obj _) F.entry_enumerate_new (meets_enum (p := p) l us) ⟨hL, ?_⟩
  have hz : (zmA p s.heap l).objs.size = s.heap.objs.size + 1 := Heap.size_push ..
  show _ ∧ _
  rw [hz]
  have he : IsEnum ((zmA p s.heap l).push { cls := .type "enumerate", data := .fields #[.none, .bool false, .ref s.heap.objs.size, rawInt 0, .none, .none] }) (s.heap.objs.size + 1) s.heap.objs.size 0 .none := by
    have := Heap.get?_push_size (zmA p s.heap l) (o := { cls := .type "enumerate", data := .fields #[.none, .bool false, .ref s.heap.objs.size, rawInt 0, .none, .none] }) rfl
    rw [hz] at this; exact this
  refine ⟨⟨_, he, rfl⟩, h _ he (.mk (Heap.get?_push_of_some _ (Heap.get?_push_size _ rfl))) (by rw [Heap.size_push, hz]) fun b o x => Heap.get?_push_of_some _ (Heap.get?_push_of_some _ x)⟩
theorem enum_end {e it l : Addr} {i : Nat} {j : Int} {items : Array Value} {old : Value} {Q : Option Value → Shared → Prop} (hh : A.handled = none) (he : IsEnum s.heap e it j old) (hit : ZIt p s.heap it l i) (hl : ZSq p s.heap l items) (hx : items[i]? = none)
    (hQ : ∀ h', Heap.ExtBut it s.heap h' → Q none { s with heap := h' }) : wpAny (model prog w) A (pyNext (.ref e)) Q E s := by
  have hT : s.TypeIs (.ref e) "enumerate" := ⟨_, he, rfl⟩
  unfold pyNext
  refine wpAny_bind (wpAny_attempt (wpAny_callSpecial?_slot (name := Str.ofString "__next__") hT F.slot_enumerate_next
    (wpAny_call_entry F.slot_enumerate_next hT F.entry_enumerate_next ?_ (F.args_enumerate_next_1 _))))
  show wpAny _ _ (field (.ref e) 2 >>= _) _ _ _
  refine wpAny_bind (wpAny_field he rfl (x := .ref it) rfl ?_)
  refine wpAny_bind (zit_end (p := p) (show A.in1.handled = none from hh) hit hl hx fun h' x he' hx' => ?_)
  obtain ⟨o, ho, hc⟩ := hx'
  refine wpAny_bind (wpAny_isInstance (T := "StopIteration") (b := true) ⟨o, ho, hc⟩ isSubtype_stop ?_)
  exact wpAny_pure (hQ _ he')
end
def ItE (p : Bool) (K : PySem.W.Frag) (a : Addr) : It :=
  ⟨fun i H => ∃ (xs : List V) (x : V), SqP p K H a xs ∧ xs[i]? = some x, fun i H v H' => ∃ T x, v = .ref T ∧ H T = none ∧ H' = L2.upd H T (.tup [.int (i : Nat), x]) ∧ ∀ xs, SqP p K H a xs → xs[i]? = some x, fun i H => ∃ xs : List V, SqP p K H a xs ∧ xs.length ≤ i⟩
theorem turn_enumP {p : Bool} {P : Program} {w : World} {K : PySem.W.Frag} {elts : List Expr} {kk : Nat} {tpos : Pos} (a e it : Addr) :
    Turn P w K (.Tuple elts kk tpos) (ItE p K a) [e, it] e (fun i h => (∃ old, IsEnum h e it ((i : Nat) : Int) old) ∧ ZIt p h it a i ∧ e ≠ it) where
  mem := by simp
  obj := fun i h st b hb => by
    obtain ⟨⟨old, he⟩, hz, _⟩ := st
    obtain ⟨o, ho, hd⟩ := hz.obj
    have e' : b = e ∨ b = it := by simpa using hb
    rcases e' with z | z
    · rw [z]; exact ⟨_, he, fun v q => nomatch q⟩
    · rw [z]; exact ⟨o, ho, fun v q => by rw [hd] at q; cases q⟩
  keep := fun i h h' st k => let ⟨⟨old, he⟩, hi, hne⟩ := st; ⟨⟨old, k e (by simp) _ he⟩, hi.at fun o q => k it (by simp) o q, hne⟩
  item := by
    intro X hP hw hK hc i pins s σ H E I hf st hg
    subst hP hw hK
    obtain ⟨⟨old, he⟩, hit, hne⟩ := st
    obtain ⟨xs, x, hq, hx⟩ := hg
    obtain ⟨its, rv, pl, hz⟩ := I.sqp hq
    obtain ⟨u, hu, ru⟩ := rv.get hx
    have hel : e < s.heap.objs.size := Heap.lt_size he
    have hil : it < s.heap.objs.size := hit.lt
    have nal : a ≠ it := by
      rintro rfl
      obtain ⟨o, e1, d1⟩ := hit.obj
      cases p
      · obtain ⟨o2, e2, _, n, d2⟩ := pl
        rw [e1] at e2
        cases e2
        rw [d1] at d2
        cases d2
      · obtain ⟨o2, e2, _, n, d2⟩ := pl
        rw [e1] at e2
        cases e2
        rw [d1] at d2
        cases d2
    have nae : e ∉ [it, a] := by
      simp only [List.mem_cons, List.not_mem_nil, or_false, not_or]
      refine ⟨hne, ?_⟩
      rintro rfl
      cases p
      · obtain ⟨o2, e2, _, n, d2⟩ := pl
        rw [he] at e2
        cases e2
        cases d2
      · obtain ⟨o2, e2, _, n, d2⟩ := pl
        rw [he] at e2
        cases e2
        cases d2
    have hlt : i < its.toArray.size := by
      rw [List.size_toArray, ← rv.length]
      exact (List.getElem?_eq_some_iff.mp hx).1
    refine wpAny_pyNext_enum_itemD (draws_z (A := X.A.in1) (p := p) (show X.A.in1.handled = none from I.ok.hd hc) it a nal its.toArray) he ⟨hit, pl⟩ hlt hne nae fun x' h' tk hP ho hst hT hsz hk => ?_
    have ex : x' = u := by
      have h1 : its.toArray[i]? = some x' := hP
      simp only [List.getElem?_toArray] at h1
      rw [hu] at h1
      exact (Option.some.inj h1).symm
    subst ex
    refine ⟨_, rfl, wpAny_letOwnedTupleGo_enum (s := { s with heap := h', toks := tk + 1 }) ho fun h'' he' sb => ?_⟩
    have hT2 : h''.get? s.heap.objs.size = some { cls := .type "tuple", data := .seq #[.int i tk, x'] } := (sb.2 _ (Nat.ne_of_gt hel)).trans hT
    have new : ObjOk X.prog X.w (L2.upd H s.heap.objs.size (.tup [.int (i : Nat), x])) h'' s.heap.objs.size (.tup [.int (i : Nat), x]) :=
      ⟨by show 2 ≤ sizeLine; decide, [.int i tk, x'], .cons ⟨_, rfl⟩ (.cons ru .nil), ⟨_, hT2, rfl, _, rfl⟩⟩
    have I1 : Inv X pins σ (L2.upd H s.heap.objs.size (.tup [.int (i : Nat), x])) { s with heap := h'', toks := tk + 1 } :=
      I.turnedNew (ch := [e, it]) (fun b ob hb q => (sb.2 b (fun z => hb (by simp [z]))).trans (hk b ob (fun z => hb (by simp [z])) (fun z => hb (by simp [z])) q)) hf (Nat.le_refl _) new
    refine ⟨.ref s.heap.objs.size, _, I1, rfl, ⟨_, x, rfl, I.hok.fresh (Nat.le_refl _), rfl, fun ys hy => by rw [I.sqp_inj hy hq]; exact hx⟩, ⟨⟨x', ?_⟩, hst.1.at fun o q => (sb.2 it (Ne.symm hne)).trans q, hne⟩, fun b hb => ?_⟩
    · have e1 : ((i + 1 : Nat) : Int) = (i : Int) + 1 := by omega
      rw [e1]; exact he'
    · have hb' : b < s.heap.objs.size := by
        have e' : b = e ∨ b = it := by simpa using hb
        rcases e' with z | z
        · rw [z]; exact hel
        · rw [z]; exact hil
      rw [upd_ne (Nat.ne_of_lt hb')]
      exact (hf b hb).1
  done := by
    intro X hP hw hK hc i pins s σ H E I hf st hg
    subst hP hw hK
    obtain ⟨⟨old, he⟩, hit, hne⟩ := st
    obtain ⟨xs, hq, hx⟩ := hg
    obtain ⟨its, rv, pl, hz⟩ := I.sqp hq
    obtain ⟨f0, f1, f2, f3, f4, f5⟩ := hf it (by simp)
    have hl := rv.length
    exact enum_end (I.ok.hd hc) he hit pl (by simp; omega) fun h' eb => ⟨rfl, I.turned (t' := s.toks) (fun b o hb q => eb b o hb q) f0 f1 f3 f4 f5⟩
  self := fun A i s Q E st h => let ⟨⟨_, he⟩, _⟩ := st; wpAny_pyIter_enum he h
def iEnP (K : PySem.W.Frag) (ta : TA) : TI := fun σ H R => ta σ H fun vs H1 => ∃ p a xs, vs = [.ref a] ∧ SqP p K H1 a xs ∧ R (ItE p K a) H1
theorem pi_enumP {X : Cx} {e : Expr} {ta : TA} {p pos tpos : Pos} {elts : List Expr} {kk : Nat} (hg : Gl X "enumerate") (hm : X.mg "enumerate" = none) (ha : PA X [e] ta) (hs : starEach [e] X.env = [(false, eval e X.env)] := by rfl) :
    PI X (.Tuple elts kk tpos) (.Call (.Name "enumerate" p) [e] [] pos) (iEnP X.K ta) := by
  refine ⟨fun pins s σ H R I h => ?_⟩
  refine Call_ (ld_blt I hg hm boot_enumerate (PyProof.Rows.callWith_type1 (thn (ha.run pos pins s σ H _ I h) fun us s1 ⟨vs, H1, I1, r1, q1⟩ => ?_) hs rfl))
  obtain ⟨p, a, xs, ex, hq, q⟩ := q1
  subst ex
  cases r1 with
  | cons r rr =>
    cases rr
    cases r
    obtain ⟨its, rv, p', hz⟩ := I1.sqp hq
    refine call_enum p' fun h' he hit hsz hk => wpAny_pyIter_enum he ?_
    have I2 : Inv X pins σ H1 { s1 with heap := h' } := I1.kept (t' := s1.toks) hk
    refine ⟨s1.heap.objs.size + 1, [s1.heap.objs.size + 1, s1.heap.objs.size], _, _, H1, rfl, I2, turn_enumP (p := p) a (s1.heap.objs.size + 1) s1.heap.objs.size, ⟨⟨.none, he⟩, hit, Nat.succ_ne_self _⟩, fun b hb => ?_, q⟩
    have e' : b = s1.heap.objs.size + 1 ∨ b = s1.heap.objs.size := by simpa using hb
    have hle : s1.heap.objs.size ≤ b := by
      rcases e' with z | z
      · rw [z]; exact Nat.le_add_right _ _
      · rw [z]; exact Nat.le_refl _
    exact I1.fpOk hle (I1.hok.fresh hle)
def itEn (d : Dv) : Itf := fun S i => match seqOf S d with
  | some ds => some (match ds[i]? with
    | some x => some (.tup [.int (i : Nat), x])
    | none => none)
  | none => none
def iEn (l : DL) : DI := fun ρ S => (l ρ S).bd fun ds S1 => match ds with
  | [d] => match seqOf S1 d with
    | some _ => .ok (itEn d) S1
    | none => .stuck
  | _ => .stuck
section
variable {X : Cx} {C : Nat → Addr} {W : WX} {a : Expr} {l : DL} {p pos : Pos}
theorem jm_en {μ : Mu} {H : Hp} {d : Dv} {ad : Addr} (vd : VR X.K H μ d (.ref ad)) : Jm X.K C μ H (itEn d) (ItE (isTup d) X.K ad) := by
  intro μ1 S1 H1 af sr i
  simp only [itEn]
  cases e1 : seqOf S1 d with
  | none => trivial
  | some ds =>
    obtain ⟨a', vs, q1, hq, h2⟩ := seq_sqp sr e1 (vd.weak af)
    cases q1
    simp only
    cases e3 : ds[i]? with
    | none => exact ⟨vs, hq, by rw [← h2.length]; exact List.getElem?_eq_none_iff.mp e3⟩
    | some x =>
      obtain ⟨v, h3, h4⟩ := h2.get e3
      refine ⟨⟨vs, v, hq, h3⟩, fun z H' yy => ?_⟩
      obtain ⟨T, x', rfl, hT, rfl, g1⟩ := yy
      have g1' := g1 vs hq
      rw [h3] at g1'
      cases g1'
      exact new_pair sr hT (VR_int.mpr rfl) h4
theorem si_en {elts : List Expr} {kk : Nat} {tpos : Pos} (hm : X.mg "enumerate" = none) (ha : SL X C W [a] l) (hg : Gl X "enumerate" := by rfl) (hs : starEach [a] X.env = [(false, eval a X.env)] := by rfl) :
    SI X C W (.Tuple elts kk tpos) (.Call (.Name "enumerate" p) [a] [] pos) (iEn l) := by
  refine ⟨pi_imp (pi_enumP hg hm ha.pa hs) fun σ H R q => ?_⟩
  obtain ⟨μ, ρ, S, rl, q⟩ := q
  refine ⟨μ, ρ, S, rl, (tR.bd q).imp fun v H1 q1 => ?_⟩
  obtain ⟨μ1, S1, dl, a1, s1, vr, q1⟩ := q1
  split at q1
  · rename_i d
    split at q1
    · rename_i ds e1
      obtain ⟨z, t, rfl, h1, h2⟩ := VRs_cons.mp vr
      cases VRs_nil.mp h2
      obtain ⟨ad, vs, rfl, hq, _⟩ := seq_sqp s1 e1 h1
      exact ⟨isTup d, ad, vs, rfl, hq, q1 μ1 H1 _ Aft.refl s1 (jm_en h1)⟩
    · exact q1.elim
  · exact q1.elim
end
end Fc

set_option exponentiation.threshold 256
set_option maxHeartbeats 4000000
set_option maxHeartbeats 4000000
/-! FcCls: instances: attributes, properties, methods, making. -/
namespace Fc
open PySem L2
/-- an instance: its class, its attributes -/
def insOf (S : Sto) : Dv → Option (Nat × List (Str × Dv))
  | .obj c fs => some (c, fs)
  | .ref n => match S[n]? with
    | some (.ins c fs) => some (c, fs)
    | _ => none
  | _ => none
section
variable {K : PySem.W.Frag} {C : Nat → Addr} {H : Hp} {μ : Mu} {S : Sto}
theorem insOf_at (sr : SR K C μ S H) {d : Dv} {v : V} {c : Nat} {fs : List (Str × Dv)} (e : insOf S d = some (c, fs)) (h : VR K H μ d v) : ∃ a dx gs, v = .ref a ∧ H a = some (.ins (clsA K c) dx gs) ∧ KRs K H μ fs gs := by
  cases d with
  | obj c' fs' =>
    cases e
    obtain ⟨a, dx, gs, rfl, _, h2, h3⟩ := VR_obj.mp h
    exact ⟨a, dx, gs, rfl, h2, VRf_KRs.mp h3⟩
  | ref n =>
    simp only [insOf] at e
    split at e
    · rename_i c' fs' e1
      cases e
      obtain ⟨a, ha, rfl⟩ := VR_ref.mp h
      obtain ⟨ho, e3, dx, gs, rfl, r⟩ := sr.ob n _ a e1 ha
      exact ⟨a, dx, gs, rfl, e3, r⟩
    · cases e
  | _ => cases e
theorem KRs.look {f : Str} : ∀ {fs : List (Str × Dv)} {gs : List (Str × V)}, KRs K H μ fs gs → match fs.lookup f with
    | some d => ∃ v, gs.lookup f = some v ∧ VR K H μ d v
    | none => gs.lookup f = none
  | [], gs, h => by
    cases (show gs = [] from h)
    rfl
  | (g, d) :: fs, gs, h => by
    obtain ⟨v, t, rfl, h1, h2⟩ := h
    have ih := KRs.look (f := f) h2
    simp only [List.lookup_cons]
    cases f == g with
    | true => exact ⟨v, rfl, h1⟩
    | false => exact ih
theorem KRs.length {κ : Type} : ∀ {fs : List (κ × Dv)} {gs : List (κ × V)}, KRs K H μ fs gs → fs.length = gs.length
  | [], gs, h => by
    cases (show gs = [] from h)
    rfl
  | (g, d) :: fs, gs, h => by
    obtain ⟨v, t, rfl, h1, h2⟩ := h
    simp [KRs.length h2]
def putD (f : Str) (v : Dv) : List (Str × Dv) → List (Str × Dv)
  | [] => [(f, v)]
  | (g, x) :: r => if g = f then (g, v) :: r else (g, x) :: putD f v r
theorem KRs.put {f : Str} {d : Dv} {v : V} (hv : VR K H μ d v) : ∀ {fs : List (Str × Dv)} {gs : List (Str × V)}, KRs K H μ fs gs → KRs K H μ (putD f d fs) (putF f v gs)
  | [], gs, h => by
    cases (show gs = [] from h)
    exact ⟨v, [], rfl, hv, rfl⟩
  | (g, x) :: fs, gs, h => by
    obtain ⟨y, t, rfl, h1, h2⟩ := h
    simp only [putD, putF]
    by_cases e : g = f
    · rw [if_pos e, if_pos e]
      exact ⟨v, t, rfl, hv, h2⟩
    · rw [if_neg e, if_neg e]
      exact ⟨y, _, rfl, h1, KRs.put hv h2⟩
end
/-- what the program's text says of the classes cs -/
structure CF (K : PySem.W.Frag) (cs : List Nat) : Prop where
  cls : ∀ c ∈ cs, Cls K (clsA K c)
structure NF (K : PySem.W.Frag) (cs : List Nat) (f : Str) : Prop where
  no : ∀ c ∈ cs, NoAttr K (clsA K c) f
section
variable {X : Cx} {C : Nat → Addr} {W : WX} {j k n c : Nat} {cs : List Nat} {e o value : Expr} {es : List Expr} {fe fo fv : DE} {l : DL} {den : Den} {f m x : Str} {p pos pos' apos : Pos}
def eFld (cs : List Nat) (f : Str) (fe : DE) : DE := fun ρ S => (fe ρ S).bd fun d S1 => match insOf S1 d with
  | some (c, fs) => if cs.contains c then (match fs.lookup f with
    | some x => .ok x S1
    | none => .stuck) else .stuck
  | none => .stuck
theorem se_fld (F : CF X.K cs) (N : NF X.K cs f) (he : SE X C W e fe) (hb : attributeBase e f X.env (eval e X.env) = eval e X.env := by rfl) : SE X C W (.Attribute e f pos) (eFld cs f fe) := by
  refine ⟨pe_imp (pe_fld he.pe hb) fun σ H Q q => ?_⟩
  obtain ⟨μ, ρ, S, rl, q⟩ := q
  refine ⟨μ, ρ, S, rl, (tR.bd q).imp fun v H1 q1 => ?_⟩
  obtain ⟨μ1, S1, d, a1, s1, vr, q1⟩ := q1
  split at q1
  · rename_i c fs e1
    split at q1
    · rename_i hc
      have hc' : c ∈ cs := by simpa using hc
      obtain ⟨a, dx, gs, rfl, h1, h2⟩ := insOf_at s1 e1 vr
      have lk := KRs.look (f := f) h2
      split at q1
      · rename_i x e2
        rw [e2] at lk
        obtain ⟨w, h3, h4⟩ := lk
        exact ⟨a, _, dx, gs, w, rfl, h1, F.cls c hc', N.no c hc', h3, q1 μ1 H1 w Aft.refl s1 h4⟩
      · exact q1.elim
    · exact q1.elim
  · exact q1.elim
def cFld (cs : List Nat) (f : Str) (fo fv : DE) : DS := fun ρ S => toS (fv ρ S) ρ fun y S1 => toS (fo ρ S1) ρ fun d S2 => match d with
  | .ref n => match S2[n]? with
    | some (.ins c fs) => if cs.contains c && decide (fs.length < 1000) then .ok (.nx ρ) (S2.set n (.ins c (putD f y fs))) else .stuck
    | _ => .stuck
  | _ => .stuck
theorem ss_fld (F : CF X.K cs) (N : NF X.K cs f) (ho : SE X C W o fo) (hv : SE X C W value fv) (hs : swapsWith value (some (.Attribute o f pos')) pos.line X.env = pure false := by rfl) : SS X C W (.Assign [.Attribute o f pos'] value pos) (cFld cs f fo fv) := by
  refine ⟨ps_imp (ps_fld ho.pe hv.pe hs) fun D σ H q => ?_⟩
  obtain ⟨μ, ρ, S, rl, q⟩ := q
  refine ⟨μ, ρ, S, rl, (toS_go q rl).imp fun y H1 q1 => ?_⟩
  obtain ⟨μ1, S1, dy, a1, s1, vy, q1⟩ := q1
  refine ⟨μ1, ρ, S1, rl.next a1 s1, (toS_go q1 (rl.next a1 s1)).imp fun v H2 q2 => ?_⟩
  obtain ⟨μ2, S2, d, a2, s2, vr, q2⟩ := q2
  cases d with
  | ref n =>
    simp only at q2
    split at q2
    · rename_i c fs e1
      split at q2
      · rename_i hc
        simp only [Bool.and_eq_true, decide_eq_true_eq] at hc
        have hc' : c ∈ cs := by simpa using hc.1
        obtain ⟨a, ha, rfl⟩ := VR_ref.mp vr
        obtain ⟨ho, e3, dx, gs, rfl, r⟩ := s2.ob n _ a e1 ha
        refine ⟨a, _, dx, gs, rfl, e3, F.cls c hc', N.no c hc', by rw [← r.length]; exact hc.2, ?_⟩
        have af : Aft X.K μ2 H2 μ2 (L2.upd H2 a (.ins (clsA X.K c) dx (putF f y gs))) := s2.put_aft ha (by rw [e3]; exact True.intro)
        have s3 := s2.put (o := .ins c (putD f dy fs)) ha (by rw [e3]; exact True.intro) ⟨dx, _, rfl, (r.mono af).put (vy.mono (a2.trans af))⟩
        exact q2 μ2 σ _ af (((rl.next a1 s1).next a2 s2).next af s3)
      · exact q2.elim
    · exact q2.elim
  | _ => exact q2.elim
end
/-! ### a def at an address, told by its denotation -/
structure At (P : Program) (w : World) (K : PySem.W.Frag) (mg : Str → Option Value) (base : Heap) (C : Nat → Addr) (f : Addr) (n k : Nat) (den : Den) : Prop where
  ex : ∃ fd ps, Binds K fd ps [] ∧ ps.length = n ∧ FnG P w K mg base C k f fd ps den
section
variable {P : Program} {w : World} {K : PySem.W.Frag} {mg : Str → Option Value} {base : Heap} {C : Nat → Addr} {x : Str} {f : Addr} {n j k : Nat} {den den' : Den}
theorem At.mono (F : At P w K mg base C f n j den) (h : j ≤ k) : At P w K mg base C f n k den := by
  obtain ⟨fd, ps, h1, h2, h3⟩ := F.ex
  exact ⟨fd, ps, h1, h2, h3.mono h⟩
theorem At.imp (F : At P w K mg base C f n k den) (h : ∀ μ S ds (H : Hp) (W : WX) (Q : VK), SR K C μ S H → tR K C W (PV K) (den' ds S) μ [] H Q → tR K C W (PV K) (den ds S) μ [] H Q) : At P w K mg base C f n k den' := by
  obtain ⟨fd, ps, h3, h4, h5⟩ := F.ex
  refine ⟨fd, ps, h3, h4, ⟨fun A outer s H args us vs Q E hr hg he hb hv hs => h5.run A outer s H args us vs Q E hr hg he hb hv ?_⟩⟩
  obtain ⟨hl, μ, S, ds, sr, vr, q⟩ := hs
  exact ⟨hl, μ, S, ds, sr, vr, h μ S ds H _ Q sr q⟩
theorem At.tidy {m : Nat} {body : DS} (F : At P w K mg base C f n k (runB m body)) : At P w K mg base C f n k (runF m body) :=
  F.imp fun _ _ _ _ _ _ sr q => tidy_go sr q
/-- a def in a class: st stands at f, named qual -/
theorem at_of {x qual : Str} {st : Stmt} {fd : FuncData} {N ps : List Str} {body : DS} (F : Fun K x qual st f fd) (sc : FnScope N ps (defScope st))
    (hbind : ∀ (kV doc pm : Value) (an : Option Addr) (cdv ct : Value) (us : List Value), us.length = ps.length → bindArgs (PySem.W.fnOf x qual (defArgs st) (defBody st) (defScope st) .none kV doc pm an cdv ct) ⟨us, []⟩ = pure (ps.zip us))
    (hbody : ∀ (f : Addr) (cdv : Value) (A : Around) (outer : List Env) (s : Shared) (H : Hp) (E : XK), Ctx (BX P w K mg base N qual st f cdv A outer s H E) (WEx E) k → SSs (BX P w K mg base N qual st f cdv A outer s H E) C (WEx E) (defBody st) body) :
    At P w K mg base C f ps.length (k + 1) (runB N.length body) :=
  ⟨fd, ps, F.binds hbind, rfl, fng_of F sc (hbody f)⟩
end
/-- the property f of the class c -/
structure Pr (P : Program) (w : World) (K : PySem.W.Frag) (mg : Str → Option Value) (base : Heap) (C : Nat → Addr) (c : Nat) (f : Str) (k : Nat) (den : Den) : Prop where
  ex : ∃ p g, Cls K (clsA K c) ∧ PropOf K (clsA K c) f p g ∧ At P w K mg base C g 1 k den
/-- the method m of the class c -/
structure Md (P : Program) (w : World) (K : PySem.W.Frag) (mg : Str → Option Value) (base : Heap) (C : Nat → Addr) (c : Nat) (m : Str) (n k : Nat) (den : Den) : Prop where
  ex : ∃ g, Cls K (clsA K c) ∧ Meth K (clsA K c) m g ∧ At P w K mg base C g n k den
/-- the class c is made by the __init__ den -/
structure Nw (P : Program) (w : World) (K : PySem.W.Frag) (mg : Str → Option Value) (base : Heap) (C : Nat → Addr) (c n k : Nat) (den : Den) : Prop where
  ex : ∃ g, Mk K (clsA K c) g ∧ mg (clsNm c) = some (.ref (clsA K c)) ∧ At P w K mg base C g n k den
/-- by class -/
def tabAll (tab : List (Nat × Den)) (p : Nat → Den → Prop) : Prop := ∀ c den, tab.lookup c = some den → p c den
theorem tabAll_nil {p : Nat → Den → Prop} : tabAll [] p := fun _ _ h => by cases h
theorem tabAll_cons {p : Nat → Den → Prop} {c : Nat} {d : Den} {t : List (Nat × Den)} (h : p c d) (r : tabAll t p) : tabAll ((c, d) :: t) p := fun c' d' e => by
  rw [List.lookup_cons] at e
  cases he : c' == c with
  | true =>
    rw [he] at e
    cases e
    rw [eq_of_beq he]
    exact h
  | false =>
    rw [he] at e
    exact r c' d' e
def noX : Res Dv → Res Dv
  | .exn _ _ => .stuck
  | r => r
section
variable {X : Cx} {C : Nat → Addr} {W : WX} {j k n c : Nat} {cs : List Nat} {tab : List (Nat × Den)} {e o value : Expr} {es : List Expr} {fe fo fv : DE} {l : DL} {den : Den} {f m x : Str} {p pos pos' apos : Pos}
theorem run_at {pins : List (Addr × Obj)} {σ : L2.St} {H : Hp} {s : Shared} {Q : VK} {us : List Value} {vs : List V} {g : Addr} (cx : Ctx X W j) (F : At X.prog X.w X.K X.mg X.base C g n k den) (hk : k ≤ j)
    (I : Inv X pins σ H s) (r : Vals vs us) {μ : Mu} {S : Sto} {ds : List Dv} (sr : SR X.K C μ S H) (vr : VRs X.K H μ ds vs) (hl : ds.length = n) (q : tR X.K C W (PV X.K) (den ds S) μ σ H Q) :
    wpAny (model X.prog X.w) X.A (call (.ref g) us) (EP X pins σ Q) X.xe s := by
  obtain ⟨fd, ps, hb, hn, G⟩ := F.ex
  exact run_fnG cx G hk hb I r sr vr (hl.trans hn.symm) q
/-! properties -/
def eProp (tab : List (Nat × Den)) (fe : DE) : DE := fun ρ S => (fe ρ S).bd fun d S1 => match insOf S1 d with
  | some (c, _) => match tab.lookup c with
    | some den => noX (den [d] S1)
    | none => .stuck
  | none => .stuck
theorem se_prop (cx : Ctx X W j) (T : tabAll tab fun c den => Pr X.prog X.w X.K X.mg X.base C c f k den) (hk : k + 1 ≤ j) (he : SE X C W e fe) (hab : attributeBase e f X.env (eval e X.env) = eval e X.env := by rfl) : SE X C W (.Attribute e f pos) (eProp tab fe) := by
  refine ⟨⟨fun pins s σ H Q I h => ?_⟩⟩
  obtain ⟨μ, ρ, S, rl, q⟩ := h
  refine attr_of hab (thn (he.pe.run pins s σ H _ I ⟨μ, ρ, S, rl, tR.bd q⟩) fun u s1 hq => ?_)
  obtain ⟨v, H1, I1, rv, μ1, S1, d, a1, s1', vr, q1⟩ := hq
  split at q1
  · rename_i c fs e1
    split at q1
    · rename_i den e2
      obtain ⟨p, g, c0, hp, F⟩ := (T c den e2).ex
      obtain ⟨a, dx, gs, rfl, ea, h2⟩ := insOf_at s1' e1 vr
      obtain rfl : u = Value.ref a := rv
      obtain ⟨fd, ps, hb, hn, G⟩ := F.ex
      obtain ⟨mA, O, _, _, _, _⟩ := ins_get I1.hok ea
      obtain ⟨od, J, _⟩ := O.look
      obtain ⟨rest, hrec⟩ := hp.rec_
      have I2 := I1.tok (s1.toks + 1)
      have hc : (PySem.W.clsIn X.K (clsA X.K c)).isSome = true := by
        obtain ⟨cd, hc, _⟩ := PySem.W.any_some c0.hd
        rw [hc]
        rfl
      have hbind := hb { s1 with toks := s1.toks + 1 } [.ref a] I2.kIn (by simp [hn])
      rw [List.append_nil] at hbind
      have q' : tR X.K C W0 (PV X.K) (den [d] S1) μ1 [] H1 Q := by
        cases hd : den [d] S1 with
        | ok x S' => rw [hd] at q1; exact q1
        | exn cc S' => rw [hd] at q1; exact q1.elim
        | stuck => rw [hd] at q1; exact q1.elim
      refine PySem.W.get_bind I1.kIn J (PySem.W.plainGet_of (c0.get f)).1 (PySem.W.findObj_data hc hp.at_ hp.get hp.tak) (PySem.W.plainGet_of (c0.get f)).2 (wpAny_call (PySem.W.prop_get (s := { s1 with toks := s1.toks + 1 }) I1.kIn hrec ?_))
      have rm : Room k X.A.in1 := Room.in1 (cx.room.mono hk)
      refine codeAny_mono (G.run X.A.in1 X.stack { s1 with toks := s1.toks + 1 } H1 ⟨[.ref a], []⟩ [.ref a] [.ref a] Q (fun _ _ _ => False) rm cx.gd I2.env0.in1 hbind (.cons rfl .nil) ⟨by simp [hn], μ1, S1, [d], s1', VRs_cons.mpr ⟨_, [], rfl, vr, VRs_nil.mpr rfl⟩, q'⟩) fun r s' hq => ?_
      match r, hq with
      | .error er, hq => obtain ⟨_, _, _, _, _, _, _, _, _, _, _, _, z⟩ := hq; exact z.elim
      | .ok (.ret u), hq =>
        obtain ⟨v, H', I3, rv, q3⟩ := I2.after hq
        show wpAny _ _ (handedOut u) _ _ _
        rw [PySem.W.handedOut_of (handed_of rv)]
        exact wpAny_pure ⟨v, H', I3, rv, q3⟩
      | .ok .next, hq => exact False.elim hq
      | .ok .brk, hq => exact False.elim hq
      | .ok .cont, hq => exact False.elim hq
    · exact q1.elim
  · exact q1.elim
/-! methods -/
def eMeth (m : Str) (n : Nat) (tab : List (Nat × Den)) (fo : DE) (l : DL) : DE := fun ρ S => (fo ρ S).bd fun d S1 => match insOf S1 d with
  | some (c, fs) => match tab.lookup c, fs.lookup m with
    | some den, none => (l ρ S1).bd fun ds S2 => if ds.length + 1 = n then den (d :: ds) S2 else .stuck
    | _, _ => .stuck
  | none => .stuck
theorem se_meth {pl : Sem Bool} (cx : Ctx X W j) (T : tabAll tab fun c den => Md X.prog X.w X.K X.mg X.base C c m n k den) (ho : SE X C W o fo) (ha : SL X C W (e :: es) l) (hk : k ≤ j := by decide)
    (hst : starEach (e :: es) X.env = (false, eval e X.env) :: starEach es X.env := by rfl) (hpl : (backTo pos (starEach es X.env)).any (·.1) = false := by rfl)
    (ht : eval (.Call (.Attribute o m apos) (e :: es) [] pos) X.env = (do
      let ov ← eval o X.env
      standAt apos.atName
      let (f, first) ← holding [ov] (getMethod ov m pl)
      callWith pos f first (backTo pos (starEach (e :: es) X.env)) (backToKw pos (keywordEach [] X.env))) := by rfl) : SE X C W (.Call (.Attribute o m apos) (e :: es) [] pos) (eMeth m n tab fo l) := by
  refine ⟨⟨fun pins s σ H Q I h => ?_⟩⟩
  obtain ⟨μ, ρ, S, rl, q⟩ := h
  refine PySem.W.methodCall_KW (pl := pl) (thn (ho.pe.run pins s σ H _ I ⟨μ, ρ, S, rl, tR.bd q⟩) fun u s1 hq => ?_) ht
  obtain ⟨v, H1, I1, rv, μ1, S1, d, a1, s1', vr, q1⟩ := hq
  split at q1
  · rename_i c fs e1
    split at q1
    · rename_i den e2 e3
      obtain ⟨g, c0, hm, F⟩ := (T c den e2).ex
      obtain ⟨a, dx, gs, rfl, ea, h2⟩ := insOf_at s1' e1 vr
      obtain rfl : u = Value.ref a := rv
      have lk := KRs.look (f := m) h2
      rw [e3] at lk
      refine getmeth_ok I1 ea c0 hm lk ?_
      refine PySem.W.callWith_K (first := [.ref a]) (h₀ := X.base) I1.ok.mod.kin hm.kp (thn (ha.pa.run pos pins s1 σ H1 _ I1 ⟨μ1, ρ, S1, rl.next a1 s1', tR.bd q1⟩) fun us s2 hq2 => ?_) hst hpl
      obtain ⟨vs, H2, I2, r, μ2, S2, ds, a2, s2', vrs, q2⟩ := hq2
      refine ⟨I2.kIn, ?_⟩
      split at q2
      · rename_i hl
        exact run_at cx F hk I2 (us := .ref a :: us) (vs := .ref a :: vs) (.cons rfl r) s2' (VRs_cons.mpr ⟨_, vs, rfl, vr.mono a2, vrs⟩) (by simpa using hl) q2
      · exact q2.elim
    · exact q1.elim
  · exact q1.elim
def eMeth0 (m : Str) (tab : List (Nat × Den)) (fo : DE) : DE := fun ρ S => (fo ρ S).bd fun d S1 => match insOf S1 d with
  | some (c, fs) => match tab.lookup c, fs.lookup m with
    | some den, none => den [d] S1
    | _, _ => .stuck
  | none => .stuck
theorem se_meth0 {pl : Sem Bool} (cx : Ctx X W j) (T : tabAll tab fun c den => Md X.prog X.w X.K X.mg X.base C c m 1 k den) (ho : SE X C W o fo) (hk : k ≤ j := by decide)
    (ht : eval (.Call (.Attribute o m apos) [] [] pos) X.env = (do
      let ov ← eval o X.env
      standAt apos.atName
      let (f, first) ← holding [ov] (getMethod ov m pl)
      callWith pos f first (backTo pos (starEach [] X.env)) (backToKw pos (keywordEach [] X.env))) := by rfl) : SE X C W (.Call (.Attribute o m apos) [] [] pos) (eMeth0 m tab fo) := by
  refine ⟨⟨fun pins s σ H Q I h => ?_⟩⟩
  obtain ⟨μ, ρ, S, rl, q⟩ := h
  refine PySem.W.methodCall_KW (pl := pl) (thn (ho.pe.run pins s σ H _ I ⟨μ, ρ, S, rl, tR.bd q⟩) fun u s1 hq => ?_) ht
  obtain ⟨v, H1, I1, rv, μ1, S1, d, a1, s1', vr, q1⟩ := hq
  split at q1
  · rename_i c fs e1
    split at q1
    · rename_i den e2 e3
      obtain ⟨g, c0, hm, F⟩ := (T c den e2).ex
      obtain ⟨a, dx, gs, rfl, ea, h2⟩ := insOf_at s1' e1 vr
      obtain rfl : u = Value.ref a := rv
      have lk := KRs.look (f := m) h2
      rw [e3] at lk
      refine getmeth_ok I1 ea c0 hm lk ?_
      exact PySem.W.callWith_K0 (first := [.ref a]) I1.kIn hm.kp (run_at cx F hk I1 (us := [.ref a]) (vs := [.ref a]) (.cons rfl .nil) s1' (VRs_cons.mpr ⟨_, [], rfl, vr, VRs_nil.mpr rfl⟩) rfl q1)
    · exact q1.elim
  · exact q1.elim
/-! making -/
def newR (n : Nat) : Res Dv → Res Dv
  | .ok .non S => .ok (.ref n) S
  | .exn c S => .exn c S
  | _ => .stuck
/-- m: it stays a thing of the store -/
noncomputable def tdy (m : Bool) (S : Sto) (r : Res Dv) : Res Dv := match m, r with
  | true, .ok d S' => .ok d S'
  | _, r => tidy S r
theorem tdy_go {m : Bool} {S : Sto} {r : Res Dv} {μ : Mu} {H : Hp} {σ : L2.St} {Q : VK} (s0 : SR X.K C μ S H) (q : tR X.K C W (PV X.K) (tdy m S r) μ σ H Q) : tR X.K C W (PV X.K) r μ σ H Q := by
  cases m with
  | false => exact tidy_go s0 q
  | true =>
    cases r with
    | ok d S' => exact q
    | exn c S' => exact tidy_go s0 q
    | stuck => exact q
noncomputable def eNew (m : Bool) (c n : Nat) (den : Den) (l : DL) : DE := fun ρ S => (l ρ S).bd fun ds S1 => if ds.length + 1 = n then tdy m S1 (newR S1.length (den (.ref S1.length :: ds) (S1 ++ [.ins c []]))) else .stuck
theorem se_new (m : Bool) (cx : Ctx X W j) (N : Nw X.prog X.w X.K X.mg X.base C c n k den) (ha : SL X C W (e :: es) l) (hk : k + 1 ≤ j) (hx : clsNm c = x) (hg : Gl X x := by rfl) (hdb : (x == ("__debug__" : Str)) = false := by decide)
    (he : starEach (e :: es) X.env = (false, eval e X.env) :: starEach es X.env := by rfl) (hpl : (backTo pos (starEach es X.env)).any (·.1) = false := by rfl) : SE X C W (.Call (.Name x p) (e :: es) [] pos) (eNew m c n den l) := by
  subst hx
  obtain ⟨g, M, hmg, F⟩ := N.ex
  obtain ⟨fd, ps, hb, hn, G⟩ := F.ex
  refine ⟨⟨fun pins s σ H Q I h => ?_⟩⟩
  obtain ⟨μ, ρ, S, rl, q⟩ := h
  refine wpAny_Call_Name_kw (ld_glob I hg hmg ?_ hdb)
  refine PySem.W.callWith_K (h₀ := X.base) I.ok.mod.kin M.kp (thn (ha.pa.run pos pins s σ H _ I ⟨μ, ρ, S, rl, tR.bd q⟩) fun us s1 hq => ?_) he hpl
  obtain ⟨vs, H1, I1, r, μ1, S1, ds, a1, s1', vr, q1⟩ := hq
  refine ⟨I1.kIn, ?_⟩
  split at q1
  · rename_i hl
    have q2 := tdy_go s1' q1
    have fx : H1 (s1.heap.objs.size + 1) = none := I1.hok.fresh (Nat.le_succ _)
    have fd' : H1 s1.heap.objs.size = none := I1.hok.fresh (Nat.le_refl _)
    have I2 := Inv.made (C := clsA X.K c) I1
    have sA := s1'.lay (o := .own (s1.heap.objs.size + 1)) fd'
    have aA : Aft X.K μ1 H1 μ1 (L2.upd H1 s1.heap.objs.size (.own (s1.heap.objs.size + 1))) := Aft.new fd'
    have fx2 : (L2.upd H1 s1.heap.objs.size (.own (s1.heap.objs.size + 1))) (s1.heap.objs.size + 1) = none := by
      rw [upd_ne (Nat.succ_ne_self _)]
      exact fx
    have aB := aA.trans (sA.alloc_aft (ho := .ins (clsA X.K c) s1.heap.objs.size []) fx2)
    have sB := sA.alloc (o := .ins c []) (ho := .ins (clsA X.K c) s1.heap.objs.size []) fx2 ⟨_, [], rfl, rfl⟩
    have r2 : Vals (V.ref (s1.heap.objs.size + 1) :: vs) (Value.ref (s1.heap.objs.size + 1) :: us) := .cons rfl r
    have hlu : (Value.ref (s1.heap.objs.size + 1) :: us).length = ps.length := by
      rw [← r2.length, List.length_cons, ← vr.length, hn]
      exact hl
    have hbind := hb _ (Value.ref (s1.heap.objs.size + 1) :: us) I2.kIn (by rw [List.append_nil]; exact hlu)
    rw [List.append_nil] at hbind
    have atx : (μ1.add (s1.heap.objs.size + 1)).tr[S1.length]? = some (s1.heap.objs.size + 1) := by
      show (μ1.tr ++ [s1.heap.objs.size + 1])[S1.length]? = _
      rw [List.getElem?_append_right (by rw [s1'.len]; exact Nat.le_refl _), s1'.len]
      simp
    have vrs2 : VRs X.K _ (μ1.add (s1.heap.objs.size + 1)) (.ref S1.length :: ds) (V.ref (s1.heap.objs.size + 1) :: vs) := VRs_cons.mpr ⟨_, vs, rfl, VR_ref.mpr ⟨_, atx, rfl⟩, vr.mono aB⟩
    have q3 : tR X.K C (WEx (WE W σ)) (PV X.K) (den (.ref S1.length :: ds) (S1 ++ [.ins c []])) (μ1.add (s1.heap.objs.size + 1)) [] (L2.upd (L2.upd H1 s1.heap.objs.size (.own (s1.heap.objs.size + 1))) (s1.heap.objs.size + 1) (.ins (clsA X.K c) s1.heap.objs.size []))
        fun v H2 => v = .non ∧ Q (.ref (s1.heap.objs.size + 1)) H2 := by
      cases hd : den (.ref S1.length :: ds) (S1 ++ [.ins c []]) with
      | stuck => rw [hd] at q2; exact q2.elim
      | exn cc S' => rw [hd] at q2; exact fun μ' H' a s => q2 μ' H' (aB.trans a) s
      | ok d S' =>
        rw [hd] at q2
        cases d with
        | non => exact fun μ' H' v a s z => ⟨VR_non.mp z, q2 μ' H' _ (aB.trans a) s (VR_ref.mpr ⟨_, a.at atx, rfl⟩)⟩
        | _ => exact q2.elim
    have rm : Room k (X.A.under (.builtin "type.__call__" ⟨.ref (clsA X.K c) :: us, []⟩)) := Room.make (cx.room.mono hk) (clsA X.K c) us []
    refine wpAny_call (make_map (f := g) I1.kIn M.makes M.init (beq_iff_eq.mp M.fn) (codeAny_mono (G.run _ X.stack _ _ ⟨Value.ref (s1.heap.objs.size + 1) :: us, []⟩ (Value.ref (s1.heap.objs.size + 1) :: us) _ _ (WE W σ) rm cx.gd
      (I2.env0.make (clsA X.K c) us []) hbind r2 ⟨by rw [← r2.length] at hlu; exact hlu, _, _, _, sB, vrs2, q3⟩) fun r s' hq' => ?_))
    match r, hq' with
    | .error e, hq => exact passAt cx.tk σ pins _ _ e s' I2 hq
    | .ok (.ret u), hq =>
      obtain ⟨v, H', I3, rv, ev, q3⟩ := I2.after hq
      subst ev
      exact ⟨rv, ⟨V.ref (s1.heap.objs.size + 1), H', I3, rfl, q3⟩⟩
    | .ok .next, hq => exact False.elim hq
    | .ok .brk, hq => exact False.elim hq
    | .ok .cont, hq => exact False.elim hq
  · exact q1.elim
end
end Fc

set_option exponentiation.threshold 256
set_option maxHeartbeats 4000000
set_option maxHeartbeats 4000000
/-! FcDict: dicts whose keys are ints and texts; more stores; ranges downwards. -/
namespace Fc
open PySem L2
def keyD : Key → Dv
  | .inl i => .int i
  | .inr x => .str x
def keyOf : Dv → Option Key
  | .int i => some (.inl i)
  | .str x => some (.inr x)
  | _ => none
abbrev Kd := List (Key × Dv)
def valD (kvs : Kd) (k : Key) : Option Dv := (kvs.find? fun kv => decide (kv.1 = k)).map (·.2)
def putKD (kvs : Kd) (k : Key) (v : Dv) : Kd :=
  if (kvs.any fun kv => decide (kv.1 = k)) = true then kvs.map (fun kv => if kv.1 = k then (kv.1, v) else kv) else kvs ++ [(k, v)]
def dropKD (kvs : Kd) (k : Key) : Kd := kvs.filter fun kv => decide (kv.1 ≠ k)
section
variable {K : PySem.W.Frag} {C : Nat → Addr} {H : Hp} {μ : Mu} {S : Sto}
theorem keyD_V {k : Key} : VR K H μ (keyD k) (kV k) := by
  cases k with
  | inl i => exact VR_int.mpr rfl
  | inr x => exact VR_str.mpr rfl
theorem keyOf_V {d : Dv} {v : V} {k : Key} (e : keyOf d = some k) (h : VR K H μ d v) : v = kV k := by
  cases d with
  | int i => cases e; exact VR_int.mp h
  | str x => cases e; exact VR_str.mp h
  | _ => cases e
theorem KRs.val {k : Key} : ∀ {l : Kd} {m : List (Key × V)}, KRs K H μ l m → match valD l k with
    | some d => ∃ v, valV m k = some v ∧ VR K H μ d v
    | none => valV m k = none
  | [], m, h => by
    cases (show m = [] from h)
    rfl
  | (g, d) :: l, m, h => by
    obtain ⟨v, t, rfl, h1, h2⟩ := h
    have ih := KRs.val (k := k) h2
    by_cases e : g = k
    · have e1 : valD ((g, d) :: l) k = some d := by simp [valD, List.find?_cons, e]
      rw [e1]
      exact ⟨v, valV_pos (p := (g, v)) e, h1⟩
    · have e1 : valD ((g, d) :: l) k = valD l k := by simp [valD, List.find?_cons, e]
      rw [e1, valV_neg (p := (g, v)) e]
      exact ih
theorem KRs.any {k : Key} : ∀ {l : Kd} {m : List (Key × V)}, KRs K H μ l m → (l.any fun kv => decide (kv.1 = k)) = (m.any fun kv => decide (kv.1 = k))
  | [], m, h => by
    cases (show m = [] from h)
    rfl
  | (g, d) :: l, m, h => by
    obtain ⟨v, t, rfl, h1, h2⟩ := h
    simp only [List.any_cons, KRs.any h2]
theorem KRs.snoc {k : Key} {d : Dv} {v : V} (hv : VR K H μ d v) : ∀ {l : Kd} {m : List (Key × V)}, KRs K H μ l m → KRs K H μ (l ++ [(k, d)]) (m ++ [(k, v)])
  | [], m, h => by
    cases (show m = [] from h)
    exact ⟨v, [], rfl, hv, rfl⟩
  | (g, x) :: l, m, h => by
    obtain ⟨y, t, rfl, h1, h2⟩ := h
    exact ⟨y, _, rfl, h1, KRs.snoc hv h2⟩
theorem KRs.repl {k : Key} {d : Dv} {v : V} (hv : VR K H μ d v) : ∀ {l : Kd} {m : List (Key × V)}, KRs K H μ l m → KRs K H μ (l.map fun kv => if kv.1 = k then (kv.1, d) else kv) (m.map fun kv => if kv.1 = k then (kv.1, v) else kv)
  | [], m, h => by
    cases (show m = [] from h)
    rfl
  | (g, x) :: l, m, h => by
    obtain ⟨y, t, rfl, h1, h2⟩ := h
    simp only [List.map_cons]
    by_cases e : g = k
    · rw [if_pos e, if_pos e]
      exact ⟨v, _, rfl, hv, KRs.repl hv h2⟩
    · rw [if_neg e, if_neg e]
      exact ⟨y, _, rfl, h1, KRs.repl hv h2⟩
theorem KRs.putK {k : Key} {d : Dv} {v : V} (hv : VR K H μ d v) {l : Kd} {m : List (Key × V)} (h : KRs K H μ l m) : KRs K H μ (putKD l k d) (L2.putK m k v) := by
  unfold putKD L2.putK
  rw [h.any]
  split
  · exact h.repl hv
  · exact h.snoc hv
theorem KRs.drop {k : Key} : ∀ {l : Kd} {m : List (Key × V)}, KRs K H μ l m → KRs K H μ (dropKD l k) (dropK m k)
  | [], m, h => by
    cases (show m = [] from h)
    rfl
  | (g, x) :: l, m, h => by
    obtain ⟨y, t, rfl, h1, h2⟩ := h
    unfold dropKD dropK
    by_cases e : g = k
    · rw [List.filter_cons_of_neg (by simp [e]), List.filter_cons_of_neg (by simp [e])]
      exact KRs.drop h2
    · rw [List.filter_cons_of_pos (by simp [e]), List.filter_cons_of_pos (by simp [e])]
      exact ⟨y, _, rfl, h1, KRs.drop h2⟩
theorem KRs.get {κ : Type} : ∀ {l : List (κ × Dv)} {m : List (κ × V)} {i : Nat}, KRs K H μ l m → match l[i]? with
    | some (k, d) => ∃ v, m[i]? = some (k, v) ∧ VR K H μ d v
    | none => m.length ≤ i
  | [], m, i, h => by
    cases (show m = [] from h)
    simp
  | (g, x) :: l, m, 0, h => by
    obtain ⟨y, t, rfl, h1, h2⟩ := h
    exact ⟨y, rfl, h1⟩
  | (g, x) :: l, m, i + 1, h => by
    obtain ⟨y, t, rfl, h1, h2⟩ := h
    have ih := KRs.get (i := i) h2
    simp only [List.getElem?_cons_succ, List.length_cons]
    split
    · rename_i k d e
      rw [e] at ih
      exact ih
    · rename_i e
      rw [e] at ih
      simp only at ih
      omega
/-- a dict of the store -/
theorem dic_at (sr : SR K C μ S H) {n : Nat} {kvs : Kd} {v : V} (e : S[n]? = some (.dic kvs)) (h : VR K H μ (.ref n) v) : ∃ a kws, v = .ref a ∧ μ.tr[n]? = some a ∧ H a = some (.dK kws) ∧ KRs K H μ kvs kws := by
  obtain ⟨a, ha, rfl⟩ := VR_ref.mp h
  obtain ⟨ho, e3, kws, rfl, r⟩ := sr.ob n _ a e ha
  exact ⟨a, kws, rfl, ha, e3, r⟩
end
/-- the pairs, open or locked -/
def dicOf (S : Sto) : Dv → Option Kd
  | .ref n => match S[n]? with
    | some (.dic kvs) => some kvs
    | some (.ldic kvs) => some kvs
    | _ => none
  | _ => none
section
variable {X : Cx} {C : Nat → Addr} {W : WX} {k j n : Nat} {e o i a b value : Expr} {es : List Expr} {f g fo fi fe fk fv : DE} {l : DL} {pos p p2 p3 apos cpos tpos : Pos} {st : Stmt} {body : List Stmt} {cb : DS} {tg : Tg}
theorem dicOf_at {H : Hp} {μ : Mu} {S : Sto} (sr : SR X.K C μ S H) {d : Dv} {kvs : Kd} {v : V} (e : dicOf S d = some kvs) (h : VR X.K H μ d v) : ∃ a kws, v = .ref a ∧ Rd H a (.dK kws) ∧ KRs X.K H μ kvs kws := by
  cases d with
  | ref n =>
    simp only [dicOf] at e
    obtain ⟨a, ha, rfl⟩ := VR_ref.mp h
    split at e
    · rename_i ks e1
      cases e
      obtain ⟨ho, e3, kws, rfl, r⟩ := sr.ob n _ a e1 ha
      exact ⟨a, kws, rfl, .inl e3, r⟩
    · rename_i ks e1
      cases e
      obtain ⟨ho, e3, od, kws, rfl, r⟩ := sr.ob n _ a e1 ha
      exact ⟨a, kws, rfl, .inr ⟨od, e3⟩, r⟩
    · cases e
  | _ => cases e
/-! a new dict -/
def eDNew : DE := fun _ S => .ok (.ref S.length) (S ++ [.dic []])
theorem new_dic {μ1 : Mu} {S1 : Sto} {H1 : Hp} {kvs : Kd} {kws : List (Key × V)} {σ : L2.St} {Q : VK} (s1 : SR X.K C μ1 S1 H1) (vr : KRs X.K H1 μ1 kvs kws)
    (q1 : tR X.K C W (PV X.K) (.ok (.ref S1.length) (S1 ++ [.dic kvs])) μ1 σ H1 Q) (p : Addr) (hp : H1 p = none) : Q (.ref p) (L2.upd H1 p (.dK kws)) := by
  have af : Aft X.K μ1 H1 (μ1.add p) (L2.upd H1 p (.dK kws)) := s1.alloc_aft hp
  refine q1 (μ1.add p) _ _ af (s1.alloc hp ⟨kws, rfl, vr.mono af⟩) (VR_ref.mpr ⟨p, ?_, rfl⟩)
  show (μ1.tr ++ [p])[S1.length]? = some p
  rw [List.getElem?_append_right (by rw [s1.len]; exact Nat.le_refl _), s1.len]
  simp
theorem se_dnew : SE X C W (.Dict [] [] pos) eDNew := by
  refine ⟨pe_imp pe_dnewK fun σ H Q q => ?_⟩
  obtain ⟨μ, ρ, S, rl, q⟩ := q
  exact new_dic (kvs := []) (kws := []) rl.sr (show KRs X.K H μ [] [] from rfl) q
def fDict : OpN := fun ds S => match ds with
  | [d] => match dicOf S d with
    | some kvs => some (.ref S.length, S ++ [.dic kvs])
    | none => none
  | _ => none
theorem cas_dict : CaS X C (.type "dict") fDict := by
  intro pins s σ H vs us Q I r h
  obtain ⟨μ, S, ds, sr, vr, q⟩ := h
  unfold fDict at q
  split at q
  · split at q
    · rename_i d kvs e1
      obtain ⟨v, t, rfl, h1, h2⟩ := VRs_cons.mp vr
      cases VRs_nil.mp h2
      obtain ⟨a, kws, rfl, hq, h3⟩ := dicOf_at sr e1 h1
      exact call_dictD pins s σ H _ us Q I r ⟨a, kws, rfl, hq, new_dic sr h3 q⟩
    · exact q.elim
  · exact q.elim
/-! d[k], d.get(k, x), d.pop(k), k in d -/
def eDGet (fo fi : DE) : DE := fun ρ S => (fo ρ S).bd fun d S1 => (fi ρ S1).bd fun y S2 => match dicOf S2 d, keyOf y with
  | some kvs, some k => match valD kvs k with
    | some x => .ok x S2
    | none => .stuck
  | _, _ => .stuck
theorem se_dget (cx : Ctx X W j) (ho : SE X C W o fo) (hi : SE X C W i fi) (hs : NoSl i := by exact fun _ _ => rfl) : SE X C W (.Subscript o i pos) (eDGet fo fi) := by
  refine ⟨pe_imp (pe_dget (by have := cx.h64; omega) ho.pe hi.pe hs) fun σ H Q q => ?_⟩
  obtain ⟨μ, ρ, S, rl, q⟩ := q
  refine ⟨μ, ρ, S, rl, (tR.bd q).imp fun v H1 q1 => ?_⟩
  obtain ⟨μ1, S1, d, a1, s1, vr, q1⟩ := q1
  refine ⟨μ1, ρ, S1, rl.next a1 s1, (tR.bd q1).imp fun y H2 q2 => ?_⟩
  obtain ⟨μ2, S2, dy, a2, s2, vy, q2⟩ := q2
  split at q2
  · rename_i kvs k e1 e2
    obtain ⟨a, kws, rfl, hq, h3⟩ := dicOf_at s2 e1 (vr.mono a2)
    have lk := h3.val (k := k)
    split at q2
    · rename_i x e3
      rw [e3] at lk
      obtain ⟨w, h4, h5⟩ := lk
      exact ⟨a, w, rfl, .inl ⟨kws, k, hq, keyOf_V e2 vy, h4.symm⟩, q2 μ2 H2 w Aft.refl s2 h5⟩
    · exact q2.elim
  · exact q2.elim
def eDGet2 (fo fi fv : DE) : DE := fun ρ S => (fo ρ S).bd fun d S1 => match dicOf S1 d with
  | some _ => (fi ρ S1).bd fun y S2 => (fv ρ S2).bd fun z S3 => match dicOf S3 d, keyOf y with
    | some kvs, some k => .ok ((valD kvs k).getD z) S3
    | _, _ => .stuck
  | none => .stuck
theorem se_dget2 (cx : Ctx X W j) (ho : SE X C W o fo) (hi : SE X C W e fi) (hv : SE X C W a fv) (m : M2 X o "get" apos e a cpos := by exact ⟨rfl, rfl, rfl, rfl⟩) : SE X C W (.Call (.Attribute o "get" apos) [e, a] [] cpos) (eDGet2 fo fi fv) := by
  refine ⟨pe_imp (pe_dget2 (by have := cx.h64; omega) ho.pe hi.pe hv.pe m) fun σ H Q q => ?_⟩
  obtain ⟨μ, ρ, S, rl, q⟩ := q
  refine ⟨μ, ρ, S, rl, (tR.bd q).imp fun v H1 q1 => ?_⟩
  obtain ⟨μ1, S1, d, a1, s1, vr, q1⟩ := q1
  split at q1
  · rename_i kvs0 e0
    obtain ⟨ad, kws0, rfl, hq0, _⟩ := dicOf_at s1 e0 vr
    refine ⟨ad, rfl, .inl ⟨kws0, hq0⟩, μ1, ρ, S1, rl.next a1 s1, (tR.bd q1).imp fun y H2 q2 => ?_⟩
    obtain ⟨μ2, S2, dy, a2, s2, vy, q2⟩ := q2
    refine ⟨μ2, ρ, S2, (rl.next a1 s1).next a2 s2, (tR.bd q2).imp fun z H3 q3 => ?_⟩
    obtain ⟨μ3, S3, dz, a3, s3, vz, q3⟩ := q3
    split at q3
    · rename_i kvs k e1 e2
      obtain ⟨ad2, kws, ea, hq, h3⟩ := dicOf_at s3 e1 (vr.mono (a2.trans a3))
      cases ea
      have lk := h3.val (k := k)
      cases e3 : valD kvs k with
      | none =>
        rw [e3] at lk q3
        exact ⟨none, .inl ⟨kws, k, hq, keyOf_V e2 vy, lk.symm⟩, q3 μ3 H3 z Aft.refl s3 vz⟩
      | some x =>
        rw [e3] at lk q3
        obtain ⟨w, h4, h5⟩ := lk
        exact ⟨some w, .inl ⟨kws, k, hq, keyOf_V e2 vy, h4.symm⟩, q3 μ3 H3 w Aft.refl s3 h5⟩
    · exact q3.elim
  · exact q1.elim
def eDPop (fo fi : DE) : DE := fun ρ S => (fo ρ S).bd fun d S1 => match dicOf S1 d with
  | some _ => (fi ρ S1).bd fun y S2 => match d, keyOf y with
    | .ref n, some k => match S2[n]? with
      | some (.dic kvs) => match valD kvs k with
        | some x => .ok x (S2.set n (.dic (dropKD kvs k)))
        | none => .stuck
      | _ => .stuck
    | _, _ => .stuck
  | none => .stuck
theorem se_dpop (ho : SE X C W o fo) (hi : SE X C W e fi) (m : M1 X o "pop" apos e cpos := by exact ⟨rfl, rfl, rfl, rfl⟩) : SE X C W (.Call (.Attribute o "pop" apos) [e] [] cpos) (eDPop fo fi) := by
  refine ⟨pe_imp (pe_dpop1 ho.pe hi.pe m) fun σ H Q q => ?_⟩
  obtain ⟨μ, ρ, S, rl, q⟩ := q
  refine ⟨μ, ρ, S, rl, (tR.bd q).imp fun v H1 q1 => ?_⟩
  obtain ⟨μ1, S1, d, a1, s1, vr, q1⟩ := q1
  split at q1
  · rename_i kvs0 e0
    obtain ⟨ad, kws0, rfl, hq0, _⟩ := dicOf_at s1 e0 vr
    refine ⟨ad, rfl, .inl ⟨kws0, hq0⟩, μ1, ρ, S1, rl.next a1 s1, (tR.bd q1).imp fun y H2 q2 => ?_⟩
    obtain ⟨μ2, S2, dy, a2, s2, vy, q2⟩ := q2
    split at q2
    · rename_i n k e2
      split at q2
      · rename_i kvs e1
        split at q2
        · rename_i x e3
          obtain ⟨ad2, kws, ea, ha, hq, h3⟩ := dic_at s2 e1 (vr.mono a2)
          cases ea
          have lk := h3.val (k := k)
          rw [e3] at lk
          obtain ⟨w, h4, h5⟩ := lk
          have af : Aft X.K μ2 H2 μ2 (L2.upd H2 ad (.dK (dropK kws k))) := s2.put_aft ha (by rw [hq]; exact True.intro)
          have s3 := s2.put (o := .dic (dropKD kvs k)) ha (by rw [hq]; exact True.intro) ⟨_, rfl, (h3.mono af).drop⟩
          exact ⟨kws, k, w, hq, keyOf_V e2 vy, h4, q2 μ2 _ w af s3 (h5.mono af)⟩
        · exact q2.elim
      · exact q2.elim
    · exact q2.elim
  · exact q1.elim
def eDIn (neg : Bool) (fi fo : DE) : DT := fun ρ S => (fi ρ S).bd fun y S1 => (fo ρ S1).bd fun d S2 => match dicOf S2 d, keyOf y with
  | some kvs, some k => .ok (neg != (valD kvs k).isSome) S2
  | _, _ => .stuck
theorem din_go {H2 : Hp} {μ2 : Mu} {S2 : Sto} (s2 : SR X.K C μ2 S2 H2) {d dy : Dv} {v y : V} {kvs : Kd} {k : Key} (e1 : dicOf S2 d = some kvs) (e2 : keyOf dy = some k) (vr : VR X.K H2 μ2 d v) (vy : VR X.K H2 μ2 dy y) : ∃ a r, v = .ref a ∧ DGet H2 a y r ∧ r.isSome = (valD kvs k).isSome := by
  obtain ⟨a, kws, rfl, hq, h3⟩ := dicOf_at s2 e1 vr
  have lk := h3.val (k := k)
  cases e3 : valD kvs k with
  | none =>
    rw [e3] at lk
    exact ⟨a, none, rfl, .inl ⟨kws, k, hq, keyOf_V e2 vy, lk.symm⟩, rfl⟩
  | some x =>
    rw [e3] at lk
    obtain ⟨w, h4, h5⟩ := lk
    exact ⟨a, some w, rfl, .inl ⟨kws, k, hq, keyOf_V e2 vy, h4.symm⟩, rfl⟩
theorem st_din (cx : Ctx X W j) (hi : SE X C W i fi) (ho : SE X C W o fo) (hm : behindInMarks .In o = false := by first | exact nobehind _ (by decide) (by decide) | rfl) : ST X C W (.Compare i [.In] [o] pos) (eDIn false fi fo) := by
  refine ⟨pt_imp (pt_cmp (pc_din (by have := cx.h64; omega) hi.pe ho.pe) hm) fun σ H Q q => ?_⟩
  obtain ⟨μ, ρ, S, rl, q⟩ := q
  refine ⟨μ, ρ, S, rl, (tR.bd q).imp fun y H1 q1 => ?_⟩
  obtain ⟨μ1, S1, dy, a1, s1, vy, q1⟩ := q1
  refine ⟨μ1, ρ, S1, rl.next a1 s1, (tR.bd q1).imp fun v H2 q2 => ?_⟩
  obtain ⟨μ2, S2, d, a2, s2, vr, q2⟩ := q2
  split at q2
  · rename_i kvs k e1 e2
    obtain ⟨a, r, rfl, h1, h2⟩ := din_go s2 e1 e2 vr (vy.mono a2)
    exact ⟨a, r, rfl, h1, _, rfl, by rw [h2]; exact q2 μ2 H2 _ Aft.refl s2 (by simp)⟩
  · exact q2.elim
theorem st_dnotin (cx : Ctx X W j) (hi : SE X C W i fi) (ho : SE X C W o fo) (hm : behindInMarks .NotIn o = false := by first | exact nobehind _ (by decide) (by decide) | rfl) : ST X C W (.Compare i [.NotIn] [o] pos) (eDIn true fi fo) := by
  refine ⟨pt_imp (pt_cmp (pc_dnotin (by have := cx.h64; omega) hi.pe ho.pe) hm) fun σ H Q q => ?_⟩
  obtain ⟨μ, ρ, S, rl, q⟩ := q
  refine ⟨μ, ρ, S, rl, (tR.bd q).imp fun y H1 q1 => ?_⟩
  obtain ⟨μ1, S1, dy, a1, s1, vy, q1⟩ := q1
  refine ⟨μ1, ρ, S1, rl.next a1 s1, (tR.bd q1).imp fun v H2 q2 => ?_⟩
  obtain ⟨μ2, S2, d, a2, s2, vr, q2⟩ := q2
  split at q2
  · rename_i kvs k e1 e2
    obtain ⟨a, r, rfl, h1, h2⟩ := din_go s2 e1 e2 vr (vy.mono a2)
    exact ⟨a, r, rfl, h1, _, rfl, by rw [h2]; exact q2 μ2 H2 _ Aft.refl s2 (by simp)⟩
  · exact q2.elim
/-! d[k] = v -/
def cDPut (fe fo fi : DE) : DS := fun ρ S => toS (fe ρ S) ρ fun x S1 => toS (fo ρ S1) ρ fun d S2 => toS (fi ρ S2) ρ fun y S3 => match d, keyOf y with
  | .ref n, some k => match S3[n]? with
    | some (.dic kvs) => if kvs.length < lim then .ok (.nx ρ) (S3.set n (.dic (putKD kvs k x))) else .stuck
    | _ => .stuck
  | _, _ => .stuck
theorem ss_dput (cx : Ctx X W j) (hv : SE X C W value fe) (ho : SE X C W o fo) (hi : SE X C W i fi) (hs : swapsWith value (some (.Subscript o i p2)) pos.line X.env = pure false := by rfl) : SS X C W (.Assign [.Subscript o i p2] value pos) (cDPut fe fo fi) := by
  refine ⟨ps_imp (ps_dput (by have := cx.h64; omega) ho.pe hi.pe hv.pe hs) fun D σ H q => ?_⟩
  obtain ⟨μ, ρ, S, rl, q⟩ := q
  refine ⟨μ, ρ, S, rl, (toS_go q rl).imp fun xv H1 q1 => ?_⟩
  obtain ⟨μ1, S1, x, a1, s1, vx, q1⟩ := q1
  have rl1 := rl.next a1 s1
  refine ⟨μ1, ρ, S1, rl1, (toS_go q1 rl1).imp fun v H2 q2 => ?_⟩
  obtain ⟨μ2, S2, d, a2, s2, vr, q2⟩ := q2
  have rl2 := rl1.next a2 s2
  refine ⟨μ2, ρ, S2, rl2, (toS_go q2 rl2).imp fun yv H3 q3 => ?_⟩
  obtain ⟨μ3, S3, y, a3, s3, vy, q3⟩ := q3
  split at q3
  · rename_i n k e2
    split at q3
    · rename_i kvs e1
      split at q3
      · rename_i hl
        obtain ⟨ad, kws, rfl, ha, hq, h3⟩ := dic_at s3 e1 (vr.mono a3)
        have af : Aft X.K μ3 H3 μ3 (L2.upd H3 ad (.dK (putK kws k xv))) := s3.put_aft ha (by rw [hq]; exact True.intro)
        have s4 := s3.put (o := .dic (putKD kvs k x)) ha (by rw [hq]; exact True.intro) ⟨_, rfl, (h3.mono af).putK (vx.mono ((a2.trans a3).trans af))⟩
        exact ⟨ad, _, rfl, .inl ⟨kws, k, hq, keyOf_V e2 vy, by rw [← h3.length]; exact Nat.lt_of_lt_of_le hl lim_line, rfl⟩, q3 μ3 σ _ af ((rl2.next a3 s3).next af s4)⟩
      · exact q3.elim
    · exact q3.elim
  · exact q3.elim
/-! a[i] += e, a list's int -/
theorem get_listP : PGet X fun o i H Q => ∃ p xs k v, o = .ref p ∧ i = .int k ∧ SqL X.K H p xs ∧ atI xs k = some v ∧ Q v H := by
  intro pins s σ H o i ov iv Q I ro ri h
  obtain ⟨p, xs, k, v, rfl, rfl, h1, h2, q⟩ := h
  cases ro
  obtain ⟨t, rfl⟩ := ri
  obtain ⟨its, r, pl, hz⟩ := I.list h1
  obtain ⟨j, g1, g2, g3, g4, g5⟩ := atI_get h2
  obtain ⟨w, ew, rw'⟩ := r.get g2
  have hl := r.length
  have hn := line63
  have fin : EP X pins σ Q w s := ⟨v, H, I, rw', q⟩
  by_cases h0 : 0 ≤ k
  · have hj : k.toNat = j := by
      rw [seqIndex_of h0 g5] at g1
      exact Option.some.inj g1
    exact wpAny_getItem_list pl.isList h0 (by omega) (by rw [hj]; simpa using ew) fin
  · have hj : (k + (its.toArray.size : Int)).toNat = j := by
      rw [seqIndex_neg (by omega) g4] at g1
      rw [List.size_toArray, ← hl]
      exact Option.some.inj g1
    exact wpAny_getItem_list_neg pl.isList (by omega) (by rw [List.size_toArray] <;> omega) (by omega) (by rw [hj]; simpa using ew) fin
def cAugS (gg : Op2) (fo fi fe : DE) : DS := fun ρ S => toS (fo ρ S) ρ fun d S1 => toS (fi ρ S1) ρ fun y S2 => match d, y with
  | .ref n, .int j => match S2[n]? with
    | some (.lst es) => match atI es j with
      | some x => toS (fe ρ S2) ρ fun z S3 => match gg x z S3 with
        | some (r, S4) => match S4[n]? with
          | some (.lst es2) => match ixN es2.length j with
            | some m => .ok (.nx ρ) (S4.set n (.lst (es2.set m r)))
            | none => .stuck
          | _ => .stuck
        | none => .stuck
      | none => .stuck
    | _ => .stuck
  | _, _ => .stuck
theorem ss_augS {op : Operator} {gg : Op2} (hp : IpS X C op gg) (ho : SE X C W o fo) (hi : SE X C W i fi) (he : SE X C W e fe)
    (ha : ∀ ov iv new, augStore i ov iv new = (do holding [new, ov, iv] (setItem ov iv new); release [new, ov, iv] []; pure .next) := by intros; rfl) : SS X C W (.AugAssign (.Subscript o i tpos) op e pos) (cAugS gg fo fi fe) := by
  refine ⟨ps_imp (ps_augS ho.pe hi.pe get_listP he.pe hp set_list ha) fun D σ H q => ?_⟩
  obtain ⟨μ, ρ, S, rl, q⟩ := q
  refine ⟨μ, ρ, S, rl, (toS_go q rl).imp fun v H1 q1 => ?_⟩
  obtain ⟨μ1, S1, d, a1, s1, vr, q1⟩ := q1
  have rl1 := rl.next a1 s1
  refine ⟨μ1, ρ, S1, rl1, (toS_go q1 rl1).imp fun yv H2 q2 => ?_⟩
  obtain ⟨μ2, S2, y, a2, s2, vy, q2⟩ := q2
  have rl2 := rl1.next a2 s2
  split at q2
  · rename_i n jj
    split at q2
    · rename_i es e1
      split at q2
      · rename_i x e2
        cases VR_int.mp vy
        obtain ⟨ad, vs, rfl, ha3, h3, h4⟩ := lst_at s2 e1 (vr.mono a2)
        obtain ⟨xv, e4, vx⟩ := atI_VR h4 e2
        refine ⟨ad, vs, jj, xv, rfl, rfl, SqL.of h3, e4, μ2, ρ, S2, rl2, (toS_go q2 rl2).imp fun zv H3 q3 => ?_⟩
        obtain ⟨μ3, S3, z, a3, s3, vz, q3⟩ := q3
        have rl3 := rl2.next a3 s3
        refine ⟨μ3, S3, x, z, s3, vx.mono a3, vz, ?_⟩
        cases e5 : gg x z S3 with
        | none => rw [e5] at q3; exact q3.elim
        | some p =>
          obtain ⟨r, S4⟩ := p
          rw [e5] at q3
          intro μ4 H4 rv a4 s4 vr4
          simp only at q3
          split at q3
          · rename_i es2 e6
            split at q3
            · rename_i m em
              obtain ⟨ad2, vs2, eq, ha4, h5, h6⟩ := lst_at s4 e6 (vr.mono ((a2.trans a3).trans a4))
              cases eq
              have af : Aft X.K μ4 H4 μ4 (L2.upd H4 ad (.lst (vs2.set m rv))) := s4.put_aft ha4 (by rw [h5]; exact True.intro)
              exact ⟨ad, vs2, jj, m, rfl, rfl, h5, by rw [← h6.length]; exact em, q3 μ4 σ _ (a4.trans af) ((rl3.next a4 s4).next af (s4.put (o := .lst (es2.set m r)) ha4 (by rw [h5]; exact True.intro) ⟨_, rfl, (h6.mono af).set m (vr4.mono af)⟩))⟩
            · exact q3.elim
          · exact q3.elim
      · exact q2.elim
    · exact q2.elim
  · exact q2.elim
/-! range(i, j, -1) -/
def itDown (lo : Int) (n : Nat) : Itf := fun _ i => some (if i < n then some (.int (lo - i)) else none)
noncomputable def iRange3 (l : DL) : DI := fun ρ S => (l ρ S).bd fun ds S1 => match ds with
  | [.int i, .int j, .int (-1)] => if rngB i && rngB j then .ok (itDown i (i - j).toNat) S1 else .stuck
  | _ => .stuck
theorem si_range3 {tge c : Expr} (hm : X.mg "range" = none) (ha : SL X C W [a, b, c] l) (hg : Gl X "range" := by rfl) (hs : starEach [a, b, c] X.env = (false, eval a X.env) :: starEach [b, c] X.env := by rfl) (hpl : (backTo pos (starEach [b, c] X.env)).any (·.1) = false := by rfl) :
    SI X C W tge (.Call (.Name "range" p) [a, b, c] [] pos) (iRange3 l) := by
  refine ⟨pi_imp (pi_range3 hg hm ha.pa hs hpl) fun σ H R q => ?_⟩
  obtain ⟨μ, ρ, S, rl, q⟩ := q
  refine ⟨μ, ρ, S, rl, (tR.bd q).imp fun v H1 q1 => ?_⟩
  obtain ⟨μ1, S1, d, a1, s1, vr, q1⟩ := q1
  split at q1
  · rename_i i j
    split at q1
    · rename_i hc
      rw [Bool.and_eq_true, rngB_iff, rngB_iff] at hc
      obtain ⟨z, t, rfl, h1, h2⟩ := VRs_cons.mp vr
      obtain ⟨z2, t2, rfl, h3, h4⟩ := VRs_cons.mp h2
      obtain ⟨z3, t3, rfl, h5, h6⟩ := VRs_cons.mp h4
      cases VRs_nil.mp h6
      cases VR_int.mp h1
      cases VR_int.mp h3
      cases VR_int.mp h5
      refine ⟨i, j, -1, _, rfl, RgC.neg hc.1.1 hc.1.2 hc.2.1 hc.2.2, q1 μ1 H1 _ Aft.refl s1 ?_⟩
      intro μ2 S2 H2 af sr m
      simp only [itDown]
      by_cases h : m < (i - j).toNat
      · rw [if_pos h]
        exact ⟨h, fun x H' y => by
          obtain ⟨rfl, rfl⟩ := y
          exact ⟨Aft.refl, sr, VR_int.mpr (by congr 1; omega)⟩⟩
      · rw [if_neg h]
        exact Nat.le_of_not_lt h
    · exact q1.elim
  · exact q1.elim
end
end Fc

set_option exponentiation.threshold 256
set_option maxHeartbeats 4000000
set_option maxHeartbeats 4000000
/-! FcItems: walks over a dict's pairs; two stores at once. -/
namespace Fc
open PySem L2
def itItems (n : Nat) : Itf := fun S i => match S[n]? with
  | some (.ldic kvs) => some (kvs[i]?.map fun p => .tup [keyD p.1, p.2])
  | _ => none
/-- the dict is open again -/
def unlO (n : Nat) (r : Res Out) : Res Out := match r with
  | .ok (.ex _ _) _ => .stuck
  | .ok o S' => match S'[n]? with
    | some (.ldic kvs) => .ok o (S'.set n (.dic kvs))
    | _ => .stuck
  | _ => .stuck
noncomputable def cForItems (fd : DE) (tg : Tg) (b : DS) : DS := fun ρ S => match fd ρ S with
  | .ok (.ref n) _ => match S[n]? with
    | some (.dic kvs) => unlO n (toS (fd ρ (S.set n (.ldic kvs))) ρ fun d S1 => match d with
      | .ref m => if m = n then forL (itItems n) tg b big 0 ρ S1 else .stuck
      | _ => .stuck)
    | _ => .stuck
  | _ => .stuck
section
variable {X : Cx} {C : Nat → Addr} {W : WX} {k j n : Nat} {e o i a b value tge : Expr} {elts es : List Expr} {f g fo fi fe fk fv fd : DE} {l : DL} {kk : Nat} {pos p p2 p3 apos cpos tpos : Pos} {st : Stmt} {body : List Stmt} {cb : DS} {tg : Tg}
/-- a thing of the store is locked -/
theorem SR.lock {μ : Mu} {S : Sto} {H : Hp} (sr : SR X.K C μ S H) {n : Nat} {ad : Addr} {kvs : Kd} {kws : List (Key × V)} (ha : μ.tr[n]? = some ad) (h : H ad = some (.dK kws)) (r : KRs X.K H μ kvs kws) (od : Obj) :
    Aft X.K μ H μ (L2.upd H ad (.frz od (.dK kws))) ∧ SR X.K C μ (S.set n (.ldic kvs)) (L2.upd H ad (.frz od (.dK kws))) := by
  have so : Soft (H ad) := by rw [h]; exact True.intro
  have af : Aft X.K μ H μ (L2.upd H ad (.frz od (.dK kws))) := sr.put_aft ha so
  exact ⟨af, sr.put (o := .ldic kvs) ha so ⟨od, kws, rfl, r.mono af⟩⟩
/-- .. and opened -/
theorem SR.unlock {μ μ' : Mu} {S' : Sto} {H H' : Hp} {n : Nat} {ad : Addr} {kvs : Kd} {kws : List (Key × V)} {od : Obj} (ha : μ.tr[n]? = some ad) (h : H ad = some (.dK kws)) (a : Aft X.K μ (L2.upd H ad (.frz od (.dK kws))) μ' H')
    (s : SR X.K C μ' S' H') (e : S'[n]? = some (.ldic kvs)) : H' ad = some (.frz od (.dK kws)) ∧ Aft X.K μ H μ' (L2.upd H' ad (.dK kws)) ∧ SR X.K C μ' (S'.set n (.dic kvs)) (L2.upd H' ad (.dK kws)) ∧ (∀ d v, VR X.K H' μ' d v → VR X.K (L2.upd H' ad (.dK kws)) μ' d v) := by
  have e1 : H' ad = some (.frz od (.dK kws)) := a.aw.frz ad od _ upd_same
  have ha' : μ'.tr[n]? = some ad := a.at ha
  have af : Aft X.K μ H μ' (L2.upd H' ad (.dK kws)) := a.unlock (List.mem_of_getElem? ha) (by rw [h]; exact True.intro) (by rw [h]; exact Option.some_ne_none _)
  obtain ⟨ho, e2, od2, kws2, e3, r⟩ := s.ob n _ ad e ha'
  rw [e1] at e2
  cases e2
  cases e3
  -- values do not see it
  have nt : ¬ μ'.out ad := fun z => z.1 (List.mem_of_getElem? ha')
  have aw : Aw X.K μ' H' μ' (L2.upd H' ad (.dK kws)) ∨ True := .inr trivial
  have vr : ∀ d v, VR X.K H' μ' d v → VR X.K (L2.upd H' ad (.dK kws)) μ' d v := by
    have tup : ∀ x xs, SqT X.K H' x xs → SqT X.K (L2.upd H' ad (.dK kws)) x xs := fun x xs q => by
      rcases q with (q | ⟨ob, q⟩) | q
      · have : x ≠ ad := by rintro rfl; rw [e1] at q; cases q
        exact .inl (.inl (by rw [upd_ne this]; exact q))
      · have : x ≠ ad := by rintro rfl; rw [e1] at q; cases q
        exact .inl (.inr ⟨ob, by rw [upd_ne this]; exact q⟩)
      · exact .inr q
    have fz : ∀ x xs, Fzl X.K H' μ' x xs → Fzl X.K (L2.upd H' ad (.dK kws)) μ' x xs := fun x xs q => by
      rcases q with ⟨ob, q⟩ | q | ⟨q, z⟩
      · have : x ≠ ad := by rintro rfl; rw [e1] at q; cases q
        exact .inl ⟨ob, by rw [upd_ne this]; exact q⟩
      · exact .inr (.inl q)
      · have : x ≠ ad := by rintro rfl; exact nt z
        exact .inr (.inr ⟨by rw [upd_ne this]; exact q, z⟩)
    have ob : ∀ x c dx gs, μ'.out x → H' x = some (.ins (clsA X.K c) dx gs) → L2.upd H' ad (.dK kws) x = some (.ins (clsA X.K c) dx gs) := fun x c dx gs z q => by
      rw [upd_ne]
      · exact q
      · rintro rfl; exact nt z
    exact fun d v => VR.chg tup fz ob
  have krs : ∀ {κ : Type} (l : List (κ × Dv)) (m : List (κ × V)), KRs X.K H' μ' l m → KRs X.K (L2.upd H' ad (.dK kws)) μ' l m := by
    intro κ l
    induction l with
    | nil => intro m h; exact h
    | cons q l ih =>
      intro m h
      obtain ⟨k1, d1⟩ := q
      obtain ⟨v, t, e, h1, h2⟩ := h
      exact ⟨v, t, e, vr _ _ h1, ih t h2⟩
  have vrs : ∀ ds vs, VRs X.K H' μ' ds vs → VRs X.K (L2.upd H' ad (.dK kws)) μ' ds vs := fun ds => by
    induction ds with
    | nil => intro vs h; simpa [VRs] using h
    | cons d ds ih =>
      intro vs h
      obtain ⟨v, r, e, h1, h2⟩ := VRs_cons.mp h
      exact VRs_cons.mpr ⟨v, r, e, vr _ _ h1, ih r h2⟩
  refine ⟨e1, af, ⟨by simpa using s.len, s.nd, fun x hx => ?_, s.apart, fun m q x f1 f2 => ?_⟩, vr⟩
  · by_cases ex : x = ad
    · subst ex
      exact absurd (List.mem_of_getElem? ha') (s.apart x hx)
    · rw [upd_ne ex]
      exact s.hids x hx
  · by_cases em : m = n
    · subst em
      have hl : m < S'.length := (List.getElem?_eq_some_iff.mp e).1
      rw [List.getElem?_set_self hl] at f1
      rw [ha'] at f2
      cases f1
      cases f2
      exact ⟨_, upd_same, kws, rfl, krs _ _ r⟩
    · rw [List.getElem?_set_ne (Ne.symm em)] at f1
      obtain ⟨hq, g1, g2⟩ := s.ob m q x f1 f2
      have nx : x ≠ ad := by
        rintro rfl
        exact em (SR.put.nodup_ix' s.nd f2 ha')
      refine ⟨hq, by rw [upd_ne nx]; exact g1, ?_⟩
      cases q with
      | lst ds => obtain ⟨vs, e, r⟩ := g2; exact ⟨vs, e, vrs _ _ r⟩
      | dic ds => obtain ⟨vs, e, r⟩ := g2; exact ⟨vs, e, krs _ _ r⟩
      | ldic ds => obtain ⟨o1, vs, e, r⟩ := g2; exact ⟨o1, vs, e, krs _ _ r⟩
      | ins c ds => obtain ⟨o1, vs, e, r⟩ := g2; exact ⟨o1, vs, e, krs _ _ r⟩
/-- the walk of the locked pairs -/
theorem jm_items {μ : Mu} {S : Sto} {H : Hp} {n : Nat} {ad : Addr} {kws : List (Key × V)} {od : Obj} (ha : μ.tr[n]? = some ad) (h : H ad = some (.frz od (.dK kws))) : Jm X.K C μ H (itItems n) (Iti ad od kws) := by
  intro μ1 S1 H1 af sr i
  have e1 : H1 ad = some (.frz od (.dK kws)) := af.frz ad od _ h
  simp only [itItems]
  split
  · rename_i heq
    split at heq
    · rename_i kvs e2
      simp only [Option.some.injEq, Option.map_eq_none_iff] at heq
      obtain ⟨ho, e3, od2, kws2, e4, r⟩ := sr.ob n _ ad e2 (af.at ha)
      rw [e1] at e3
      cases e3
      cases e4
      have g := r.get (i := i)
      rw [heq] at g
      exact ⟨e1, g⟩
    · cases heq
  · rename_i d heq
    split at heq
    · rename_i kvs e2
      obtain ⟨ho, e3, od2, kws2, e4, r⟩ := sr.ob n _ ad e2 (af.at ha)
      rw [e1] at e3
      cases e3
      cases e4
      simp only [Option.some.injEq, Option.map_eq_some_iff] at heq
      obtain ⟨⟨k1, d1⟩, e5, rfl⟩ := heq
      have g := r.get (i := i)
      rw [e5] at g
      obtain ⟨v1, g1, g2⟩ := g
      refine ⟨⟨e1, (List.getElem?_eq_some_iff.mp g1).1⟩, fun x H' y => ?_⟩
      obtain ⟨T, k2, v2, y1, rfl, y2, rfl⟩ := y
      rw [g1] at y1
      cases y1
      have af2 : Aft X.K μ1 H1 μ1 (L2.upd H1 T (.tup [kV k1, v1])) := Aft.new y2
      exact ⟨af2, sr.lay y2, VR_tup.mpr ⟨T, _, rfl, SqT.of upd_same, VRs_cons.mpr ⟨_, _, rfl, keyD_V, VRs_cons.mpr ⟨_, _, rfl, g2.mono af2, VRs_nil.mpr rfl⟩⟩⟩⟩
    · cases heq
  · trivial
theorem ss_forItems (c : Ctx X W k) (he : SE X C W e fd) (hg : SG X C (.Tuple elts kk tpos) tg) (hb : SSs X C W body cb) (hbase : attributeBase e "items" X.env (eval e X.env) = eval e X.env := by rfl) (hline : (apos.endLine == cpos.line) = true := by rfl)
    (hs : ∀ x, foldedSetIterable (.Call (.Attribute e "items" apos) [] [] cpos) X.env x = pure x := by intro _; rfl) :
    SS X C W (.For (.Tuple elts kk tpos) (.Call (.Attribute e "items" apos) [] [] cpos) body [] pos) (cForItems fd tg cb) := by
  refine ⟨ps_imp (ps_lock (ps_for c.pass c.calm (pi_items he.pe hbase hline) hg.pg hb.ps hs)) fun D σ H q => ?_⟩
  obtain ⟨μ, ρ, S, rl, q⟩ := q
  unfold cForItems at q
  split at q
  · rename_i n S0 e0
    split at q
    · rename_i kvs e1
      obtain ⟨ad, ha0⟩ : ∃ ad, μ.tr[n]? = some ad := by
        have hn : n < μ.tr.length := by rw [rl.sr.len]; exact (List.getElem?_eq_some_iff.mp e1).1
        exact ⟨_, List.getElem?_eq_getElem hn⟩
      obtain ⟨ho, e3, kws, rfl, r⟩ := rl.sr.ob n _ ad e1 ha0
      refine ⟨ad, .dK kws, e3, True.intro, fun od => ?_⟩
      obtain ⟨af, sL⟩ := rl.sr.lock ha0 e3 r od
      have rlL : Rl X.K C μ ρ (S.set n (.ldic kvs)) σ (L2.upd H ad (.frz od (.dK kws))) := rl.next af sL
      -- what is wanted behind the loop
      have back : ∀ (r2 : Res Out) (μ1 : Mu) (H1 : Hp), tSt X.K C W (unlO n r2) μ H D → Aft X.K μ (L2.upd H ad (.frz od (.dK kws))) μ1 H1 → tSt X.K C W r2 μ1 H1 ⟨fun σ' H' => H' ad = some (.frz od (.dK kws)) ∧ D.nx σ' (L2.upd H' ad (.dK kws)), fun v H' => H' ad = some (.frz od (.dK kws)) ∧ D.rt v (L2.upd H' ad (.dK kws)),
          fun σ' H' => H' ad = some (.frz od (.dK kws)) ∧ D.bk σ' (L2.upd H' ad (.dK kws)), fun σ' H' => H' ad = some (.frz od (.dK kws)) ∧ D.ct σ' (L2.upd H' ad (.dK kws))⟩ := by
        intro r2 μ1 H1 q2 b
        have fin : ∀ {ρ' : Ev} {S' : Sto} {kv' : Kd} {μ' : Mu} {σ' : L2.St} {H' : Hp}, S'[n]? = some (.ldic kv') → Aft X.K μ1 H1 μ' H' → Rl X.K C μ' ρ' S' σ' H' → H' ad = some (.frz od (.dK kws)) ∧ Aft X.K μ H μ' (L2.upd H' ad (.dK kws)) ∧ Rl X.K C μ' ρ' (S'.set n (.dic kv')) σ' (L2.upd H' ad (.dK kws)) := fun es a2 rl2 => by
          obtain ⟨g1, g2, g3, g4⟩ := SR.unlock ha0 e3 (b.trans a2) rl2.sr es
          refine ⟨g1, g2, g3, rl2.len, fun i d ei => ?_⟩
          obtain ⟨v, h1, h2⟩ := rl2.sl i d ei
          exact ⟨v, h1, g4 _ _ h2⟩
        cases r2 with
        | stuck => exact q2
        | exn c S' => exact q2.elim
        | ok o S' =>
          cases o with
          | ex c ρ' => exact q2.elim
          | nx ρ' =>
            simp only [unlO] at q2
            split at q2
            · rename_i kv' es
              intro μ' σ' H' a2 rl2
              obtain ⟨g1, g2, g3⟩ := fin es a2 rl2
              exact ⟨g1, q2 μ' σ' _ g2 g3⟩
            · exact q2.elim
          | bk ρ' =>
            simp only [unlO] at q2
            split at q2
            · rename_i kv' es
              intro μ' σ' H' a2 rl2
              obtain ⟨g1, g2, g3⟩ := fin es a2 rl2
              exact ⟨g1, q2 μ' σ' _ g2 g3⟩
            · exact q2.elim
          | ct ρ' =>
            simp only [unlO] at q2
            split at q2
            · rename_i kv' es
              intro μ' σ' H' a2 rl2
              obtain ⟨g1, g2, g3⟩ := fin es a2 rl2
              exact ⟨g1, q2 μ' σ' _ g2 g3⟩
            · exact q2.elim
          | rt d =>
            simp only [unlO] at q2
            split at q2
            · rename_i kv' es
              intro μ' H' v a2 s2 vr2
              obtain ⟨g1, g2, g3, g4⟩ := SR.unlock ha0 e3 (b.trans a2) s2 es
              exact ⟨g1, q2 μ' _ v g2 g3 (g4 _ _ vr2)⟩
            · exact q2.elim
      refine ⟨μ, ρ, S.set n (.ldic kvs), rlL, ?_⟩
      cases hf : fd ρ (S.set n (.ldic kvs)) with
      | stuck => rw [hf] at q; exact q.elim
      | exn cc S1 => rw [hf] at q; exact q.elim
      | ok d S1 =>
        rw [hf] at q
        simp only [toS_ok] at q
        split at q
        · rename_i m
          split at q
          · rename_i em
            subst em
            intro μ1 H1 v a1 s1 vr1
            obtain ⟨ad9, ha1, rfl⟩ := VR_ref.mp vr1
            have hz := a1.at ha0
            rw [ha1] at hz
            cases hz
            have h1 : H1 ad = some (.frz od (.dK kws)) := a1.aw.frz ad od _ upd_same
            refine ⟨ad, od, kws, rfl, h1, ?_⟩
            have jm : Jm X.K C μ1 H1 (itItems m) (Iti ad od kws) := jm_items (S := S1) ha1 h1
            have qb := back _ μ1 H1 q a1
            refine ⟨fun i m2 σ H => ∃ μ ρ S, Aft X.K μ1 H1 μ H ∧ Rl X.K C μ ρ S σ H ∧ tSt X.K C W (forL (itItems m) tg cb m2 i ρ S) μ H _, ⟨big, μ1, ρ, S1, Aft.refl, rlL.next a1 s1, qb⟩, ?_⟩
            rintro i m2 σ2 H2 ⟨μ2, ρ2, S2, a2, rl2, q2⟩
            cases m2 with
            | zero => exact q2.elim
            | succ m2 =>
              have jj := jm μ2 S2 H2 a2.aw rl2.sr i
              unfold forL at q2
              cases e1 : itItems m S2 i with
              | none => rw [e1] at q2; exact q2.elim
              | some o =>
                rw [e1] at q2 jj
                cases o with
                | none => exact .inl ⟨jj, q2 μ2 σ2 H2 Aft.refl rl2⟩
                | some d =>
                  obtain ⟨j1, j2⟩ := jj
                  cases e2 : tg.asg d ρ2 with
                  | none => simp only [e2] at q2; exact q2.elim
                  | some ρ3 =>
                    simp only [e2] at q2
                    refine .inr ⟨j1, fun σ' H' => ∃ μ ρ S, Aft X.K μ1 H1 μ H' ∧ Rl X.K C μ ρ S σ' H' ∧ tSt X.K C W (forL (itItems m) tg cb m2 (i + 1) ρ S) μ H' _, fun σ' H' z => ⟨m2, Nat.lt_succ_self _, z⟩, fun x H3 y => ?_⟩
                    obtain ⟨a3, s3, vr3⟩ := j2 x H3 y
                    refine ⟨μ2, ρ2, S2, d, ρ3, rl2.next a3 s3, vr3, e2, fun σ4 _ rl4 => ⟨μ2, ρ3, S2, rl4, ?_⟩⟩
                    cases hr : cb ρ3 S2 with
                    | ok o S' =>
                      rw [hr] at q2
                      cases o with
                      | nx ρ1 => exact fun μ' σ' H' a rl' => ⟨μ', ρ1, S', (a2.trans a3).trans a, rl', tSt.aft (r := forL (itItems m) tg cb m2 (i + 1) ρ1 S') q2 (a3.trans a)⟩
                      | ct ρ1 => exact fun μ' σ' H' a rl' => ⟨μ', ρ1, S', (a2.trans a3).trans a, rl', tSt.aft (r := forL (itItems m) tg cb m2 (i + 1) ρ1 S') q2 (a3.trans a)⟩
                      | rt d => exact fun μ' H' v a => q2 μ' H' v (a3.trans a)
                      | bk d => exact fun μ' σ' H' a => q2 μ' σ' H' (a3.trans a)
                      | ex c d => exact fun μ' σ' H' a => q2 μ' σ' H' (a3.trans a)
                    | exn c S' => rw [hr] at q2; exact q2
                    | stuck => rw [hr] at q2; exact q2
          · exact q.elim
        · exact q.elim
    · exact q.elim
  · exact q.elim
/-! ### an expression while a dict is locked -/
def unlE (n : Nat) (r : Res Dv) : Res Dv := match r with
  | .ok d S' => match S'[n]? with
    | some (.ldic kvs) => .ok d (S'.set n (.dic kvs))
    | _ => .stuck
  | _ => .stuck
def eLockD (fd g : DE) : DE := fun ρ S => match fd ρ S with
  | .ok (.ref n) _ => match S[n]? with
    | some (.dic kvs) => unlE n (g ρ (S.set n (.ldic kvs)))
    | _ => .stuck
  | _ => .stuck
theorem se_lock (fd : DE) (he : SE X C W e g) : SE X C W e (eLockD fd g) := by
  refine ⟨pe_imp (pe_lock he.pe) fun σ H Q q => ?_⟩
  obtain ⟨μ, ρ, S, rl, q⟩ := q
  unfold eLockD at q
  split at q
  · rename_i n S0 e0
    split at q
    · rename_i kvs e1
      obtain ⟨ad, ha0⟩ : ∃ ad, μ.tr[n]? = some ad := by
        have hn : n < μ.tr.length := by rw [rl.sr.len]; exact (List.getElem?_eq_some_iff.mp e1).1
        exact ⟨_, List.getElem?_eq_getElem hn⟩
      obtain ⟨ho, e3, kws, rfl, r⟩ := rl.sr.ob n _ ad e1 ha0
      refine ⟨ad, .dK kws, e3, True.intro, fun od => ?_⟩
      obtain ⟨af, sL⟩ := rl.sr.lock ha0 e3 r od
      refine ⟨μ, ρ, S.set n (.ldic kvs), rl.next af sL, ?_⟩
      cases hf : g ρ (S.set n (.ldic kvs)) with
      | stuck => rw [hf] at q; exact q.elim
      | exn cc S1 => rw [hf] at q; exact q.elim
      | ok d S1 =>
        rw [hf] at q
        simp only [unlE] at q
        split at q
        · rename_i kv' es
          intro μ' H' v a2 s2 vr2
          obtain ⟨g1, g2, g3, g4⟩ := SR.unlock ha0 e3 a2 s2 es
          exact ⟨g1, q μ' _ v g2 g3 (g4 _ _ vr2)⟩
        · exact q.elim
    · exact q.elim
  · exact q.elim
def iItemsL (fd : DE) : DI := fun ρ S => (fd ρ S).bd fun d S1 => match d with
  | .ref n => match S1[n]? with
    | some (.ldic _) => .ok (itItems n) S1
    | _ => .stuck
  | _ => .stuck
theorem si_itemsL (he : SE X C W e fd) (hbase : attributeBase e "items" X.env (eval e X.env) = eval e X.env := by rfl) (hline : (apos.endLine == cpos.line) = true := by rfl) : SI X C W (.Tuple elts kk tpos) (.Call (.Attribute e "items" apos) [] [] cpos) (iItemsL fd) := by
  refine ⟨pi_imp (pi_items he.pe hbase hline) fun σ H R q => ?_⟩
  obtain ⟨μ, ρ, S, rl, q⟩ := q
  refine ⟨μ, ρ, S, rl, (tR.bd q).imp fun v H1 q1 => ?_⟩
  obtain ⟨μ1, S1, d, a1, s1, vr, q1⟩ := q1
  split at q1
  · rename_i n
    split at q1
    · rename_i kvs e1
      obtain ⟨ad, ha, rfl⟩ := VR_ref.mp vr
      obtain ⟨ho, e3, od, kws, rfl, r⟩ := s1.ob n _ ad e1 ha
      exact ⟨ad, od, kws, rfl, e3, q1 μ1 H1 _ Aft.refl s1 (jm_items (S := S1) ha e3)⟩
    · exact q1.elim
  · exact q1.elim
/-! ### {k: v for ..} -/
def dcV (it : Itf) (tg : Tg) (fk fv : DE) (ρ : Ev) : Nat → Nat → Kd → Sto → Res Dv
  | 0, _, _, _ => .stuck
  | m + 1, i, acc, S => match it S i with
    | none => .stuck
    | some none => .ok (.ref S.length) (S ++ [.dic acc])
    | some (some d) => match tg.asg d ρ with
      | none => .stuck
      | some ρ2 => (fk ρ2 S).bdN fun y S1 => (fv ρ2 S1).bdN fun z S2 => match keyOf y with
        | some k => if acc.length < lim then dcV it tg fk fv ρ m (i + 1) (putKD acc k z) S2 else .stuck
        | none => .stuck
noncomputable def eDc (fi : DI) (tg : Tg) (fk fv : DE) (vs : List Nat) : DE := fun ρ S => (fi ρ S).bd fun it S1 => dcV it tg fk fv (wipeD ρ vs) big 0 [] S1
/-- a place that was hidden becomes the store's next thing -/
theorem SR.adopt2 {μ : Mu} {S : Sto} {H : Hp} {l : List Addr} (s : SR X.K C μ S H) {p : Addr} {o : Ob} {ho : HO} (vr : ∀ d v, VR X.K H μ d v → VR X.K H ⟨μ.tr ++ [p], l⟩ d v) (h : H p = some ho) (n1 : p ∉ μ.tr) (hl : ∀ x ∈ l, x ∈ μ.hd) (n2 : p ∉ l)
    (r : OR X.K C H ⟨μ.tr ++ [p], l⟩ o ho) : SR X.K C ⟨μ.tr ++ [p], l⟩ (S ++ [o]) H := by
  have krs : ∀ {κ : Type} (l2 : List (κ × Dv)) (m : List (κ × V)), KRs X.K H μ l2 m → KRs X.K H ⟨μ.tr ++ [p], l⟩ l2 m := by
    intro κ l2
    induction l2 with
    | nil => intro m h; exact h
    | cons q l2 ih =>
      intro m h
      obtain ⟨k1, d1⟩ := q
      obtain ⟨v, t, e, h1, h2⟩ := h
      exact ⟨v, t, e, vr _ _ h1, ih t h2⟩
  have vrs : ∀ ds vs, VRs X.K H μ ds vs → VRs X.K H ⟨μ.tr ++ [p], l⟩ ds vs := fun ds => by
    induction ds with
    | nil => intro vs h; simpa [VRs] using h
    | cons d ds ih =>
      intro vs h
      obtain ⟨v, r, e, h1, h2⟩ := VRs_cons.mp h
      exact VRs_cons.mpr ⟨v, r, e, vr _ _ h1, ih r h2⟩
  refine ⟨by simp [s.len], ?_, fun x hx => s.hids x (hl x hx), fun x hx => ?_, fun n q x h1 h2 => ?_⟩
  · rw [List.nodup_append]
    refine ⟨s.nd, by simp, fun x hx y hy e => ?_⟩
    simp at hy
    subst hy e
    exact n1 hx
  · simp only [List.mem_append, not_or]
    refine ⟨s.apart x (hl x hx), fun z => ?_⟩
    simp at z
    subst z
    exact n2 hx
  · by_cases hn : n < S.length
    · rw [List.getElem?_append_left hn] at h1
      rw [List.getElem?_append_left (by rw [s.len]; exact hn)] at h2
      obtain ⟨hq, e, r2⟩ := s.ob n q x h1 h2
      refine ⟨hq, e, ?_⟩
      cases q with
      | lst ds => obtain ⟨vs, e, r⟩ := r2; exact ⟨vs, e, vrs _ _ r⟩
      | dic ds => obtain ⟨vs, e, r⟩ := r2; exact ⟨vs, e, krs _ _ r⟩
      | ldic ds => obtain ⟨o1, vs, e, r⟩ := r2; exact ⟨o1, vs, e, krs _ _ r⟩
      | ins c ds => obtain ⟨o1, vs, e, r⟩ := r2; exact ⟨o1, vs, e, krs _ _ r⟩
    · have e : n = S.length := by
        have := (List.getElem?_eq_some_iff.mp h1).1
        simp at this
        omega
      subst e
      rw [List.getElem?_append_right (Nat.le_refl _)] at h1
      rw [List.getElem?_append_right (by rw [s.len]; exact Nat.le_refl _), s.len] at h2
      simp at h1 h2
      subst h1 h2
      exact ⟨ho, h, r⟩
theorem dcV_go {scope : Scope} {own : List (Str × Nat)} {fi : DI} {σ : L2.St} {H : Hp} {Q : VK} {vs : List Nat} (hsl : ∀ i ∈ tg.slots, i ∈ vs) (q : tG X.K C W (PV X.K) (eDc fi tg fk fv vs) σ H Q) :
    tDc (tG X.K C W (Jm X.K C) fi) (tTg X.K C tg) (tG X.K C W0 PB tTrue) (tG X.K C W0 (PV X.K) fk) (tG X.K C W0 (PV X.K) fv) vs σ H Q := by
  obtain ⟨μ, ρ, S, rl, q⟩ := q
  refine ⟨μ, ρ, S, rl, (tR.bd q).imp fun J H1 q1 => ?_⟩
  obtain ⟨μ1, S1, it, a1, s1, jm, q1⟩ := q1
  intro D hD
  have nD : D ∉ μ1.tr := s1.notin hD
  have hD2 : D ∉ μ1.hd := fun z => s1.hids D z hD
  let I : Nat → Nat → Hp → Prop := fun i m H => ∃ μ S acc av, μ.hd = D :: μ1.hd ∧ D ∉ μ.tr ∧ Aw X.K μ1 H1 μ H ∧ Aft X.K μ1 H1 ⟨μ.tr, μ1.hd⟩ H ∧ SR X.K C μ S H ∧ H D = some (.dK av) ∧ KRs X.K H μ acc av ∧ tR X.K C W (PV X.K) (dcV it tg fk fv (wipeD ρ vs) m i acc S) μ1 σ H1 Q
  have hS : SR X.K C (μ1.hide D) S1 (L2.upd H1 D (.dK [])) := by
    refine s1.keepw (Aw.hide hD) rfl (fun n x e => upd_ne ?_) fun x hx => ?_
    · rintro rfl
      exact nD (List.mem_of_getElem? e)
    · rcases List.mem_cons.mp hx with rfl | z
      · rw [upd_same]
        exact ⟨Option.some_ne_none _, nD⟩
      · exact ⟨(Aft.new (K := X.K) (μ := μ1) (o := .dK []) hD).aw.there x (s1.hids x z), s1.apart x z⟩
  refine ⟨I, ⟨big, μ1.hide D, S1, [], [], rfl, nD, Aw.hide hD, Aft.new hD, hS, upd_same, rfl, q1⟩, ?_⟩
  rintro i m H2 ⟨μ2, S2, acc, av, eh, nD2, a2, b2, s2, hd2, vacc, q2⟩
  cases m with
  | zero => exact q2.elim
  | succ m =>
    have jj := jm μ2 S2 H2 a2 s2 i
    unfold dcV at q2
    cases e1 : it S2 i with
    | none => simp only [e1] at q2; exact q2.elim
    | some o =>
      simp only [e1] at q2 jj
      -- the place is taken into the store
      have ad : Aw X.K μ2 H2 ⟨μ2.tr ++ [D], μ1.hd⟩ H2 ∨ True := .inr trivial
      cases o with
      | none =>
        have chg : ∀ d v, VR X.K H2 μ2 d v → VR X.K H2 ⟨μ2.tr ++ [D], μ1.hd⟩ d v := fun d v h => by
          refine VR.mu (fun n x e => ?_) (fun x z => ?_) h
          · show (μ2.tr ++ [D])[n]? = some x
            rw [List.getElem?_append_left (List.getElem?_eq_some_iff.mp e).1]
            exact e
          · refine ⟨fun hm => ?_, fun hm => z.2 (by rw [eh]; exact List.mem_cons_of_mem _ hm)⟩
            rcases List.mem_append.mp hm with y | y
            · exact z.1 y
            · simp at y
              subst y
              exact z.2 (by rw [eh]; exact List.mem_cons_self)
        have uh : Aw X.K μ2 H2 ⟨μ2.tr, μ1.hd⟩ H2 := Aw.unhide fun x hx => by rw [eh]; exact List.mem_cons_of_mem _ hx
        refine .inl ⟨jj, ?_⟩
        have krs : ∀ (l : Kd) (m : List (Key × V)), KRs X.K H2 μ2 l m → KRs X.K H2 ⟨μ2.tr ++ [D], μ1.hd⟩ l m := by
          intro l
          induction l with
          | nil => intro m h; exact h
          | cons q l ih =>
            intro m h
            obtain ⟨k1, d1⟩ := q
            obtain ⟨v, t, e, h1, h2⟩ := h
            exact ⟨v, t, e, chg _ _ h1, ih t h2⟩
        have sD : SR X.K C ⟨μ2.tr ++ [D], μ1.hd⟩ (S2 ++ [.dic acc]) H2 := by
          refine SR.adopt2 s2 chg hd2 nD2 (fun x hx => ?_) hD2 ⟨av, rfl, krs _ _ vacc⟩
          rw [eh]
          exact List.mem_cons_of_mem _ hx
        have aD : Aft X.K μ1 H1 ⟨μ2.tr ++ [D], μ1.hd⟩ H2 := by
          obtain ⟨ν, e2, e3⟩ := b2.aw.pre
          refine ⟨⟨⟨ν ++ [D], ?_, ?_⟩, fun x o n e => b2.aw.hd x o n e, b2.aw.keep, b2.aw.there, b2.aw.tup, b2.aw.frz⟩, rfl, b2.all⟩
          · rw [show μ2.tr = _ from e2, List.append_assoc]
          · intro x hx
            rcases List.mem_append.mp hx with z | z
            · exact e3 x z
            · simp at z
              subst z
              exact hD
        refine q2 ⟨μ2.tr ++ [D], μ1.hd⟩ H2 _ aD sD (VR_ref.mpr ⟨D, ?_, rfl⟩)
        show (μ2.tr ++ [D])[S2.length]? = some D
        rw [List.getElem?_append_right (by rw [s2.len]; exact Nat.le_refl _), s2.len]
        simp
      | some d =>
        obtain ⟨j1, j2⟩ := jj
        cases e2 : tg.asg d (wipeD ρ vs) with
        | none => simp only [e2] at q2; exact q2.elim
        | some ρ3 =>
          simp only [e2] at q2
          refine .inr ⟨j1, I (i + 1) m, fun H' z => ⟨m, Nat.lt_succ_self _, z⟩, fun x H3 y => ?_⟩
          obtain ⟨a3, s3, vr3⟩ := j2 x H3 y
          have rlw : Rl X.K C μ2 (wipeD ρ vs) S2 (L2.wipe σ vs) H3 := (rl.weak ((a1.aw.trans a2).trans a3.aw) s3).wipe vs
          have b3 := b2.trans (a3.unh μ1.hd)
          refine ⟨μ2, wipeD ρ vs, S2, d, ρ3, rlw, vr3, e2, fun σ4 hw rl4 => ⟨?_, μ2, ρ3, S2, rl4, ?_⟩⟩
          · have h1 := hw vs hsl
            have h2 : L2.wipe (L2.wipe σ vs) vs = L2.wipe σ vs := by
              apply List.ext_getElem?
              intro j
              rw [wipe_get, wipe_get]
              by_cases hj : j ∈ vs
              · rw [if_pos hj, if_pos hj]
                cases σ[j]? <;> rfl
              · rw [if_neg hj, if_neg hj]
            rw [h1, h2]
          · intro μ5 H5 cc a5 s5 ec
            cases (show true = cc from ec)
            rw [if_pos rfl]
            have e3 : H3 D = some (.dK av) := a3.all D _ nD2 hd2
            have e5 : H5 D = some (.dK av) := a5.all D _ nD2 e3
            have nD5 : D ∉ μ5.tr := a5.aw.outTr nD2 e3
            have b5 := b3.trans (a5.unh μ1.hd)
            refine ⟨μ5, ρ3, S2, rl4.next a5 s5, ?_⟩
            cases hk : fk ρ3 S2 with
            | exn c S' => rw [hk] at q2; exact q2.elim
            | stuck => rw [hk] at q2; exact q2.elim
            | ok y6 S6 =>
              rw [hk] at q2
              simp only [Res.bdN_ok] at q2
              intro μ6 H6 yv a6 s6 vr6
              have b6 := b5.trans (a6.unh μ1.hd)
              have nD6 : D ∉ μ6.tr := a6.aw.outTr nD5 e5
              have e6 : H6 D = some (.dK av) := a6.all D _ nD5 e5
              refine ⟨μ6, ρ3, S6, (rl4.next a5 s5).next a6 s6, ?_⟩
              cases hv : fv ρ3 S6 with
              | exn c S' => rw [hv] at q2; exact q2.elim
              | stuck => rw [hv] at q2; exact q2.elim
              | ok z7 S7 =>
                rw [hv] at q2
                simp only [Res.bdN_ok] at q2
                intro μ7 H7 zv a7 s7 vr7
                have b7 := b6.trans (a7.unh μ1.hd)
                have nD7 : D ∉ μ7.tr := a7.aw.outTr nD6 e6
                have e7 : H7 D = some (.dK av) := a7.all D _ nD6 e6
                have eh7 : μ7.hd = D :: μ1.hd := a7.hid.trans (a6.hid.trans (a5.hid.trans eh))
                have vacc7 : KRs X.K H7 μ7 acc av := vacc.mono (((a3.trans a5).trans a6).trans a7)
                cases hkey : keyOf y6 with
                | none => rw [hkey] at q2; exact q2.elim
                | some kk =>
                  rw [hkey] at q2
                  simp only at q2
                  by_cases hl : acc.length < lim
                  · rw [if_pos hl] at q2
                    have aw8 : Aw X.K μ7 H7 μ7 (L2.upd H7 D (.dK (putK av kk zv))) := Aw.upd (by rw [e7]; trivial) (.inl fun z => z.2 (by rw [eh7]; exact List.mem_cons_self))
                    refine ⟨av, kk, keyOf_V hkey vr6, e7, by rw [← vacc7.length]; exact Nat.lt_of_lt_of_le hl lim_line, μ7, S7, putKD acc kk z7, putK av kk zv, eh7, nD7, (a2.trans (((a3.trans a5).trans a6).trans a7).aw).trans aw8, b7.patch hD, ?_, upd_same, ?_, q2⟩
                    · refine s7.keepw aw8 rfl (fun n x e => upd_ne ?_) fun x hx => ⟨aw8.there x (s7.hids x hx), s7.apart x hx⟩
                      rintro rfl
                      exact nD7 (List.mem_of_getElem? e)
                    · exact (vacc7.weak aw8).putK (VR.weak aw8 vr7)
                  · rw [if_neg hl] at q2
                    exact q2.elim
theorem se_dc {kx vx iter : Expr} {scope : Scope} {own : List (Str × Nat)} {fi : DI} (c : Ctx X W k) (hi : SI X C W tge iter fi) (ok : BlkOk X.N X.env.scope scope own) (hsl : ∀ i ∈ tg.slots, i ∈ own.map (·.2))
    (hg : ∀ (s : Shared) (H : Hp) (C' : Addr) (cl : List (Str × Addr)) (fp : List Addr), SG (X.blk s H scope (compEnvC scope cl C' X.env) fp) C tge tg)
    (hk : ∀ (s : Shared) (H : Hp) (C' : Addr) (cl : List (Str × Addr)) (fp : List Addr), SE (X.blk s H scope (compEnvC scope cl C' X.env) fp) C W0 kx fk)
    (he : ∀ (s : Shared) (H : Hp) (C' : Addr) (cl : List (Str × Addr)) (fp : List Addr), SE (X.blk s H scope (compEnvC scope cl C' X.env) fp) C W0 vx fv)
    (hs : ∀ x, foldedSetIterable iter X.env x = pure x := by intro _; rfl) : SE X C W (.DictComp kx vx [⟨tge, iter, [], 0⟩] scope pos) (eDc fi tg fk fv (own.map (·.2))) :=
  ⟨pe_imp (pe_dc (g := tTg X.K C tg) (tt := tG X.K C W0 PB tTrue) (tk := tG X.K C W0 (PV X.K) fk) (tv := tG X.K C W0 (PV X.K) fv) c.calm c.nd hi.pi ok (fun s H C' cl fp => (hg s H C' cl fp).pg) (fun s H C' cl fp => (sts_nil (X := X.blk s H scope (compEnvC scope cl C' X.env) fp) (C := C) (W := W0)).pts) (fun s H C' cl fp => (hk s H C' cl fp).pe) (fun s H C' cl fp => (he s H C' cl fp).pe) hs) fun _ _ _ q => dcV_go (scope := scope) (own := own) hsl q⟩
end
end Fc

set_option exponentiation.threshold 256
set_option maxHeartbeats 4000000
set_option maxHeartbeats 4000000
/-! FcSub: a[i], b[j] = e. -/
namespace Fc
open PySem L2
/-- o[i] = d, a list of the store -/
def stoL (o i d : Dv) (S : Sto) : Option Sto := match o, i with
  | .ref n, .int j => match S[n]? with
    | some (.lst es) => (ixN es.length j).map fun m => S.set n (.lst (es.set m d))
    | _ => none
  | _, _ => none
def cSub2 (fe fo1 fi1 fo2 fi2 : DE) : DS := fun ρ S => toS (fe ρ S) ρ fun d S1 => match d with
  | .tup [d1, d2] => toS (fo1 ρ S1) ρ fun o1 S2 => toS (fi1 ρ S2) ρ fun i1 S3 => match stoL o1 i1 d1 S3 with
    | some S4 => toS (fo2 ρ S4) ρ fun o2 S5 => toS (fi2 ρ S5) ρ fun i2 S6 => match stoL o2 i2 d2 S6 with
      | some S7 => .ok (.nx ρ) S7
      | none => .stuck
    | none => .stuck
  | _ => .stuck
section
variable {X : Cx} {C : Nat → Addr} {W : WX} {k : Nat} {e o i o2 i2 : Expr} {fe fo fi fo2 fi2 : DE} {pos p p2 p3 : Pos} {kk : Nat}
theorem stoL_go {μ : Mu} {S S' : Sto} {H : Hp} (s : SR X.K C μ S H) {o i d : Dv} {ov iv v : V} (e : stoL o i d S = some S') (h1 : VR X.K H μ o ov) (h2 : VR X.K H μ i iv) (h3 : VR X.K H μ d v) {Q : Hp → Prop}
    (q : ∀ H', Aft X.K μ H μ H' → SR X.K C μ S' H' → Q H') : rSetL ov iv v H Q := by
  unfold stoL at e
  split at e
  · rename_i n j
    split at e
    · rename_i es e1
      obtain ⟨m, em, rfl⟩ := Option.map_eq_some_iff.mp e
      cases VR_int.mp h2
      obtain ⟨ad, vs, rfl, ha, h5, h6⟩ := lst_at s e1 h1
      have so : Soft (H ad) := by rw [h5]; exact True.intro
      have af : Aft X.K μ H μ (L2.upd H ad (.lst (vs.set m v))) := s.put_aft ha so
      exact ⟨ad, vs, j, m, rfl, rfl, h5, by rw [← h6.length]; exact em, q _ af (s.put (o := .lst (es.set m d)) ha so ⟨_, rfl, (h6.mono af).set m (h3.mono af)⟩)⟩
    · cases e
  · cases e
theorem ss_sub2 (c : Ctx X W k) (he : SE X C W e fe) (h1 : SE X C W o fo) (h2 : SE X C W i fi) (h3 : SE X C W o2 fo2) (h4 : SE X C W i2 fi2)
    (hs : swapsWithSole [.Tuple [.Subscript o i p2, .Subscript o2 i2 p3] kk p] e pos.line X.env = pure false := by rfl) (hw : swappedStores [.Tuple [.Subscript o i p2, .Subscript o2 i2 p3] kk p] e X.env = pure none := by rfl)
    (hh : (assignEach [.Tuple [.Subscript o i p2, .Subscript o2 i2 p3] kk p] X.env).map (·.2) = [assign (.Tuple [.Subscript o i p2, .Subscript o2 i2 p3] kk p) X.env] := by rfl)
    (ha : ∀ v, assign (.Subscript o i p2) X.env v = (do
      let ov ← holding [v] (eval o X.env)
      let iv ← holding [v, ov] (eval i X.env)
      standAt p2
      holding [v, ov, iv] (setItem ov iv v)
      release [v, ov, iv] []) := by intro _; rfl)
    (ha2 : ∀ v, assign (.Subscript o2 i2 p3) X.env v = (do
      let ov ← holding [v] (eval o2 X.env)
      let iv ← holding [v, ov] (eval i2 X.env)
      standAt p3
      holding [v, ov, iv] (setItem ov iv v)
      release [v, ov, iv] []) := by intro _; rfl)
    (hq1 : (assignEach [.Subscript o i p2, .Subscript o2 i2 p3] X.env).map (·.2) = assign (.Subscript o i p2) X.env :: (assignEach [.Subscript o2 i2 p3] X.env).map (·.2) := by rfl)
    (hq2 : (assignEach [.Subscript o2 i2 p3] X.env).map (·.2) = assign (.Subscript o2 i2 p3) X.env :: (assignEach [] X.env).map (·.2) := by rfl)
    (hn : (assignEach [.Subscript o i p2, .Subscript o2 i2 p3] X.env).length = 2 := by rfl) (hst : (assignEach [.Subscript o i p2, .Subscript o2 i2 p3] X.env).findIdx? (·.1) = none := by rfl) :
    SS X C W (.Assign [.Tuple [.Subscript o i p2, .Subscript o2 i2 p3] kk p] e pos) (cSub2 fe fo fi fo2 fi2) := by
  refine ⟨ps_imp (ps_asg he.pe (pg_tup c.calm (pgs_cons (pg_sub h1.pe h2.pe set_list ha) (pgs_cons (pg_sub h3.pe h4.pe set_list ha2) pgs_nil hq2) hq1) hn hst) hs hw hh) fun D σ H q => ?_⟩
  obtain ⟨μ, ρ, S, rl, q⟩ := q
  refine ⟨μ, ρ, S, rl, (toS_go q rl).imp fun v H1 q1 => ?_⟩
  obtain ⟨μ1, S1, d, a1, s1, vr, q1⟩ := q1
  have rl1 := rl.next a1 s1
  split at q1
  · rename_i d1 d2
    obtain ⟨ad, vs, rfl, ht, hvs⟩ := VR_tup.mp vr
    obtain ⟨v1, t1, rfl, w1, hvs⟩ := VRs_cons.mp hvs
    obtain ⟨v2, t2, rfl, w2, hvs⟩ := VRs_cons.mp hvs
    cases VRs_nil.mp hvs
    refine ⟨ad, _, rfl, ht, rfl, v1, [v2], rfl, μ1, ρ, S1, rl1, (toS_go q1 rl1).imp fun ov H2 q2 => ?_⟩
    obtain ⟨μ2, S2, od, a2, s2, vo, q2⟩ := q2
    have rl2 := rl1.next a2 s2
    refine ⟨μ2, ρ, S2, rl2, (toS_go q2 rl2).imp fun iv H3 q3 => ?_⟩
    obtain ⟨μ3, S3, idd, a3, s3, vi, q3⟩ := q3
    have rl3 := rl2.next a3 s3
    split at q3
    · rename_i S4 e4
      refine stoL_go s3 e4 (vo.mono a3) vi (w1.mono (a2.trans a3)) fun H4 a4 s4 => ?_
      have rl4 := rl3.next a4 s4
      refine ⟨v2, [], rfl, μ3, ρ, S4, rl4, (toS_go (tSt.aft (r := _) q3 a4) rl4).imp fun ov2 H5 q5 => ?_⟩
      obtain ⟨μ5, S5, od2, a5, s5, vo2, q5⟩ := q5
      have rl5 := rl4.next a5 s5
      refine ⟨μ5, ρ, S5, rl5, (toS_go q5 rl5).imp fun iv2 H6 q6 => ?_⟩
      obtain ⟨μ6, S6, id2, a6, s6, vi2, q6⟩ := q6
      have rl6 := rl5.next a6 s6
      split at q6
      · rename_i S7 e7
        refine stoL_go s6 e7 (vo2.mono a6) vi2 (w2.mono ((((a2.trans a3).trans a4).trans a5).trans a6)) fun H7 a7 s7 => ?_
        exact ⟨rfl, q6 μ6 σ H7 a7 (rl6.next a7 s7)⟩
      · exact q6.elim
    · exact q3.elim
  · exact q1.elim
end
end Fc

set_option exponentiation.threshold 256
set_option maxHeartbeats 4000000
set_option maxHeartbeats 4000000
/-! FcLib: what proofs over the abstract machine are made with. -/
namespace Fc
open PySem L2
theorem whileL_run {t : DT} {b : DS} (Inv : Nat → Ev → Sto → Prop) {ρ : Ev} {S : Sto} {m : Nat} (h0 : Inv m ρ S) (P : Out → Sto → Prop)
    (step : ∀ m ρ S, Inv m ρ S → ∃ c S1, t ρ S = .ok c S1 ∧ (c = false → P (.nx ρ) S1) ∧ (c = true → ∃ o S2, b ρ S1 = .ok o S2 ∧ (match o with
      | .nx ρ2 => ∃ m', m' < m ∧ Inv m' ρ2 S2
      | .ct ρ2 => ∃ m', m' < m ∧ Inv m' ρ2 S2
      | .bk ρ2 => P (.nx ρ2) S2
      | o => P o S2))) : ∀ f, m < f → ∃ o S', whileL t b f ρ S = .ok o S' ∧ P o S' := by
  intro f
  induction f generalizing m ρ S with
  | zero => intro h; omega
  | succ f ih =>
    intro h
    obtain ⟨c, S1, e1, hf, ht⟩ := step m ρ S h0
    unfold whileL
    rw [e1, toS_ok]
    cases c with
    | false => exact ⟨_, _, rfl, hf rfl⟩
    | true =>
      rw [if_pos rfl]
      obtain ⟨o, S2, e2, ho⟩ := ht rfl
      rw [e2]
      cases o with
      | nx ρ2 => obtain ⟨m', hm, hi⟩ := ho; exact ih hi (by omega)
      | ct ρ2 => obtain ⟨m', hm, hi⟩ := ho; exact ih hi (by omega)
      | bk ρ2 => exact ⟨_, _, rfl, ho⟩
      | rt d => exact ⟨_, _, rfl, ho⟩
      | ex c d => exact ⟨_, _, rfl, ho⟩
theorem forL_run {it : Itf} {tg : Tg} {b : DS} {N : Nat} (Inv : Nat → Ev → Sto → Prop) (P : Out → Sto → Prop)
    (step : ∀ i ρ S, i < N → Inv i ρ S → ∃ x ρ1, it S i = some (some x) ∧ tg.asg x ρ = some ρ1 ∧ ∃ o S2, b ρ1 S = .ok o S2 ∧ (match o with
      | .nx ρ2 => Inv (i + 1) ρ2 S2
      | .ct ρ2 => Inv (i + 1) ρ2 S2
      | .bk ρ2 => P (.nx ρ2) S2
      | o => P o S2))
    (hend : ∀ ρ S, Inv N ρ S → it S N = some none ∧ P (.nx ρ) S) : ∀ (f i : Nat) (ρ : Ev) (S : Sto), i ≤ N → N - i < f → Inv i ρ S → ∃ o S', forL it tg b f i ρ S = .ok o S' ∧ P o S' := by
  intro f
  induction f with
  | zero => intro i ρ S _ h; omega
  | succ f ih =>
    intro i ρ S hi hf h
    unfold forL
    by_cases e : i = N
    · subst e
      obtain ⟨e1, p⟩ := hend ρ S h
      rw [e1]
      exact ⟨_, _, rfl, p⟩
    · obtain ⟨x, ρ1, e1, e2, o, S2, e3, ho⟩ := step i ρ S (by omega) h
      rw [e1]
      simp only [e2]
      rw [e3]
      cases o with
      | nx ρ2 => exact ih (i + 1) ρ2 S2 (by omega) (by omega) ho
      | ct ρ2 => exact ih (i + 1) ρ2 S2 (by omega) (by omega) ho
      | bk ρ2 => exact ⟨_, _, rfl, ho⟩
      | rt d => exact ⟨_, _, rfl, ho⟩
      | ex c d => exact ⟨_, _, rfl, ho⟩
/-- a loop that leaves the store as it is and only turns its locals -/
theorem forL_pure {it : Itf} {tg : Tg} {b : DS} {S : Sto} (ds : List Dv) (hit : ∀ i, it S i = some ds[i]?) (hl : ds.length < big) (f : Ev → Dv → Option Ev)
    (hb : ∀ ρ x ρ2, x ∈ ds → f ρ x = some ρ2 → ∃ ρ1, tg.asg x ρ = some ρ1 ∧ b ρ1 S = .ok (.nx ρ2) S) {ρ ρ' : Ev} (hf : ds.foldlM f ρ = some ρ') : forL it tg b big 0 ρ S = .ok (.nx ρ') S := by
  have pre : ∀ (i : Nat), i ≤ ds.length → ∃ ρi, (ds.take i).foldlM f ρ = some ρi := fun i hi => by
    have e := hf
    rw [← List.take_append_drop i ds, List.foldlM_append] at e
    obtain ⟨ρi, e1, _⟩ := Option.bind_eq_some_iff.mp e
    exact ⟨ρi, e1⟩
  obtain ⟨o, S', e, ρ2, rfl, rfl, e2⟩ := forL_run (it := it) (tg := tg) (b := b) (N := ds.length) (fun i ρi S1 => S1 = S ∧ (ds.take i).foldlM f ρ = some ρi) (fun o S1 => ∃ ρ2, o = .nx ρ2 ∧ S1 = S ∧ ds.foldlM f ρ = some ρ2)
    (fun i ρi S1 hi hh => by
      obtain ⟨rfl, hh⟩ := hh
      obtain ⟨ρn, hn⟩ := pre (i + 1) hi
      have hx : ds[i]? = some ds[i] := List.getElem?_eq_getElem hi
      rw [List.take_add_one, hx, List.foldlM_append, hh] at hn
      have hn' : f ρi ds[i] = some ρn := by simpa using hn
      obtain ⟨ρ1, h1, h2⟩ := hb ρi ds[i] ρn (List.getElem_mem hi) hn'
      refine ⟨ds[i], ρ1, by rw [hit, hx], h1, _, _, h2, rfl, ?_⟩
      rw [List.take_add_one, hx, List.foldlM_append, hh]
      simpa using hn')
    (fun ρi S1 hh => by
      obtain ⟨rfl, hh⟩ := hh
      rw [List.take_length] at hh
      exact ⟨by rw [hit, List.getElem?_eq_none (Nat.le_refl _)], ρi, rfl, rfl, hh⟩)
    big 0 ρ S (Nat.zero_le _) (by omega) ⟨rfl, rfl⟩
  rw [hf] at e2
  cases e2
  exact e
theorem lcL_run {it : Itf} {tg : Tg} {cond : DT} {elt : DE} {ρ : Ev} {n N : Nat} (Inv : Nat → List Dv → Sto → Prop)
    (step : ∀ i acc S, i < N → Inv i acc S → ∃ x ρ2, it S i = some (some x) ∧ tg.asg x ρ = some ρ2 ∧ ∃ c S1, cond ρ2 S = .ok c S1 ∧ (c = false → Inv (i + 1) acc S1) ∧
      (c = true → ∃ y S2, elt ρ2 S1 = .ok y S2 ∧ S2[n]? = some (.lst acc) ∧ acc.length < lim ∧ Inv (i + 1) (acc ++ [y]) (S2.set n (.lst (acc ++ [y])))))
    (hend : ∀ acc S, Inv N acc S → it S N = some none) : ∀ (f i : Nat) (acc : List Dv) (S : Sto), i ≤ N → N - i < f → Inv i acc S → ∃ acc' S', lcL it tg cond elt ρ n f i S = .ok (.ref n) S' ∧ Inv N acc' S' := by
  intro f
  induction f with
  | zero => intro i acc S _ h; omega
  | succ f ih =>
    intro i acc S hi hf h
    unfold lcL
    by_cases e : i = N
    · subst e
      rw [hend acc S h]
      exact ⟨acc, S, rfl, h⟩
    · obtain ⟨x, ρ2, e1, e2, c, S1, e3, h1, h2⟩ := step i acc S (by omega) h
      rw [e1]
      simp only [e2, e3, Res.bdN_ok]
      cases c with
      | false =>
        rw [if_neg Bool.false_ne_true]
        exact ih (i + 1) acc S1 (by omega) (by omega) (h1 rfl)
      | true =>
        rw [if_pos rfl]
        obtain ⟨y, S2, e4, e5, e6, h3⟩ := h2 rfl
        rw [e4, Res.bdN_ok, e5]
        simp only [if_pos e6]
        exact ih (i + 1) _ _ (by omega) (by omega) h3
/-- a comprehension whose parts leave the store as it is -/
theorem lc_pure {it : Itf} {tg : Tg} {cond : DT} {elt : DE} {ρ : Ev} {S : Sto} (xs : List Dv) (c : Dv → Bool) (h : Dv → Dv) (hl : xs.length ≤ lim)
    (hit : ∀ acc i, it (S ++ [.lst acc]) i = some xs[i]?)
    (hx : ∀ x ∈ xs, ∀ acc, ∃ ρ2, tg.asg x ρ = some ρ2 ∧ cond ρ2 (S ++ [.lst acc]) = .ok (c x) (S ++ [.lst acc]) ∧ (c x = true → elt ρ2 (S ++ [.lst acc]) = .ok (h x) (S ++ [.lst acc]))) :
    lcL it tg cond elt ρ S.length big 0 (S ++ [.lst []]) = .ok (.ref S.length) (S ++ [.lst ((xs.filter c).map h)]) := by
  obtain ⟨acc', S', e, rfl, rfl⟩ := lcL_run (it := it) (tg := tg) (cond := cond) (elt := elt) (ρ := ρ) (n := S.length) (N := xs.length) (fun i acc S1 => acc = ((xs.take i).filter c).map h ∧ S1 = S ++ [.lst acc])
    (fun i acc S1 hi hh => by
      obtain ⟨ha, rfl⟩ := hh
      have hxi : xs[i]? = some xs[i] := List.getElem?_eq_getElem hi
      obtain ⟨ρ2, e1, e2, e3⟩ := hx xs[i] (List.getElem_mem hi) acc
      have tk : xs.take (i + 1) = xs.take i ++ [xs[i]] := by
        rw [List.take_add_one, hxi]
        rfl
      refine ⟨xs[i], ρ2, by rw [hit, hxi], e1, _, _, e2, fun hc => ⟨?_, rfl⟩, fun hc => ⟨_, _, e3 hc, by simp, ?_, ?_, ?_⟩⟩
      · rw [ha, tk, List.filter_append, List.map_append, List.filter_cons_of_neg (by rw [hc]; simp), List.filter_nil, List.map_nil, List.append_nil]
      · rw [ha, List.length_map]
        have h1 := List.length_filter_le c (xs.take i)
        have h2 : (xs.take i).length ≤ i := by simp; omega
        omega
      · rw [ha, tk, List.filter_append, List.map_append, List.filter_cons_of_pos hc, List.filter_nil, List.map_cons, List.map_nil]
      · simp)
    (fun acc S1 hh => by
      obtain ⟨_, rfl⟩ := hh
      rw [hit, List.getElem?_eq_none (Nat.le_refl _)])
    big 0 [] _ (Nat.zero_le _) (by rw [big_eq]; have := lim_eq; omega) ⟨by simp, rfl⟩
  rw [List.take_length] at e
  exact e
/-- .. without a test -/
theorem lc_map {it : Itf} {tg : Tg} {elt : DE} {ρ : Ev} {S : Sto} (xs : List Dv) (h : Dv → Dv) (hl : xs.length ≤ lim) (hit : ∀ acc i, it (S ++ [.lst acc]) i = some xs[i]?)
    (hx : ∀ x ∈ xs, ∀ acc, ∃ ρ2, tg.asg x ρ = some ρ2 ∧ elt ρ2 (S ++ [.lst acc]) = .ok (h x) (S ++ [.lst acc])) :
    lcL it tg tTrue elt ρ S.length big 0 (S ++ [.lst []]) = .ok (.ref S.length) (S ++ [.lst (xs.map h)]) := by
  have e := lc_pure (it := it) (tg := tg) (cond := tTrue) (elt := elt) (ρ := ρ) (S := S) xs (fun _ => true) h hl hit fun x hm acc => by
    obtain ⟨ρ2, e1, e2⟩ := hx x hm acc
    exact ⟨ρ2, e1, rfl, fun _ => e2⟩
  rwa [List.filter_eq_self.mpr fun _ _ => rfl] at e
/-! ### statement by statement -/
section
variable {f g : DS} {t : DT} {ρ ρ0 ρ1 : Ev} {S S1 S2 : Sto} {r : Res Out} {d : Dv} {c n : Nat} {args : List Dv}
theorem seq_go (h1 : f ρ S = .ok (.nx ρ1) S1) (h2 : g ρ1 S1 = r) : cSeq f g ρ S = r := by simp only [cSeq, h1, h2]
theorem seq_rt (h1 : f ρ S = .ok (.rt d) S1) : cSeq f g ρ S = .ok (.rt d) S1 := by simp only [cSeq, h1]
theorem seq_ex (h1 : f ρ S = .ok (.ex c ρ1) S1) : cSeq f g ρ S = .ok (.ex c ρ1) S1 := by simp only [cSeq, h1]
theorem seq_bk (h1 : f ρ S = .ok (.bk ρ1) S1) : cSeq f g ρ S = .ok (.bk ρ1) S1 := by simp only [cSeq, h1]
theorem seq_ct (h1 : f ρ S = .ok (.ct ρ1) S1) : cSeq f g ρ S = .ok (.ct ρ1) S1 := by simp only [cSeq, h1]
theorem nil_go : cNil ρ S = .ok (.nx ρ) S := rfl
theorem if_t (h1 : t ρ S = .ok true S1) (h2 : f ρ S1 = r) : cIf t f g ρ S = r := by simp only [cIf, h1, toS_ok, if_true, h2]
theorem if_f (h1 : t ρ S = .ok false S1) (h2 : g ρ S1 = r) : cIf t f g ρ S = r := by simp [cIf, h1, h2]
theorem for_go {fi : DI} {tg : Tg} {it : Itf} (h1 : fi ρ S = .ok it S1) (h2 : forL it tg f big 0 ρ S1 = r) : cFor fi tg f ρ S = r := by simp only [cFor, h1, toS_ok, h2]
theorem set_go {e : DE} {i : Nat} (h1 : e ρ S = .ok d S1) : cSet i e ρ S = .ok (.nx (ρ.set i (some d))) S1 := by simp only [cSet, h1, toS_ok]
theorem expr_go {e : DE} (h1 : e ρ S = .ok d S1) : cExpr e ρ S = .ok (.nx ρ) S1 := by simp only [cExpr, h1, toS_ok]
theorem ret_go {e : DE} (h1 : e ρ S = .ok d S1) : cRet e ρ S = .ok (.rt d) S1 := by simp only [cRet, h1, toS_ok]
theorem run_rt {b : DS} (he : args.map some ++ List.replicate (n - args.length) none = ρ0) (h : b ρ0 S = .ok (.rt d) S1) : runB n b args S = .ok d S1 := by simp only [runB, he, h]
theorem run_nx {b : DS} (he : args.map some ++ List.replicate (n - args.length) none = ρ0) (h : b ρ0 S = .ok (.nx ρ1) S1) : runB n b args S = .ok .non S1 := by simp only [runB, he, h]
theorem run_ex {b : DS} (he : args.map some ++ List.replicate (n - args.length) none = ρ0) (h : b ρ0 S = .ok (.ex c ρ1) S1) : runB n b args S = .exn c S1 := by simp only [runB, he, h]
theorem run_stuck {b : DS} (he : args.map some ++ List.replicate (n - args.length) none = ρ0) (h : b ρ0 S = .stuck) : runB n b args S = .stuck := by simp only [runB, he, h]
end
def dNeg : Dv → Option Dv := fun d => match d with
  | .int i => some (.int (-i))
  | _ => none
theorem se_neg2 {X : Cx} {C : Nat → Addr} {W : WX} {e : Expr} {f : DE} {pos : Pos} (h1 : SE X C W e f) : SE X C W (.UnaryOp .USub e pos) (eUn dNeg f) := se_neg h1
theorem neg_int (i : Int) : dNeg (.int i) = some (.int (-i)) := rfl
theorem at_last {α : Type} (xs : List α) (v : α) : atI (xs ++ [v]) (-1) = some v := by
  have h : ixN (xs ++ [v]).length (-1) = some xs.length := by
    unfold ixN
    have : ¬ (0 : Int) ≤ -1 := by decide
    rw [if_neg this]
    simp only [List.length_append, List.length_cons, List.length_nil]
    have h2 : (0 : Int) ≤ -1 + (xs.length + (0 + 1) : Nat) := by omega
    first
      | rw [if_pos h2]; congr 1; omega
      | (simp; try omega)
  unfold atI
  rw [h]
  simp
/-- what stays: a tuple's, a range's walk; a list's below a new object -/
theorem it_tup (ds : List Dv) (S : Sto) (i : Nat) : itSeq (.tup ds) S i = some ds[i]? := rfl
theorem it_fz (ds : List Dv) (S : Sto) (i : Nat) : itSeq (.fz ds) S i = some ds[i]? := rfl
theorem getElem?_grow {S : Sto} {n : Nat} {o : Ob} (h : S[n]? = some o) (G : Sto) : (S ++ G)[n]? = some o := by
  rw [List.getElem?_append_left (List.getElem?_eq_some_iff.mp h).1]
  exact h
theorem listOf_grow {S : Sto} {d : Dv} {ds : List Dv} (h : listOf S d = some ds) (G : Sto) : listOf (S ++ G) d = some ds := by
  cases d with
  | fz es => exact h
  | ref n =>
    simp only [listOf] at h ⊢
    split at h
    · rename_i es e1
      cases h
      rw [getElem?_grow e1 G]
    · cases h
  | _ => cases h
theorem seqOf_grow {S : Sto} {d : Dv} {ds : List Dv} (h : seqOf S d = some ds) (G : Sto) : seqOf (S ++ G) d = some ds := by
  cases d with
  | tup es => exact h
  | fz es => exact listOf_grow (S := S) (d := .fz es) h G
  | ref n => exact listOf_grow (S := S) (d := .ref n) h G
  | _ => cases h
theorem it_seq {S : Sto} {d : Dv} {ds : List Dv} (h : seqOf S d = some ds) (G : Sto) (i : Nat) : itSeq d (S ++ G) i = some ds[i]? := by
  simp only [itSeq, seqOf_grow h G, Option.map_some]
def rngD (lo : Int) (n : Nat) : List Dv := (List.range n).map fun i => .int (lo + (i : Nat))
theorem it_rng (lo : Int) (n : Nat) (S : Sto) (i : Nat) : itRange lo n S i = some (rngD lo n)[i]? := by
  simp only [itRange, rngD, List.getElem?_map]
  by_cases h : i < n
  · rw [if_pos h, List.getElem?_range h]
    rfl
  · rw [if_neg h, List.getElem?_eq_none (by simpa using Nat.le_of_not_lt h)]
    rfl
section
variable {S : Sto} {ds : List Dv}
theorem ty_non : tyD S .non = some .non := rfl
theorem ty_bl {b : Bool} : tyD S (.bl b) = some .bl := rfl
theorem ty_int {i : Int} : tyD S (.int i) = some .int := rfl
theorem ty_str {x : Str} : tyD S (.str x) = some .str := rfl
theorem ty_tup : tyD S (.tup ds) = some .tup := rfl
theorem ty_fz : tyD S (.fz ds) = some .lst := rfl
theorem seq_tup : seqOf S (.tup ds) = some ds := rfl
theorem seq_fz : seqOf S (.fz ds) = some ds := rfl
theorem list_fz : listOf S (.fz ds) = some ds := rfl
theorem len_tup : fLen [.tup ds] S = some (.int (ds.length : Nat), S) := rfl
end
theorem at_newk (S G : Sto) (k : Nat) : (S ++ G)[S.length + k]? = G[k]? := by
  rw [List.getElem?_append_right (by omega)]
  congr 1
  omega
theorem asg_nm (i : Nat) (d : Dv) (ρ : Ev) : (Tg.nm i).asg d ρ = some (ρ.set i (some d)) := by simp [Tg.asg]
theorem asg_tp (ts : List Tg) (ds : List Dv) (ρ : Ev) : (Tg.tp ts).asg (.tup ds) ρ = Tg.asgs ts ds ρ := by simp [Tg.asg]
theorem asgs_nil (ρ : Ev) : Tg.asgs [] [] ρ = some ρ := by simp [Tg.asgs]
theorem asgs_cons (t : Tg) (ts : List Tg) (d : Dv) (ds : List Dv) (ρ : Ev) : Tg.asgs (t :: ts) (d :: ds) ρ = (t.asg d ρ).bind fun ρ1 => Tg.asgs ts ds ρ1 := by simp [Tg.asgs]
theorem lm0 : (0 ≤ lim) = True := by simp [lim]
theorem lm1 : (1 ≤ lim) = True := by simp [lim]
theorem lm2 : (2 ≤ lim) = True := by simp [lim]
theorem lm3 : (3 ≤ lim) = True := by simp [lim]
theorem lm4 : (4 ≤ lim) = True := by simp [lim]
theorem lm5 : (5 ≤ lim) = True := by simp [lim]
theorem lm6 : (6 ≤ lim) = True := by simp [lim]
theorem lm7 : (7 ≤ lim) = True := by simp [lim]
theorem lm8 : (8 ≤ lim) = True := by simp [lim]
theorem lm9 : (9 ≤ lim) = True := by simp [lim]
theorem set_newk (S G : Sto) (k : Nat) (o : Ob) : (S ++ G).set (S.length + k) o = S ++ G.set k o := by
  rw [List.set_append_right _ _ (by omega)]
  congr 2
  omega
theorem set_new0 (S G : Sto) (o : Ob) : (S ++ G).set S.length o = S ++ G.set 0 o := set_newk S G 0 o
theorem at_new (S G : Sto) : (S ++ G)[S.length]? = G[0]? := at_newk S G 0
section
variable {S : Sto} {i j : Int}
theorem zAdd {m : Bool} : opAdd m (.int i) (.int j) S = some (.int (i + j), S) := rfl
theorem zSub : opSub (.int i) (.int j) S = some (.int (i - j), S) := rfl
theorem zMul {m : Bool} (h : mulOk i j = true) : opMul m (.int i) (.int j) S = some (.int (i * j), S) := if_pos h
theorem zDiv (h : divOk j = true) : opDiv (.int i) (.int j) S = some (.int (i / j), S) := if_pos h
theorem zMod (h : 0 < j) : opMod (.int i) (.int j) S = some (.int (i % j), S) := if_pos h
theorem zIxL {n : Nat} {ds : List Dv} {v : Dv} (h : S[n]? = some (.lst ds)) (h2 : atI ds i = some v) : opIx (.ref n) (.int i) S = some (v, S) := by simp [opIx, seqOf, listOf, h, h2]
end
section
variable {S : Sto} {n m : Nat} {i : Int} {ds : List Dv}
theorem list_ref : listOf S (.ref n) = (match S[n]? with
    | some (.lst ds) => some ds
    | _ => none) := rfl
theorem seq_ref : seqOf S (.ref n) = (match S[n]? with
    | some (.lst ds) => some ds
    | _ => none) := rfl
theorem ix_ref : opIx (.ref n) (.int i) S = (match S[n]? with
    | some (.lst ds) => (match atI ds i with
      | some d => some (d, S)
      | none => none)
    | _ => none) := by
  simp only [opIx, seq_ref]
  rcases S[n]? with _ | _ | _ | _ | _ <;> rfl
theorem ix_tup : opIx (.tup ds) (.int i) S = (match atI ds i with
      | some d => some (d, S)
      | none => none) := rfl
theorem ix_fz : opIx (.fz ds) (.int i) S = (match atI ds i with
      | some d => some (d, S)
      | none => none) := rfl
theorem app_ref {y : Dv} : mAppend (.ref n) [y] S = (match S[n]? with
    | some (.lst es) => if es.length < lim then some (.non, S.set n (.lst (es ++ [y]))) else none
    | _ => none) := rfl
theorem len_ref : fLen [.ref n] S = (match S[n]? with
    | some (.lst ds) => some (.int (ds.length : Nat), S)
    | _ => none) := by
  simp only [fLen, seq_ref]
  rcases S[n]? with _ | _ | _ | _ | _ <;> rfl
end
theorem eqD_int (i j : Int) (S : Sto) : eqD (.int i) (.int j) S = some (decide (i = j)) := by
  simp [eqD]

/-! ### new forms -/
theorem mk_t (ds : List Dv) (S : Sto) : mk true ds S = (.ref S.length, S ++ [.lst ds]) := rfl
theorem mk_f (ds : List Dv) (S : Sto) : mk false ds S = (.fz ds, S) := rfl
theorem add_fz {m : Bool} {ds es : List Dv} {S : Sto} : opAdd m (.fz ds) (.fz es) S = (if ds.length + es.length ≤ lim then some (mk m (ds ++ es) S) else none) := rfl
theorem add_rf {m : Bool} {n : Nat} {es : List Dv} {S : Sto} : opAdd m (.ref n) (.fz es) S = (match S[n]? with
    | some (.lst ds) => if ds.length + es.length ≤ lim then some (mk m (ds ++ es) S) else none
    | _ => none) := by
  simp only [opAdd, listOf]
  rcases S[n]? with _ | _ | _ | _ | _ <;> rfl
theorem add_tt {m : Bool} {ds es : List Dv} {S : Sto} : opAdd m (.tup ds) (.tup es) S = (if ds.length + es.length ≤ lim then some (.tup (ds ++ es), S) else none) := rfl
theorem sl_tup {m : Bool} {ds : List Dv} {lo hi : Option Int} {S : Sto} : slD m (.tup ds) lo hi S = some (.tup (cutD ds lo hi), S) := rfl
theorem sl_fz {m : Bool} {ds : List Dv} {lo hi : Option Int} {S : Sto} : slD m (.fz ds) lo hi S = some (mk m (cutD ds lo hi) S) := rfl
theorem len_fz {ds : List Dv} {S : Sto} : fLen [.fz ds] S = some (.int (ds.length : Nat), S) := rfl
theorem tuple_fz {ds : List Dv} {S : Sto} : fTuple [.fz ds] S = some (.tup ds, S) := rfl
theorem tuple_ref {n : Nat} {S : Sto} : fTuple [.ref n] S = (match S[n]? with
    | some (.lst ds) => some (.tup ds, S)
    | _ => none) := by
  simp only [fTuple, seqOf, listOf]
  rcases S[n]? with _ | _ | _ | _ | _ <;> rfl
theorem dic_ref {n : Nat} {S : Sto} : dicOf S (.ref n) = (match S[n]? with
    | some (.dic kvs) => some kvs
    | some (.ldic kvs) => some kvs
    | _ => none) := rfl
theorem lim_big {n : Nat} (h : n ≤ lim) : n < big := by
  rw [big_eq]
  have := lim_eq
  omega
theorem it_seq0 {S : Sto} {d : Dv} {ds : List Dv} (h : seqOf S d = some ds) (i : Nat) : itSeq d S i = some ds[i]? := by
  have := it_seq h [] i
  rwa [List.append_nil] at this
/-- a walk over encoded things -/
def Goes {α : Type} (it : Itf) (S : Sto) (xs : List α) (enc : α → Dv) : Prop := ∀ i, it S i = some (xs[i]?.map enc)
theorem goes_seq {α : Type} {S : Sto} {d : Dv} {xs : List α} {enc : α → Dv} (h : seqOf S d = some (xs.map enc)) : Goes (itSeq d) S xs enc := fun i => by
  rw [it_seq0 h, List.getElem?_map]
theorem goes_tup {α : Type} {S : Sto} (xs : List α) (enc : α → Dv) : Goes (itSeq (.tup (xs.map enc))) S xs enc := goes_seq rfl
theorem goes_fz {α : Type} {S : Sto} (xs : List α) (enc : α → Dv) : Goes (itSeq (.fz (xs.map enc))) S xs enc := goes_seq rfl
theorem goes_range {S : Sto} (lo : Int) (n : Nat) : Goes (itRange lo n) S (List.range n) fun i => .int (lo + (i : Nat)) := fun i => by
  simp only [itRange]
  by_cases h : i < n
  · rw [if_pos h, List.getElem?_range h]
    rfl
  · rw [if_neg h, List.getElem?_eq_none (by simpa using Nat.le_of_not_lt h)]
    rfl
theorem goes_enum {α : Type} {S : Sto} {d : Dv} {xs : List α} {enc : α → Dv} (h : seqOf S d = some (xs.map enc)) : Goes (itEn d) S xs.zipIdx fun p => .tup [.int (p.2 : Nat), enc p.1] := fun i => by
  simp only [itEn, h, List.getElem?_map, List.getElem?_zipIdx]
  cases xs[i]? <;> simp
theorem goes_zip {α β : Type} {S : Sto} {d e : Dv} {xs : List α} {ys : List β} {enc : α → Dv} {enc' : β → Dv} (h : seqOf S d = some (xs.map enc)) (h' : seqOf S e = some (ys.map enc')) : Goes (itZip d e) S (xs.zip ys) fun p => .tup [enc p.1, enc' p.2] := fun i => by
  simp only [itZip, h, h', List.getElem?_map, List.zip, List.getElem?_zipWith]
  cases xs[i]? <;> cases ys[i]? <;> rfl
/-! loops by their turns: the locals E t and the store T t of a state t -/
theorem for_list {α τ : Type} {it : Itf} {tg : Tg} {b : DS} (xs : List α) (enc : α → Dv) (E : τ → Ev) (T : τ → Sto) (f : τ → α → τ) (I : List α → τ → Prop) (t0 : τ)
    (hit : ∀ t, Goes it (T t) xs enc) (hN : xs.length < big) (h0 : I [] t0)
    (step : ∀ pre x post t, xs = pre ++ x :: post → I pre t → I (pre ++ [x]) (f t x) ∧ ∃ ρ1, tg.asg (enc x) (E t) = some ρ1 ∧ b ρ1 (T t) = .ok (.nx (E (f t x))) (T (f t x))) :
    forL it tg b big 0 (E t0) (T t0) = .ok (.nx (E (xs.foldl f t0))) (T (xs.foldl f t0)) ∧ I xs (xs.foldl f t0) := by
  have key := forL_run (it := it) (tg := tg) (b := b) (N := xs.length) (fun i ρ S => ρ = E ((xs.take i).foldl f t0) ∧ S = T ((xs.take i).foldl f t0) ∧ I (xs.take i) ((xs.take i).foldl f t0))
    (fun o S => o = .nx (E (xs.foldl f t0)) ∧ S = T (xs.foldl f t0) ∧ I xs (xs.foldl f t0))
    (fun i ρ S hi hh => by
      obtain ⟨rfl, rfl, hI⟩ := hh
      have hx : xs[i]? = some xs[i] := List.getElem?_eq_getElem hi
      have e : xs = xs.take i ++ xs[i] :: xs.drop (i + 1) := by
        rw [List.getElem_cons_drop, List.take_append_drop]
      obtain ⟨h1, ρ1, h2, h3⟩ := step _ _ _ _ e hI
      have tk : xs.take (i + 1) = xs.take i ++ [xs[i]] := by
        rw [List.take_add_one, hx]
        rfl
      refine ⟨enc xs[i], ρ1, by rw [hit, hx]; rfl, h2, _, _, h3, ?_, ?_, ?_⟩
      · rw [tk, List.foldl_append]; rfl
      · rw [tk, List.foldl_append]; rfl
      · rw [tk, List.foldl_append]; exact h1)
    (fun ρ S hh => by
      obtain ⟨rfl, rfl, hI⟩ := hh
      rw [List.take_length] at hI ⊢
      exact ⟨by rw [hit, List.getElem?_eq_none (Nat.le_refl _)]; rfl, rfl, rfl, hI⟩)
    big 0 (E t0) (T t0) (Nat.zero_le _) (by omega) ⟨rfl, rfl, h0⟩
  obtain ⟨o, S', e, rfl, rfl, hI⟩ := key
  exact ⟨e, hI⟩
/-- .. where the store stays -/
theorem for_pure {α τ : Type} {it : Itf} {tg : Tg} {b : DS} {S : Sto} (xs : List α) (enc : α → Dv) (E : τ → Ev) (f : τ → α → τ) (I : List α → τ → Prop) (t0 : τ)
    (hit : Goes it S xs enc) (hN : xs.length ≤ lim) (h0 : I [] t0)
    (step : ∀ pre x post t, xs = pre ++ x :: post → I pre t → I (pre ++ [x]) (f t x) ∧ ∃ ρ1, tg.asg (enc x) (E t) = some ρ1 ∧ b ρ1 S = .ok (.nx (E (f t x))) S) :
    forL it tg b big 0 (E t0) S = .ok (.nx (E (xs.foldl f t0))) S ∧ I xs (xs.foldl f t0) :=
  for_list xs enc E (fun _ => S) f I t0 (fun _ => hit) (lim_big hN) h0 step
/-- .. and the locals too -/
theorem for_same {α : Type} {it : Itf} {tg : Tg} {b : DS} {ρ : Ev} {S : Sto} (xs : List α) (enc : α → Dv) (hit : Goes it S xs enc) (hN : xs.length ≤ lim)
    (step : ∀ x ∈ xs, ∃ ρ1, tg.asg (enc x) ρ = some ρ1 ∧ b ρ1 S = .ok (.nx ρ) S) : forL it tg b big 0 ρ S = .ok (.nx ρ) S :=
  (for_pure xs enc (fun _ : Unit => ρ) (fun _ _ => ()) (fun _ _ => True) () hit hN trivial fun pre x post _ e _ => ⟨trivial, step x (by rw [e]; simp)⟩).1
theorem lcV_filter {α : Type} {it : Itf} {tg : Tg} {cond : DT} {elt : DE} {ρ : Ev} {S : Sto} (xs : List α) (enc : α → Dv) (c : α → Bool) (h : α → Dv) (hit : Goes it S xs enc) (hl : xs.length ≤ lim)
    (hx : ∀ x ∈ xs, ∃ ρ2, tg.asg (enc x) ρ = some ρ2 ∧ cond ρ2 S = .ok (c x) S ∧ (c x = true → elt ρ2 S = .ok (h x) S)) :
    lcV it tg cond elt ρ big 0 [] S = .ok (.fz ((xs.filter c).map h)) S := by
  have key : ∀ (m i : Nat), i ≤ xs.length → xs.length - i < m → lcV it tg cond elt ρ m i (((xs.take i).filter c).map h) S = .ok (.fz ((xs.filter c).map h)) S := by
    intro m
    induction m with
    | zero => intro i _ h; omega
    | succ m ih =>
      intro i hi hm
      unfold lcV
      by_cases e : i = xs.length
      · subst e
        rw [hit, List.getElem?_eq_none (Nat.le_refl _), List.take_length]
        rfl
      · have hi2 : i < xs.length := by omega
        have hxi : xs[i]? = some xs[i] := List.getElem?_eq_getElem hi2
        obtain ⟨ρ2, e1, e2, e3⟩ := hx xs[i] (List.getElem_mem hi2)
        have tk : xs.take (i + 1) = xs.take i ++ [xs[i]] := by
          rw [List.take_add_one, hxi]
          rfl
        rw [hit, hxi]
        simp only [Option.map_some, e1, e2, Res.bdN_ok]
        have nx := ih (i + 1) hi2 (by omega)
        rw [tk, List.filter_append, List.map_append] at nx
        cases hc : c xs[i] with
        | false =>
          rw [List.filter_cons_of_neg (by rw [hc]; simp), List.filter_nil, List.map_nil, List.append_nil] at nx
          rw [if_neg Bool.false_ne_true]
          exact nx
        | true =>
          rw [List.filter_cons_of_pos hc, List.filter_nil, List.map_cons, List.map_nil] at nx
          rw [if_pos rfl, e3 hc, Res.bdN_ok, if_pos]
          · exact nx
          · rw [List.length_map]
            have h1 := List.length_filter_le c (xs.take i)
            have h2 : (xs.take i).length ≤ i := by simp; omega
            omega
  have := key big 0 (Nat.zero_le _) (by have := lim_big hl; omega)
  simpa using this
theorem lcV_map {α : Type} {it : Itf} {tg : Tg} {elt : DE} {ρ : Ev} {S : Sto} (xs : List α) (enc : α → Dv) (h : α → Dv) (hit : Goes it S xs enc) (hl : xs.length ≤ lim)
    (hx : ∀ x ∈ xs, ∃ ρ2, tg.asg (enc x) ρ = some ρ2 ∧ elt ρ2 S = .ok (h x) S) : lcV it tg tTrue elt ρ big 0 [] S = .ok (.fz (xs.map h)) S := by
  have e := lcV_filter (cond := tTrue) xs enc (fun _ => true) h hit hl fun x hm => by
    obtain ⟨ρ2, e1, e2⟩ := hx x hm
    exact ⟨ρ2, e1, rfl, fun _ => e2⟩
  rwa [List.filter_eq_self.mpr fun _ _ => rfl] at e
section
variable {f g : DS} {ρ ρ0 ρ1 : Ev} {S S1 S2 G : Sto} {d : Dv} {ds : List Dv} {c n : Nat} {args : List Dv} {b : DS}
/-- a def that hands back plain data and leaves the store -/
theorem f_val (he : args.map some ++ List.replicate (n - args.length) none = ρ0) (h : b ρ0 S = .ok (.rt d) (S ++ G)) (hp : d.plain = true) : runF n b args S = .ok d S := by
  unfold runF
  rw [run_rt he h, tidy_ok hp]
theorem f_val0 (he : args.map some ++ List.replicate (n - args.length) none = ρ0) (h : b ρ0 S = .ok (.rt d) S) (hp : d.plain = true) : runF n b args S = .ok d S :=
  f_val (G := []) he (by rw [List.append_nil]; exact h) hp
theorem f_lst (he : args.map some ++ List.replicate (n - args.length) none = ρ0) (h : b ρ0 S = .ok (.rt (.ref S.length)) (S ++ .lst ds :: G)) (hp : Dv.plains ds = true) : runF n b args S = .ok (.fz ds) S := by
  unfold runF
  rw [run_rt he h, tidy_lst0 hp]
theorem f_non (he : args.map some ++ List.replicate (n - args.length) none = ρ0) (h : b ρ0 S = .ok (.nx ρ1) (S ++ G)) : runF n b args S = .ok .non S := by
  unfold runF
  rw [run_nx he h, tidy_ok rfl]
theorem f_non0 (he : args.map some ++ List.replicate (n - args.length) none = ρ0) (h : b ρ0 S = .ok (.nx ρ1) S) : runF n b args S = .ok .non S :=
  f_non (G := []) he (by rw [List.append_nil]; exact h)
theorem f_exn (he : args.map some ++ List.replicate (n - args.length) none = ρ0) (h : b ρ0 S = .ok (.ex c ρ1) (S ++ G)) : runF n b args S = .exn c S := by
  unfold runF
  rw [run_ex he h, tidy_exn]
theorem f_exn0 (he : args.map some ++ List.replicate (n - args.length) none = ρ0) (h : b ρ0 S = .ok (.ex c ρ1) S) : runF n b args S = .exn c S :=
  f_exn (G := []) he (by rw [List.append_nil]; exact h)
end
/-! ### sizes -/
theorem log2_lt {n k : Nat} (h : n < 2 ^ k) (hk : 0 < k) : n.log2 < k := by
  by_cases h0 : n = 0
  · subst h0
    simpa using hk
  · exact (Nat.log2_lt h0).mpr h
theorem mulOk_of {i j : Int} {a b : Nat} (h1 : i.natAbs < 2 ^ a) (h2 : j.natAbs < 2 ^ b) (ha : 0 < a) (hb : 0 < b) (h : a + b ≤ 100000000) : mulOk i j = true := by
  have e1 := log2_lt h1 ha
  have e2 := log2_lt h2 hb
  simp only [mulOk, decide_eq_true_eq]
  omega
theorem divOk_of {j : Int} {a : Nat} (h0 : 0 < j) (h1 : j.natAbs < 2 ^ a) (ha : 0 < a) (h : a ≤ 9000) : divOk j = true := by
  have e1 := log2_lt h1 ha
  simp only [divOk, Bool.and_eq_true, decide_eq_true_eq]
  exact ⟨h0, by omega⟩
theorem abs_mul {i j : Int} {a b : Nat} (h1 : i.natAbs < 2 ^ a) (h2 : j.natAbs < 2 ^ b) : (i * j).natAbs < 2 ^ (a + b) := by
  rw [Int.natAbs_mul, Nat.pow_add]
  by_cases h0 : j.natAbs = 0
  · rw [h0, Nat.mul_zero]
    exact Nat.mul_pos (Nat.two_pow_pos _) (Nat.two_pow_pos _)
  · exact Nat.lt_of_lt_of_le (Nat.mul_lt_mul_of_pos_right h1 (by omega)) (Nat.mul_le_mul_left _ (Nat.le_of_lt h2))
theorem at0 {α : Type} (a : α) (l : List α) : atI (a :: l) 0 = some a := by
  have := atI_nat (xs := a :: l) (j := 0) (v := a) rfl
  simpa using this
theorem at1 {α : Type} (a b : α) (l : List α) : atI (a :: b :: l) 1 = some b := by
  have := atI_nat (xs := a :: b :: l) (j := 1) (v := b) rfl
  simpa using this
theorem at2 {α : Type} (a b c : α) (l : List α) : atI (a :: b :: c :: l) 2 = some c := by
  have := atI_nat (xs := a :: b :: c :: l) (j := 2) (v := c) rfl
  simpa using this
theorem abs_if (a : Int) : (if a < 0 then -a else a) = ((a.natAbs : Nat) : Int) := by split <;> omega
end Fc

set_option exponentiation.threshold 256
set_option maxHeartbeats 4000000
set_option maxHeartbeats 4000000
/-! RatA: the ratios' defs. -/
namespace Fc
open PySem L2
local macro_rules | `(tactic| walk_at "fc") => `(tactic| try simp only [runB, cSeq, cNil, cRet, cRetN, cExpr, cIf, cSet, cAsg, cPar, cAug, cRaise, cStore, cPass, cWipe, wipeD, toS_ok, toS_exn, toS_stuck, Res.bd_ok, Res.bd_exn, Res.bd_stuck, Res.bdN_ok, Res.bdN_exn, Res.bdN_stuck,
  eVar, eC, eTup, eLst, eOp, eChain, eUn, eAnd, eOr, eNot, eIf, eRep, tTs, tAnd2, tOr2, tNot2, tTrue, eCall, eBi, eIsi, eMtL, eSl, oNo, oSo, lNil, lCons, iSeq, iRange1, iRange2, zAdd, zSub, zMul, zDiv, zMod, ofO, opInt, opIn, opNotIn, opEq, opNe, opIs, opIsnt, mk_t, mk_f,
  List.map_cons, List.map_nil, List.length_cons, List.length_nil, List.replicate, List.append_nil, List.nil_append, List.cons_append, List.getElem?_cons_zero, List.getElem?_cons_succ, List.getElem?_nil, List.set_cons_zero, List.set_cons_succ, List.set_nil, lm0, lm1, lm2, lm3, lm4, lm5, lm6, lm7, lm8, lm9, asg_nm, asg_tp, asgs_nil, asgs_cons, Option.bind_some, Option.bind_none, Option.map_some, Option.map_none,
  Nat.reduceSub, Nat.reduceAdd, Nat.zero_add, Nat.add_zero, Nat.sub_self, if_true, if_false, reduceIte, Bool.false_eq_true, Bool.true_eq_false, Bool.not_true, Bool.not_false, ix_tup, ix_fz, at0, at1, at2, eDNew, eDGet, eDGet2, eDIn, eDPop, cDPut, cAugS, cSub2, dic_ref, keyOf, reduceCtorEq])
local macro_rules | `(tactic| walk_at "fo") => `(tactic| try simp only [*, runB, cSeq, cNil, cRet, cRetN, cExpr, cIf, cSet, cAsg, cPar, cAug, cRaise, cStore, cPass, cWipe, wipeD, toS_ok, toS_exn, toS_stuck, Res.bd_ok, Res.bd_exn, Res.bd_stuck, Res.bdN_ok, Res.bdN_exn, Res.bdN_stuck,
  eVar, eC, eTup, eLst, eOp, eChain, eUn, eAnd, eOr, eNot, eIf, eRep, tTs, tAnd2, tOr2, tNot2, tTrue, eCall, eBi, eIsi, eMtL, eSl, oNo, oSo, lNil, lCons, iSeq, iRange1, iRange2, zAdd, zSub, zMul, zDiv, zMod, ofO, opInt, opIn, opNotIn, opEq, opNe, opIs, opIsnt, mk_t, mk_f,
  List.map_cons, List.map_nil, List.length_cons, List.length_nil, List.replicate, List.append_nil, List.nil_append, List.cons_append, List.getElem?_cons_zero, List.getElem?_cons_succ, List.getElem?_nil, List.set_cons_zero, List.set_cons_succ, List.set_nil, lm0, lm1, lm2, lm3, lm4, lm5, lm6, lm7, lm8, lm9, asg_nm, asg_tp, asgs_nil, asgs_cons, Option.bind_some, Option.bind_none, Option.map_some, Option.map_none,
  Nat.reduceSub, Nat.reduceAdd, Nat.zero_add, Nat.add_zero, Nat.sub_self, if_true, if_false, reduceIte, Bool.false_eq_true, Bool.true_eq_false, Bool.not_true, Bool.not_false, ix_tup, ix_fz, at0, at1, at2, eDNew, eDGet, eDGet2, eDIn, eDPop, cDPut, cAugS, cSub2, dic_ref, keyOf, reduceCtorEq, and_self, Bool.and_self, decide_true, decide_false, List.append_assoc, List.length_append, Nat.add_assoc, at_new, at_newk, add_fz, add_rf, add_tt, ix_ref, seq_ref, list_ref, seq_tup, seq_fz, list_fz, ix_tup, ix_fz, neg_int, app_ref, set_newk, set_new0, iZ, iEn, sl_tup, sl_fz, eLcV, len_tup, len_ref, len_fz, tuple_fz, tuple_ref, ty_non, ty_bl, ty_int, ty_str, ty_tup, ty_fz])
local macro_rules | `(tactic| walk_at "fg") => `(tactic| try simp only [*, runB, cSeq, cNil, cRet, cRetN, cExpr, cIf, cSet, cAsg, cPar, cAug, cRaise, cStore, cPass, cWipe, wipeD, toS_ok, toS_exn, toS_stuck, Res.bd_ok, Res.bd_exn, Res.bd_stuck, Res.bdN_ok, Res.bdN_exn, Res.bdN_stuck,
  eVar, eC, eTup, eLst, eOp, eChain, eUn, eAnd, eOr, eNot, eIf, eRep, tTs, tAnd2, tOr2, tNot2, tTrue, eCall, eBi, eIsi, eMtL, eSl, oNo, oSo, lNil, lCons, iSeq, iRange1, iRange2, zAdd, zSub, zMul, zDiv, zMod, ofO, opInt, opIn, opNotIn, opEq, opNe, opIs, opIsnt, mk_t, mk_f,
  List.map_cons, List.map_nil, List.length_cons, List.length_nil, List.replicate, List.append_nil, List.nil_append, List.cons_append, List.getElem?_cons_zero, List.getElem?_cons_succ, List.getElem?_nil, List.set_cons_zero, List.set_cons_succ, List.set_nil, lm0, lm1, lm2, lm3, lm4, lm5, lm6, lm7, lm8, lm9, asg_nm, asg_tp, asgs_nil, asgs_cons, Option.bind_some, Option.bind_none, Option.map_some, Option.map_none,
  Nat.reduceSub, Nat.reduceAdd, Nat.zero_add, Nat.add_zero, Nat.sub_self, if_true, if_false, reduceIte, Bool.false_eq_true, Bool.true_eq_false, Bool.not_true, Bool.not_false, ix_tup, ix_fz, at0, at1, at2, eDNew, eDGet, eDGet2, eDIn, eDPop, cDPut, cAugS, cSub2, dic_ref, keyOf, reduceCtorEq, and_self, Bool.and_self, decide_true, decide_false, List.append_assoc, List.length_append, Nat.add_assoc, at_new, at_newk, add_fz, add_rf, add_tt, ix_ref, seq_ref, list_ref, seq_tup, seq_fz, list_fz, ix_tup, ix_fz, neg_int, app_ref, set_newk, set_new0, iZ, iEn, sl_tup, sl_fz, eLcV, len_tup, len_ref, len_fz, tuple_fz, tuple_ref, ty_non, ty_bl, ty_int, ty_str, ty_tup, ty_fz])
local macro_rules | `(tactic| walk_at "fs") => `(tactic| try simp [runB, cSeq, cNil, cRet, cRetN, cExpr, cIf, cSet, cAsg, cPar, cAug, cRaise, cStore, cPass, cWipe, wipeD, toS_ok, toS_exn, toS_stuck, Res.bd_ok, Res.bd_exn, Res.bd_stuck, Res.bdN_ok, Res.bdN_exn, Res.bdN_stuck,
  eVar, eC, eTup, eLst, eOp, eChain, eUn, eAnd, eOr, eNot, eIf, eRep, tTs, tAnd2, tOr2, tNot2, tTrue, eCall, eBi, eIsi, eMtL, eSl, oNo, oSo, lNil, lCons, iSeq, iRange1, iRange2, zAdd, zSub, zMul, zDiv, zMod, ofO, opInt, opIn, opNotIn, opEq, opNe, opIs, opIsnt, mk_t, mk_f,
  List.map_cons, List.map_nil, List.length_cons, List.length_nil, List.replicate, List.append_nil, List.nil_append, List.cons_append, List.getElem?_cons_zero, List.getElem?_cons_succ, List.getElem?_nil, List.set_cons_zero, List.set_cons_succ, List.set_nil, lm0, lm1, lm2, lm3, lm4, lm5, lm6, lm7, lm8, lm9, asg_nm, asg_tp, asgs_nil, asgs_cons, Option.bind_some, Option.bind_none, Option.map_some, Option.map_none,
  Nat.reduceSub, Nat.reduceAdd, Nat.zero_add, Nat.add_zero, Nat.sub_self, if_true, if_false, reduceIte, Bool.false_eq_true, Bool.true_eq_false, Bool.not_true, Bool.not_false, ix_tup, ix_fz, at0, at1, at2, eDNew, eDGet, eDGet2, eDIn, eDPop, cDPut, cAugS, cSub2, dic_ref, keyOf, reduceCtorEq, and_self, Bool.and_self, decide_true, decide_false, List.append_assoc, List.length_append, Nat.add_assoc, at_new, at_newk, add_fz, add_rf, add_tt, ix_ref, seq_ref, list_ref, seq_tup, seq_fz, list_fz, ix_tup, ix_fz, neg_int, app_ref, set_newk, set_new0, iZ, iEn, sl_tup, sl_fz, eLcV, len_tup, len_ref, len_fz, tuple_fz, tuple_ref, ty_non, ty_bl, ty_int, ty_str, ty_tup, ty_fz, isT, eqD_int, at0, at1])
local macro_rules | `(tactic| walk_at "fh") => `(tactic| try simp [*, runB, cSeq, cNil, cRet, cRetN, cExpr, cIf, cSet, cAsg, cPar, cAug, cRaise, cStore, cPass, cWipe, wipeD, toS_ok, toS_exn, toS_stuck, Res.bd_ok, Res.bd_exn, Res.bd_stuck, Res.bdN_ok, Res.bdN_exn, Res.bdN_stuck,
  eVar, eC, eTup, eLst, eOp, eChain, eUn, eAnd, eOr, eNot, eIf, eRep, tTs, tAnd2, tOr2, tNot2, tTrue, eCall, eBi, eIsi, eMtL, eSl, oNo, oSo, lNil, lCons, iSeq, iRange1, iRange2, zAdd, zSub, zMul, zDiv, zMod, ofO, opInt, opIn, opNotIn, opEq, opNe, opIs, opIsnt, mk_t, mk_f,
  List.map_cons, List.map_nil, List.length_cons, List.length_nil, List.replicate, List.append_nil, List.nil_append, List.cons_append, List.getElem?_cons_zero, List.getElem?_cons_succ, List.getElem?_nil, List.set_cons_zero, List.set_cons_succ, List.set_nil, lm0, lm1, lm2, lm3, lm4, lm5, lm6, lm7, lm8, lm9, asg_nm, asg_tp, asgs_nil, asgs_cons, Option.bind_some, Option.bind_none, Option.map_some, Option.map_none,
  Nat.reduceSub, Nat.reduceAdd, Nat.zero_add, Nat.add_zero, Nat.sub_self, if_true, if_false, reduceIte, Bool.false_eq_true, Bool.true_eq_false, Bool.not_true, Bool.not_false, ix_tup, ix_fz, at0, at1, at2, eDNew, eDGet, eDGet2, eDIn, eDPop, cDPut, cAugS, cSub2, dic_ref, keyOf, reduceCtorEq, and_self, Bool.and_self, decide_true, decide_false, List.append_assoc, List.length_append, Nat.add_assoc, at_new, at_newk, add_fz, add_rf, add_tt, ix_ref, seq_ref, list_ref, seq_tup, seq_fz, list_fz, ix_tup, ix_fz, neg_int, app_ref, set_newk, set_new0, iZ, iEn, sl_tup, sl_fz, eLcV, len_tup, len_ref, len_fz, tuple_fz, tuple_ref, ty_non, ty_bl, ty_int, ty_str, ty_tup, ty_fz, isT, eqD_int, at0, at1])
noncomputable def b_is_integer : DS :=
 (cSeq (cRet (eAnd (eIsi .int (eVar 0)) (eNot (eIsi .bl (eVar 0)))))
 cNil)
noncomputable def r_is_integer : Den := runF 1 b_is_integer
theorem is_integer_run {d : Dv} {t : Ty} (S : Sto) (e : tyD S d = some t) : r_is_integer [d] S = .ok (.bl (decide (t = .int))) S := by
  refine f_val0 rfl ?_ rfl
  unfold b_is_integer
  walk_at "fc"
  rw [e]
  cases t <;> walk_at "fc" <;> simp [isT, e] <;> walk_at "fc" <;> simp [isT, e]
theorem tyD_int {S : Sto} {d : Dv} (h : tyD S d = some .int) : ∃ i, d = .int i := by
  cases d with
  | int i => exact ⟨i, rfl⟩
  | ref n =>
    simp only [tyD] at h
    split at h <;> cases h
  | _ => cases h
noncomputable def b_is_between : DS :=
 (cSeq (cRet (eAnd (eCall 1 r_is_integer (lCons (eVar 0) lNil)) (eChain opLe opLe (eVar 1) (eVar 0) (eVar 2))))
 cNil)
noncomputable def r_is_between : Den := runF 3 b_is_between
theorem is_between_run (i lo hi : Int) (S : Sto) : r_is_between [.int i, .int lo, .int hi] S = .ok (.bl (decide (lo ≤ i) && decide (i ≤ hi))) S := by
  refine f_val0 rfl ?_ rfl
  unfold b_is_between
  walk_at "fc"
  rw [is_integer_run S ty_int]
  walk_at "fc"
  by_cases h1 : lo ≤ i
  · simp only [h1, decide_true]
    walk_at "fc"
    simp
  · simp only [h1, decide_false]
    walk_at "fc"
    simp
theorem is_between_not {d : Dv} {t : Ty} (lo hi : Int) (S : Sto) (e : tyD S d = some t) (h : t ≠ .int) : r_is_between [d, .int lo, .int hi] S = .ok (.bl false) S := by
  refine f_val0 rfl ?_ rfl
  unfold b_is_between
  walk_at "fc"
  rw [is_integer_run S e]
  simp only [h, decide_false]
  walk_at "fc"
/-! ### the greatest common divisor -/
noncomputable def b_greatest_divisor_L1 : DS :=
 (cSeq (cPar 0 1 (lCons (eVar 1) (lCons (eOp opMod (eVar 0) (eVar 1)) lNil)))
 cNil)
noncomputable def b_greatest_divisor : DS :=
 (cSeq (cPar 0 1 (lCons (eBi fAbs (lCons (eVar 0) lNil)) (lCons (eBi fAbs (lCons (eVar 1) lNil)) lNil)))
 (cSeq (cWhile (tTs (eOp opGt (eVar 1) (eC (.int 0)))) b_greatest_divisor_L1)
 (cSeq (cRet (eVar 0))
 cNil)))
noncomputable def r_greatest_divisor : Den := runF 2 b_greatest_divisor
theorem gcd_loop (S : Sto) : ∀ (n a b fuel : Nat), b < 2 ^ n → 2 * n < fuel →
    whileL (tTs (eOp opGt (eVar 1) (eC (.int 0)))) b_greatest_divisor_L1 fuel [some (.int (a : Nat)), some (.int (b : Nat))] S =
      .ok (.nx [some (.int (Nat.gcd a b : Nat)), some (.int 0)]) S := by
  have stop : ∀ (a fuel : Nat), 0 < fuel → whileL (tTs (eOp opGt (eVar 1) (eC (.int 0)))) b_greatest_divisor_L1 fuel [some (.int (a : Nat)), some (.int ((0 : Nat) : Int))] S =
      .ok (.nx [some (.int (Nat.gcd a 0 : Nat)), some (.int 0)]) S := by
    intro a fuel hf
    cases fuel with
    | zero => omega
    | succ f =>
      unfold whileL
      walk_at "fc"
      simp
  have go : ∀ (a b fuel : Nat), 0 < b → whileL (tTs (eOp opGt (eVar 1) (eC (.int 0)))) b_greatest_divisor_L1 (fuel + 1) [some (.int (a : Nat)), some (.int (b : Nat))] S =
      whileL (tTs (eOp opGt (eVar 1) (eC (.int 0)))) b_greatest_divisor_L1 fuel [some (.int (b : Nat)), some (.int ((a % b : Nat) : Int))] S := by
    intro a b fuel hb
    conv => lhs; unfold whileL
    walk_at "fc"
    have h1 : (0 : Int) < (b : Int) := by omega
    simp only [decide_eq_true h1, b_greatest_divisor_L1]
    walk_at "fc"
    simp only [opMod, if_pos h1]
    walk_at "fc"
    rw [Int.natCast_emod]
  intro n
  induction n with
  | zero =>
    intro a b fuel hb hf
    have : b = 0 := by omega
    subst this
    exact stop a fuel (by omega)
  | succ n ih =>
    intro a b fuel hb hf
    by_cases h0 : b = 0
    · subst h0
      exact stop a fuel (by omega)
    · obtain ⟨f2, rfl⟩ : ∃ f2, fuel = f2 + 1 := ⟨fuel - 1, by omega⟩
      rw [go a b f2 (by omega)]
      by_cases h1 : a % b = 0
      · rw [h1, stop b f2 (by omega), Nat.gcd_comm a b, Nat.gcd_rec b a, h1]
        simp
      · obtain ⟨f3, rfl⟩ : ∃ f3, f2 = f3 + 1 := ⟨f2 - 1, by omega⟩
        rw [go b (a % b) f3 (by omega)]
        have hlt : a % b < b := Nat.mod_lt _ (by omega)
        have hm : b % (a % b) < a % b := Nat.mod_lt _ (by omega)
        have hm2 : b % (a % b) + a % b ≤ b := by
          have e := Nat.div_add_mod b (a % b)
          have hd : 0 < b / (a % b) := Nat.div_pos (Nat.le_of_lt hlt) (by omega)
          have : a % b ≤ (a % b) * (b / (a % b)) := Nat.le_mul_of_pos_right _ hd
          omega
        have hh : b % (a % b) < 2 ^ n := by
          rw [Nat.pow_succ] at hb
          omega
        rw [ih (a % b) (b % (a % b)) f3 hh (by omega)]
        have e1 : Nat.gcd a b = Nat.gcd (a % b) (b % (a % b)) := by
          rw [Nat.gcd_comm a b, Nat.gcd_rec b a, Nat.gcd_rec (a % b) b, Nat.gcd_comm]
        rw [e1]
theorem greatest_divisor_run {a b : Int} (hb : b.natAbs < 2 ^ 100000000) (S : Sto) : r_greatest_divisor [.int a, .int b] S = .ok (.int (Int.gcd a b : Nat)) S := by
  refine f_val0 rfl ?_ rfl
  unfold b_greatest_divisor
  walk_at "fc"
  simp only [fAbs, abs_if]
  walk_at "fc"
  simp only [cWhile]
  have e := gcd_loop S 100000000 a.natAbs b.natAbs big hb (lt_big (by decide))
  rw [e]
  walk_at "fc"
  rfl
/-! ### fractions -/
/-- the fraction that a tuple holds -/
def fr (q : Rat) : Dv := .tup [.int q.num, .int q.den]
theorem fr_eq {a b : Int} {q : Rat} (h1 : q.num = a) (h2 : (q.den : Int) = b) : Dv.tup [.int a, .int b] = fr q := by rw [fr, h1, h2]
theorem fr_zero : Dv.tup [.int 0, .int 1] = fr 0 := rfl
theorem fr_one : Dv.tup [.int 1, .int 1] = fr 1 := rfl
theorem fr_plain (q : Rat) : (fr q).plain = true := rfl
theorem frs_plain (qs : List Rat) : Dv.plains (qs.map fr) = true := by
  rw [plains_all]
  simp [fr_plain]
theorem fr_inj {p q : Rat} (h : fr p = fr q) : p = q := by
  simp only [fr, Dv.tup.injEq, List.cons.injEq, Dv.int.injEq] at h
  exact Rat.ext h.1 (by omega)
/-- a quotient in lowest terms -/
theorem quot_parts {a b : Int} (h : 0 < b) : ((a : Rat) / (b : Rat)).num = a / (Int.gcd a b : Nat) ∧ ((((a : Rat) / (b : Rat)).den : Nat) : Int) = b / (Int.gcd a b : Nat) := by
  obtain ⟨n, rfl⟩ := Int.eq_ofNat_of_zero_le (Int.le_of_lt h)
  have hn : n ≠ 0 := by omega
  have e : (a : Rat) / ((n : Int) : Rat) = Rat.normalize a n hn := by
    rw [Rat.normalize_eq_mkRat, Rat.mkRat_eq_div]
    rfl
  rw [e, Rat.normalize_eq]
  exact ⟨rfl, by simp [Int.gcd]⟩
theorem quot_fr {a b : Int} (h : 0 < b) : Dv.tup [.int (a / (Int.gcd a b : Nat)), .int (b / (Int.gcd a b : Nat))] = fr ((a : Rat) / (b : Rat)) :=
  fr_eq (quot_parts h).1 (quot_parts h).2
/-- small enough for the model's division -/
def Sm (q : Rat) : Prop := q.num.natAbs < 2 ^ 4000 ∧ q.den < 2 ^ 4000
theorem gcd_div_ok {a b : Int} (h0 : 0 < b) (h1 : b.natAbs < 2 ^ 8000) : divOk (Int.gcd a b : Nat) = true := by
  have hg : 0 < Int.gcd a b := Int.gcd_pos_of_ne_zero_right a (by omega)
  have hle : Int.gcd a b ≤ b.natAbs := Nat.le_of_dvd (by omega) (Int.gcd_dvd_natAbs_right a b)
  exact divOk_of (a := 8000) (by omega) (by rw [Int.natAbs_natCast]; omega) (by decide) (by decide)
noncomputable def b_ratio : DS :=
 (cSeq (cSet 2 (eCall 2 r_greatest_divisor (lCons (eVar 0) (lCons (eVar 1) lNil))))
 (cSeq (cRet (eTup (lCons (eOp opDiv (eVar 0) (eVar 2)) (lCons (eOp opDiv (eVar 1) (eVar 2)) lNil))))
 cNil))
noncomputable def r_ratio : Den := runF 3 b_ratio
theorem ratio_run {a b : Int} (h0 : 0 < b) (h1 : b.natAbs < 2 ^ 8000) (S : Sto) : r_ratio [.int a, .int b] S = .ok (fr ((a : Rat) / (b : Rat))) S := by
  refine f_val0 rfl ?_ rfl
  unfold b_ratio
  walk_at "fc"
  rw [greatest_divisor_run (Nat.lt_of_lt_of_le h1 (Nat.pow_le_pow_right (by decide) (by decide)))]
  walk_at "fc"
  simp only [opDiv, if_pos (gcd_div_ok (a := a) h0 h1)]
  walk_at "fc"
  rw [quot_fr h0]
theorem Sm.mul {a b : Rat} (ha : Sm a) (hb : Sm b) : mulOk a.num b.num = true ∧ mulOk a.num b.den = true ∧ mulOk a.den b.den = true ∧ mulOk a.den b.num = true ∧ ((a.den : Int) * b.den).natAbs < 2 ^ 8000 :=
  have a2 : ((a.den : Int)).natAbs < 2 ^ 4000 := by rw [Int.natAbs_natCast]; exact ha.2
  have b2 : ((b.den : Int)).natAbs < 2 ^ 4000 := by rw [Int.natAbs_natCast]; exact hb.2
  ⟨mulOk_of ha.1 hb.1 (by decide) (by decide) (by decide), mulOk_of ha.1 b2 (by decide) (by decide) (by decide), mulOk_of a2 b2 (by decide) (by decide) (by decide), mulOk_of a2 hb.1 (by decide) (by decide) (by decide), abs_mul (a := 4000) (b := 4000) a2 b2⟩
theorem den_pos (a : Rat) : (0 : Int) < a.den := by have := a.den_pos; omega
theorem den_mul_pos (a b : Rat) : (0 : Int) < (a.den : Int) * b.den := Int.mul_pos (den_pos a) (den_pos b)
theorem num_den (a : Rat) : (a.num : Rat) = a * ((a.den : Int) : Rat) := by
  have := Rat.mkRat_self a
  rw [Rat.mkRat_eq_div] at this
  have h : ((a.den : Nat) : Rat) ≠ 0 := by
    intro e
    have := a.den_nz
    exact this (by exact_mod_cast e)
  rw [show (((a.den : Nat) : Int) : Rat) = ((a.den : Nat) : Rat) from rfl]
  grind
theorem den_ne (a : Rat) : ((a.den : Int) : Rat) ≠ 0 := by
  intro e
  have := a.den_nz
  exact this (by exact_mod_cast e)
noncomputable def b_plus : DS :=
 (cSeq (cRet (eCall 2 r_ratio (lCons (eOp (opAdd false) (eOp (opMul false) (eOp opIx (eVar 0) (eC (.int 0))) (eOp opIx (eVar 1) (eC (.int 1)))) (eOp (opMul false) (eOp opIx (eVar 1) (eC (.int 0))) (eOp opIx (eVar 0) (eC (.int 1))))) (lCons (eOp (opMul false) (eOp opIx (eVar 0) (eC (.int 1))) (eOp opIx (eVar 1) (eC (.int 1)))) lNil))))
 cNil)
noncomputable def r_plus : Den := runF 2 b_plus
theorem plus_run {a b : Rat} (ha : Sm a) (hb : Sm b) (S : Sto) : r_plus [fr a, fr b] S = .ok (fr (a + b)) S := by
  refine f_val0 rfl ?_ rfl
  unfold b_plus fr
  obtain ⟨m1, m2, m3, m4, m5⟩ := ha.mul hb
  obtain ⟨n1, n2, n3, n4, n5⟩ := hb.mul ha
  walk_at "fc"
  simp only [opMul, m2, n2, m3]
  walk_at "fc"
  rw [ratio_run (den_mul_pos a b) m5]
  walk_at "fc"
  have e : ((a.num * (b.den : Int) + b.num * (a.den : Int) : Int) : Rat) / (((a.den : Int) * (b.den : Int) : Int) : Rat) = a + b := by
    rw [Rat.intCast_add, Rat.intCast_mul, Rat.intCast_mul, Rat.intCast_mul, num_den a, num_den b]
    have := den_ne a
    have := den_ne b
    grind
  rw [e]
  rfl
noncomputable def b_minus : DS :=
 (cSeq (cRet (eCall 2 r_ratio (lCons (eOp opSub (eOp (opMul false) (eOp opIx (eVar 0) (eC (.int 0))) (eOp opIx (eVar 1) (eC (.int 1)))) (eOp (opMul false) (eOp opIx (eVar 1) (eC (.int 0))) (eOp opIx (eVar 0) (eC (.int 1))))) (lCons (eOp (opMul false) (eOp opIx (eVar 0) (eC (.int 1))) (eOp opIx (eVar 1) (eC (.int 1)))) lNil))))
 cNil)
noncomputable def r_minus : Den := runF 2 b_minus
theorem minus_run {a b : Rat} (ha : Sm a) (hb : Sm b) (S : Sto) : r_minus [fr a, fr b] S = .ok (fr (a - b)) S := by
  refine f_val0 rfl ?_ rfl
  unfold b_minus fr
  obtain ⟨m1, m2, m3, m4, m5⟩ := ha.mul hb
  obtain ⟨n1, n2, n3, n4, n5⟩ := hb.mul ha
  walk_at "fc"
  simp only [opMul, m2, n2, m3]
  walk_at "fc"
  rw [ratio_run (den_mul_pos a b) m5]
  walk_at "fc"
  have e : ((a.num * (b.den : Int) - b.num * (a.den : Int) : Int) : Rat) / (((a.den : Int) * (b.den : Int) : Int) : Rat) = a - b := by
    rw [Rat.intCast_sub, Rat.intCast_mul, Rat.intCast_mul, Rat.intCast_mul, num_den a, num_den b]
    have := den_ne a
    have := den_ne b
    grind
  rw [e]
  rfl
noncomputable def b_times : DS :=
 (cSeq (cRet (eCall 2 r_ratio (lCons (eOp (opMul false) (eOp opIx (eVar 0) (eC (.int 0))) (eOp opIx (eVar 1) (eC (.int 0)))) (lCons (eOp (opMul false) (eOp opIx (eVar 0) (eC (.int 1))) (eOp opIx (eVar 1) (eC (.int 1)))) lNil))))
 cNil)
noncomputable def r_times : Den := runF 2 b_times
theorem times_run {a b : Rat} (ha : Sm a) (hb : Sm b) (S : Sto) : r_times [fr a, fr b] S = .ok (fr (a * b)) S := by
  refine f_val0 rfl ?_ rfl
  unfold b_times fr
  obtain ⟨m1, m2, m3, m4, m5⟩ := ha.mul hb
  walk_at "fc"
  simp only [opMul, m1, m3]
  walk_at "fc"
  rw [ratio_run (den_mul_pos a b) m5]
  walk_at "fc"
  have e : ((a.num * b.num : Int) : Rat) / (((a.den : Int) * (b.den : Int) : Int) : Rat) = a * b := by
    rw [Rat.intCast_mul, Rat.intCast_mul, num_den a, num_den b]
    have := den_ne a
    have := den_ne b
    grind
  rw [e]
  rfl
noncomputable def b_over : DS :=
 (cSeq (cRet (eCall 2 r_ratio (lCons (eOp (opMul false) (eOp opIx (eVar 0) (eC (.int 0))) (eOp opIx (eVar 1) (eC (.int 1)))) (lCons (eOp (opMul false) (eOp opIx (eVar 0) (eC (.int 1))) (eOp opIx (eVar 1) (eC (.int 0)))) lNil))))
 cNil)
noncomputable def r_over : Den := runF 2 b_over
theorem over_run {a b : Rat} (ha : Sm a) (hb : Sm b) (h0 : 0 < b) (S : Sto) : r_over [fr a, fr b] S = .ok (fr (a / b)) S := by
  refine f_val0 rfl ?_ rfl
  unfold b_over fr
  obtain ⟨m1, m2, m3, m4, m5⟩ := ha.mul hb
  have hn : 0 < b.num := by
    rcases Int.lt_trichotomy b.num 0 with h | h | h
    · have := Rat.num_nonneg.mpr (Rat.le_of_lt h0)
      omega
    · have : b = 0 := Rat.num_eq_zero.mp h
      rw [this] at h0
      exact absurd h0 (by decide)
    · exact h
  walk_at "fc"
  simp only [opMul, m2, m4]
  walk_at "fc"
  have m6 : ((a.den : Int) * b.num).natAbs < 2 ^ 8000 := abs_mul (a := 4000) (b := 4000) (by rw [Int.natAbs_natCast]; exact ha.2) hb.1
  rw [ratio_run (Int.mul_pos (den_pos a) hn) m6]
  walk_at "fc"
  have e : ((a.num * (b.den : Int) : Int) : Rat) / (((a.den : Int) * b.num : Int) : Rat) = a / b := by
    rw [Rat.intCast_mul, Rat.intCast_mul, num_den a, num_den b]
    have := den_ne a
    have := den_ne b
    have : b ≠ 0 := by grind
    grind
  rw [e]
  rfl
end Fc

set_option exponentiation.threshold 256
set_option maxHeartbeats 4000000
set_option maxHeartbeats 4000000
set_option exponentiation.threshold 100000
/-! RatB: sizes, sums, powers, the common bottom, what is a fraction. -/
namespace Fc
open PySem L2
local macro_rules | `(tactic| walk_at "fc") => `(tactic| try simp only [runB, cSeq, cNil, cRet, cRetN, cExpr, cIf, cSet, cAsg, cPar, cAug, cRaise, cStore, cPass, cWipe, wipeD, toS_ok, toS_exn, toS_stuck, Res.bd_ok, Res.bd_exn, Res.bd_stuck, Res.bdN_ok, Res.bdN_exn, Res.bdN_stuck,
  eVar, eC, eTup, eLst, eOp, eChain, eUn, eAnd, eOr, eNot, eIf, eRep, tTs, tAnd2, tOr2, tNot2, tTrue, eCall, eBi, eIsi, eMtL, eSl, oNo, oSo, lNil, lCons, iSeq, iRange1, iRange2, zAdd, zSub, zMul, zDiv, zMod, ofO, opInt, opIn, opNotIn, opEq, opNe, opIs, opIsnt, mk_t, mk_f,
  List.map_cons, List.map_nil, List.length_cons, List.length_nil, List.replicate, List.append_nil, List.nil_append, List.cons_append, List.getElem?_cons_zero, List.getElem?_cons_succ, List.getElem?_nil, List.set_cons_zero, List.set_cons_succ, List.set_nil, lm0, lm1, lm2, lm3, lm4, lm5, lm6, lm7, lm8, lm9, asg_nm, asg_tp, asgs_nil, asgs_cons, Option.bind_some, Option.bind_none, Option.map_some, Option.map_none,
  Nat.reduceSub, Nat.reduceAdd, Nat.zero_add, Nat.add_zero, Nat.sub_self, if_true, if_false, reduceIte, Bool.false_eq_true, Bool.true_eq_false, Bool.not_true, Bool.not_false, ix_tup, ix_fz, at0, at1, at2, eDNew, eDGet, eDGet2, eDIn, eDPop, cDPut, cAugS, cSub2, dic_ref, keyOf, reduceCtorEq])
local macro_rules | `(tactic| walk_at "fo") => `(tactic| try simp only [*, runB, cSeq, cNil, cRet, cRetN, cExpr, cIf, cSet, cAsg, cPar, cAug, cRaise, cStore, cPass, cWipe, wipeD, toS_ok, toS_exn, toS_stuck, Res.bd_ok, Res.bd_exn, Res.bd_stuck, Res.bdN_ok, Res.bdN_exn, Res.bdN_stuck,
  eVar, eC, eTup, eLst, eOp, eChain, eUn, eAnd, eOr, eNot, eIf, eRep, tTs, tAnd2, tOr2, tNot2, tTrue, eCall, eBi, eIsi, eMtL, eSl, oNo, oSo, lNil, lCons, iSeq, iRange1, iRange2, zAdd, zSub, zMul, zDiv, zMod, ofO, opInt, opIn, opNotIn, opEq, opNe, opIs, opIsnt, mk_t, mk_f,
  List.map_cons, List.map_nil, List.length_cons, List.length_nil, List.replicate, List.append_nil, List.nil_append, List.cons_append, List.getElem?_cons_zero, List.getElem?_cons_succ, List.getElem?_nil, List.set_cons_zero, List.set_cons_succ, List.set_nil, lm0, lm1, lm2, lm3, lm4, lm5, lm6, lm7, lm8, lm9, asg_nm, asg_tp, asgs_nil, asgs_cons, Option.bind_some, Option.bind_none, Option.map_some, Option.map_none,
  Nat.reduceSub, Nat.reduceAdd, Nat.zero_add, Nat.add_zero, Nat.sub_self, if_true, if_false, reduceIte, Bool.false_eq_true, Bool.true_eq_false, Bool.not_true, Bool.not_false, ix_tup, ix_fz, at0, at1, at2, eDNew, eDGet, eDGet2, eDIn, eDPop, cDPut, cAugS, cSub2, dic_ref, keyOf, reduceCtorEq, and_self, Bool.and_self, decide_true, decide_false, List.append_assoc, List.length_append, Nat.add_assoc, at_new, at_newk, add_fz, add_rf, add_tt, ix_ref, seq_ref, list_ref, seq_tup, seq_fz, list_fz, ix_tup, ix_fz, neg_int, app_ref, set_newk, set_new0, iZ, iEn, sl_tup, sl_fz, eLcV, len_tup, len_ref, len_fz, tuple_fz, tuple_ref, ty_non, ty_bl, ty_int, ty_str, ty_tup, ty_fz])
local macro_rules | `(tactic| walk_at "fg") => `(tactic| try simp only [*, runB, cSeq, cNil, cRet, cRetN, cExpr, cIf, cSet, cAsg, cPar, cAug, cRaise, cStore, cPass, cWipe, wipeD, toS_ok, toS_exn, toS_stuck, Res.bd_ok, Res.bd_exn, Res.bd_stuck, Res.bdN_ok, Res.bdN_exn, Res.bdN_stuck,
  eVar, eC, eTup, eLst, eOp, eChain, eUn, eAnd, eOr, eNot, eIf, eRep, tTs, tAnd2, tOr2, tNot2, tTrue, eCall, eBi, eIsi, eMtL, eSl, oNo, oSo, lNil, lCons, iSeq, iRange1, iRange2, zAdd, zSub, zMul, zDiv, zMod, ofO, opInt, opIn, opNotIn, opEq, opNe, opIs, opIsnt, mk_t, mk_f,
  List.map_cons, List.map_nil, List.length_cons, List.length_nil, List.replicate, List.append_nil, List.nil_append, List.cons_append, List.getElem?_cons_zero, List.getElem?_cons_succ, List.getElem?_nil, List.set_cons_zero, List.set_cons_succ, List.set_nil, lm0, lm1, lm2, lm3, lm4, lm5, lm6, lm7, lm8, lm9, asg_nm, asg_tp, asgs_nil, asgs_cons, Option.bind_some, Option.bind_none, Option.map_some, Option.map_none,
  Nat.reduceSub, Nat.reduceAdd, Nat.zero_add, Nat.add_zero, Nat.sub_self, if_true, if_false, reduceIte, Bool.false_eq_true, Bool.true_eq_false, Bool.not_true, Bool.not_false, ix_tup, ix_fz, at0, at1, at2, eDNew, eDGet, eDGet2, eDIn, eDPop, cDPut, cAugS, cSub2, dic_ref, keyOf, reduceCtorEq, and_self, Bool.and_self, decide_true, decide_false, List.append_assoc, List.length_append, Nat.add_assoc, at_new, at_newk, add_fz, add_rf, add_tt, ix_ref, seq_ref, list_ref, seq_tup, seq_fz, list_fz, ix_tup, ix_fz, neg_int, app_ref, set_newk, set_new0, iZ, iEn, sl_tup, sl_fz, eLcV, len_tup, len_ref, len_fz, tuple_fz, tuple_ref, ty_non, ty_bl, ty_int, ty_str, ty_tup, ty_fz])
local macro_rules | `(tactic| walk_at "fs") => `(tactic| try simp [runB, cSeq, cNil, cRet, cRetN, cExpr, cIf, cSet, cAsg, cPar, cAug, cRaise, cStore, cPass, cWipe, wipeD, toS_ok, toS_exn, toS_stuck, Res.bd_ok, Res.bd_exn, Res.bd_stuck, Res.bdN_ok, Res.bdN_exn, Res.bdN_stuck,
  eVar, eC, eTup, eLst, eOp, eChain, eUn, eAnd, eOr, eNot, eIf, eRep, tTs, tAnd2, tOr2, tNot2, tTrue, eCall, eBi, eIsi, eMtL, eSl, oNo, oSo, lNil, lCons, iSeq, iRange1, iRange2, zAdd, zSub, zMul, zDiv, zMod, ofO, opInt, opIn, opNotIn, opEq, opNe, opIs, opIsnt, mk_t, mk_f,
  List.map_cons, List.map_nil, List.length_cons, List.length_nil, List.replicate, List.append_nil, List.nil_append, List.cons_append, List.getElem?_cons_zero, List.getElem?_cons_succ, List.getElem?_nil, List.set_cons_zero, List.set_cons_succ, List.set_nil, lm0, lm1, lm2, lm3, lm4, lm5, lm6, lm7, lm8, lm9, asg_nm, asg_tp, asgs_nil, asgs_cons, Option.bind_some, Option.bind_none, Option.map_some, Option.map_none,
  Nat.reduceSub, Nat.reduceAdd, Nat.zero_add, Nat.add_zero, Nat.sub_self, if_true, if_false, reduceIte, Bool.false_eq_true, Bool.true_eq_false, Bool.not_true, Bool.not_false, ix_tup, ix_fz, at0, at1, at2, eDNew, eDGet, eDGet2, eDIn, eDPop, cDPut, cAugS, cSub2, dic_ref, keyOf, reduceCtorEq, and_self, Bool.and_self, decide_true, decide_false, List.append_assoc, List.length_append, Nat.add_assoc, at_new, at_newk, add_fz, add_rf, add_tt, ix_ref, seq_ref, list_ref, seq_tup, seq_fz, list_fz, ix_tup, ix_fz, neg_int, app_ref, set_newk, set_new0, iZ, iEn, sl_tup, sl_fz, eLcV, len_tup, len_ref, len_fz, tuple_fz, tuple_ref, ty_non, ty_bl, ty_int, ty_str, ty_tup, ty_fz, isT, eqD_int, at0, at1])
local macro_rules | `(tactic| walk_at "fh") => `(tactic| try simp [*, runB, cSeq, cNil, cRet, cRetN, cExpr, cIf, cSet, cAsg, cPar, cAug, cRaise, cStore, cPass, cWipe, wipeD, toS_ok, toS_exn, toS_stuck, Res.bd_ok, Res.bd_exn, Res.bd_stuck, Res.bdN_ok, Res.bdN_exn, Res.bdN_stuck,
  eVar, eC, eTup, eLst, eOp, eChain, eUn, eAnd, eOr, eNot, eIf, eRep, tTs, tAnd2, tOr2, tNot2, tTrue, eCall, eBi, eIsi, eMtL, eSl, oNo, oSo, lNil, lCons, iSeq, iRange1, iRange2, zAdd, zSub, zMul, zDiv, zMod, ofO, opInt, opIn, opNotIn, opEq, opNe, opIs, opIsnt, mk_t, mk_f,
  List.map_cons, List.map_nil, List.length_cons, List.length_nil, List.replicate, List.append_nil, List.nil_append, List.cons_append, List.getElem?_cons_zero, List.getElem?_cons_succ, List.getElem?_nil, List.set_cons_zero, List.set_cons_succ, List.set_nil, lm0, lm1, lm2, lm3, lm4, lm5, lm6, lm7, lm8, lm9, asg_nm, asg_tp, asgs_nil, asgs_cons, Option.bind_some, Option.bind_none, Option.map_some, Option.map_none,
  Nat.reduceSub, Nat.reduceAdd, Nat.zero_add, Nat.add_zero, Nat.sub_self, if_true, if_false, reduceIte, Bool.false_eq_true, Bool.true_eq_false, Bool.not_true, Bool.not_false, ix_tup, ix_fz, at0, at1, at2, eDNew, eDGet, eDGet2, eDIn, eDPop, cDPut, cAugS, cSub2, dic_ref, keyOf, reduceCtorEq, and_self, Bool.and_self, decide_true, decide_false, List.append_assoc, List.length_append, Nat.add_assoc, at_new, at_newk, add_fz, add_rf, add_tt, ix_ref, seq_ref, list_ref, seq_tup, seq_fz, list_fz, ix_tup, ix_fz, neg_int, app_ref, set_newk, set_new0, iZ, iEn, sl_tup, sl_fz, eLcV, len_tup, len_ref, len_fz, tuple_fz, tuple_ref, ty_non, ty_bl, ty_int, ty_str, ty_tup, ty_fz, isT, eqD_int, at0, at1])
/-! ### sizes -/
def Bd (k : Nat) (q : Rat) : Prop := q.num.natAbs < 2 ^ k ∧ q.den < 2 ^ k
theorem Bd.sm {k : Nat} {q : Rat} (h : Bd k q) (hk : k ≤ 4000) : Sm q :=
  ⟨Nat.lt_of_lt_of_le h.1 (Nat.pow_le_pow_right (by decide) hk), Nat.lt_of_lt_of_le h.2 (Nat.pow_le_pow_right (by decide) hk)⟩
theorem Bd.mono {k l : Nat} {q : Rat} (h : Bd k q) (hk : k ≤ l) : Bd l q :=
  ⟨Nat.lt_of_lt_of_le h.1 (Nat.pow_le_pow_right (by decide) hk), Nat.lt_of_lt_of_le h.2 (Nat.pow_le_pow_right (by decide) hk)⟩
theorem natAbs_ediv_le (a : Int) (n : Nat) : (a / (n : Int)).natAbs ≤ a.natAbs := by
  rcases Nat.eq_zero_or_pos n with h | h
  · subst h
    simp
  · rcases Int.lt_or_le a 0 with ha | ha
    · have h1 : a ≤ a / (n : Int) := Int.le_ediv_of_mul_le (by omega) (by
        have : a * (n : Int) ≤ a * 1 := Int.mul_le_mul_of_nonpos_left (by omega) (by omega)
        omega)
      have h2 : a / (n : Int) ≤ 0 := Int.le_of_lt (Int.ediv_neg_of_neg_of_pos ha (by omega))
      omega
    · have h1 := Int.ediv_nonneg ha (by omega : 0 ≤ (n : Int))
      have h2 : a / (n : Int) ≤ a := Int.ediv_le_self _ ha
      omega
theorem Bd.quot {a b : Int} {k : Nat} (h0 : 0 < b) (h1 : a.natAbs < 2 ^ k) (h2 : b.natAbs < 2 ^ k) : Bd k ((a : Rat) / (b : Rat)) := by
  obtain ⟨e1, e2⟩ := quot_parts (a := a) h0
  refine ⟨?_, ?_⟩
  · rw [e1]
    exact Nat.lt_of_le_of_lt (natAbs_ediv_le _ _) h1
  · have : ((a : Rat) / (b : Rat)).den = (b / (Int.gcd a b : Nat)).natAbs := by omega
    rw [this]
    exact Nat.lt_of_le_of_lt (natAbs_ediv_le _ _) h2
theorem den_abs (q : Rat) : ((q.den : Int)).natAbs = q.den := Int.natAbs_natCast _
theorem Bd.dd {i j : Nat} {a b : Rat} (ha : Bd i a) (hb : Bd j b) : ((a.den : Int) * (b.den : Int)).natAbs < 2 ^ (i + j) := abs_mul (by rw [den_abs]; exact ha.2) (by rw [den_abs]; exact hb.2)
theorem add_quot (a b : Rat) : a + b = ((a.num * (b.den : Int) + b.num * (a.den : Int) : Int) : Rat) / (((a.den : Int) * (b.den : Int) : Int) : Rat) := by
  rw [Rat.intCast_add, Rat.intCast_mul, Rat.intCast_mul, Rat.intCast_mul, num_den a, num_den b]
  have := den_ne a
  have := den_ne b
  grind
theorem mul_quot (a b : Rat) : a * b = ((a.num * b.num : Int) : Rat) / (((a.den : Int) * (b.den : Int) : Int) : Rat) := by
  rw [Rat.intCast_mul, Rat.intCast_mul, num_den a, num_den b]
  have := den_ne a
  have := den_ne b
  grind
theorem Bd.add {i j : Nat} {a b : Rat} (ha : Bd i a) (hb : Bd j b) : Bd (i + j + 1) (a + b) := by
  rw [add_quot]
  refine Bd.quot (den_mul_pos a b) ?_ (Nat.lt_of_lt_of_le (ha.dd hb) (Nat.pow_le_pow_right (by decide) (by omega)))
  have h1 : (a.num * (b.den : Int)).natAbs < 2 ^ (i + j) := abs_mul ha.1 (by rw [den_abs]; exact hb.2)
  have h2 : (b.num * (a.den : Int)).natAbs < 2 ^ (j + i) := abs_mul hb.1 (by rw [den_abs]; exact ha.2)
  rw [Nat.add_comm j i] at h2
  rw [Nat.pow_succ]
  omega
theorem Bd.neg {i : Nat} {a : Rat} (ha : Bd i a) : Bd i (-a) := ⟨by simpa using ha.1, ha.2⟩
theorem Bd.sub {i j : Nat} {a b : Rat} (ha : Bd i a) (hb : Bd j b) : Bd (i + j + 1) (a - b) := by
  rw [Rat.sub_eq_add_neg]
  exact ha.add hb.neg
theorem Bd.mul {i j : Nat} {a b : Rat} (ha : Bd i a) (hb : Bd j b) : Bd (i + j) (a * b) := by
  rw [mul_quot]
  exact Bd.quot (den_mul_pos a b) (abs_mul ha.1 hb.1) (ha.dd hb)
/-! ### sums -/
def sumR (qs : List Rat) : Rat := qs.foldl (· + ·) 0
theorem foldl_addR (qs : List Rat) : ∀ a : Rat, qs.foldl (· + ·) a = a + sumR qs := by
  unfold sumR
  induction qs with
  | nil => intro a; simp only [List.foldl_nil]; grind
  | cons q qs ih =>
    intro a
    simp only [List.foldl_cons]
    rw [ih (a + q), ih (0 + q)]
    grind
theorem sumR_cons (q : Rat) (qs : List Rat) : sumR (q :: qs) = q + sumR qs := by
  conv => lhs; unfold sumR
  rw [List.foldl_cons, foldl_addR]
  grind
theorem sumR_nil : sumR [] = 0 := rfl
theorem sumR_append (ps qs : List Rat) : sumR (ps ++ qs) = sumR ps + sumR qs := by
  conv => lhs; unfold sumR
  rw [List.foldl_append, foldl_addR]
  rfl
noncomputable def b_added_L1 : DS :=
 (cSeq (cSet 1 (eCall 2 r_plus (lCons (eVar 1) (lCons (eVar 2) lNil))))
 (cWipe [2]))
noncomputable def b_added : DS :=
 (cSeq (cSet 1 (eC (.tup [.int 0, .int 1])))
 (cSeq (cFor (iSeq (eVar 0)) (.nm 2) b_added_L1)
 (cSeq (cRet (eVar 1))
 cNil)))
noncomputable def r_added : Den := runF 3 b_added
theorem added_run {qs : List Rat} {d : Dv} {S : Sto} (hd : seqOf S d = some (qs.map fr)) (hl : qs.length ≤ lim) (hs : ∀ pre post, qs = pre ++ post → Sm (sumR pre)) (hq : ∀ q ∈ qs, Sm q) :
    r_added [d] S = .ok (fr (sumR qs)) S := by
  refine f_val0 rfl ?_ rfl
  unfold b_added
  refine seq_go (set_go (d := fr 0) rfl) (seq_go (for_go (it := itSeq d) (S1 := S) ?_ ((for_pure qs fr (fun t => [some d, some (fr t), none]) (fun t q => t + q) (fun pre t => t = sumR pre) 0 (goes_seq hd) hl rfl ?_).1)) (seq_rt (ret_go rfl)))
  · walk_at "fc"
    rw [hd]
  · intro pre q post t e ht
    subst ht
    refine ⟨by rw [sumR_append, sumR_cons, sumR_nil]; grind, _, rfl, ?_⟩
    unfold b_added_L1
    walk_at "fc"
    rw [plus_run (hs pre _ e) (hq q (by rw [e]; simp))]
    walk_at "fc"
noncomputable def b_power_L1 : DS :=
 (cSeq (cSet 2 (eOp (opMul false) (eVar 2) (eVar 0)))
 (cWipe [3]))
noncomputable def b_power : DS :=
 (cSeq (cSet 2 (eC (.int 1)))
 (cSeq (cFor (iRange1 (lCons (eVar 1) lNil)) (.nm 3) b_power_L1)
 (cSeq (cRet (eVar 2))
 cNil)))
noncomputable def r_power : Den := runF 4 b_power
theorem pow_bd {b : Int} {k : Nat} (hb : b.natAbs < 2 ^ k) : ∀ n : Nat, (b ^ n).natAbs < 2 ^ (k * n + 1)
  | 0 => by simp
  | n + 1 => by
    rw [Int.pow_succ]
    have := abs_mul (pow_bd hb n) hb
    exact Nat.lt_of_lt_of_le this (Nat.pow_le_pow_right (by decide) (by rw [Nat.mul_succ]; omega))
theorem power_run {b : Int} {n : Nat} (hb : b.natAbs < 2 ^ 100) (hn : n ≤ 1000) (S : Sto) : r_power [.int b, .int (n : Nat)] S = .ok (.int (b ^ n)) S := by
  refine f_val0 rfl ?_ rfl
  unfold b_power
  have e : (List.range n).foldl (fun (t : Int) _ => t * b) 1 = b ^ n := by
    induction n with
    | zero => simp
    | succ n ih => rw [List.range_succ, List.foldl_append, ih (by omega), Int.pow_succ]; rfl
  have lp := (for_pure (it := itRange 0 n) (tg := .nm 3) (b := b_power_L1) (S := S) (List.range n) (fun i => .int (0 + (i : Nat))) (fun t : Int => [some (.int b), some (.int (n : Nat)), some (.int t), none]) (fun t _ => t * b) (fun pre t => t = b ^ pre.length) 1 (goes_range 0 n) (by simp; exact Nat.le_trans hn (by decide)) (by simp) ?_).1
  · rw [e] at lp
    refine seq_go (set_go (d := .int 1) rfl) (seq_go (for_go (it := itRange 0 n) (S1 := S) ?_ lp) (seq_rt (ret_go rfl)))
    walk_at "fc"
    have : rngB (n : Nat) = true := rngB_iff.mpr (by omega)
    simp [this]
  · intro pre i post t e2 ht
    have hl : pre.length < n := by
      have := congrArg List.length e2
      simp at this
      omega
    have hm : mulOk t b = true := by
      rw [ht]
      exact mulOk_of (pow_bd hb _) hb (by omega) (by decide) (by omega)
    refine ⟨by rw [ht, List.length_append, ← Int.pow_succ]; rfl, _, rfl, ?_⟩
    unfold b_power_L1
    walk_at "fc"
    rw [zMul hm]
    walk_at "fc"
end Fc

set_option exponentiation.threshold 256
set_option maxHeartbeats 4000000
set_option maxHeartbeats 4000000
/-! RatC: what is a fraction, the common bottom, what are chances. -/
namespace Fc
open PySem L2
local macro_rules | `(tactic| walk_at "fc") => `(tactic| try simp only [runB, cSeq, cNil, cRet, cRetN, cExpr, cIf, cSet, cAsg, cPar, cAug, cRaise, cStore, cPass, cWipe, wipeD, toS_ok, toS_exn, toS_stuck, Res.bd_ok, Res.bd_exn, Res.bd_stuck, Res.bdN_ok, Res.bdN_exn, Res.bdN_stuck,
  eVar, eC, eTup, eLst, eOp, eChain, eUn, eAnd, eOr, eNot, eIf, eRep, tTs, tAnd2, tOr2, tNot2, tTrue, eCall, eBi, eIsi, eMtL, eSl, oNo, oSo, lNil, lCons, iSeq, iRange1, iRange2, zAdd, zSub, zMul, zDiv, zMod, ofO, opInt, opIn, opNotIn, opEq, opNe, opIs, opIsnt, mk_t, mk_f,
  List.map_cons, List.map_nil, List.length_cons, List.length_nil, List.replicate, List.append_nil, List.nil_append, List.cons_append, List.getElem?_cons_zero, List.getElem?_cons_succ, List.getElem?_nil, List.set_cons_zero, List.set_cons_succ, List.set_nil, lm0, lm1, lm2, lm3, lm4, lm5, lm6, lm7, lm8, lm9, asg_nm, asg_tp, asgs_nil, asgs_cons, Option.bind_some, Option.bind_none, Option.map_some, Option.map_none,
  Nat.reduceSub, Nat.reduceAdd, Nat.zero_add, Nat.add_zero, Nat.sub_self, if_true, if_false, reduceIte, Bool.false_eq_true, Bool.true_eq_false, Bool.not_true, Bool.not_false, ix_tup, ix_fz, at0, at1, at2, eDNew, eDGet, eDGet2, eDIn, eDPop, cDPut, cAugS, cSub2, dic_ref, keyOf, reduceCtorEq])
local macro_rules | `(tactic| walk_at "fo") => `(tactic| try simp only [*, runB, cSeq, cNil, cRet, cRetN, cExpr, cIf, cSet, cAsg, cPar, cAug, cRaise, cStore, cPass, cWipe, wipeD, toS_ok, toS_exn, toS_stuck, Res.bd_ok, Res.bd_exn, Res.bd_stuck, Res.bdN_ok, Res.bdN_exn, Res.bdN_stuck,
  eVar, eC, eTup, eLst, eOp, eChain, eUn, eAnd, eOr, eNot, eIf, eRep, tTs, tAnd2, tOr2, tNot2, tTrue, eCall, eBi, eIsi, eMtL, eSl, oNo, oSo, lNil, lCons, iSeq, iRange1, iRange2, zAdd, zSub, zMul, zDiv, zMod, ofO, opInt, opIn, opNotIn, opEq, opNe, opIs, opIsnt, mk_t, mk_f,
  List.map_cons, List.map_nil, List.length_cons, List.length_nil, List.replicate, List.append_nil, List.nil_append, List.cons_append, List.getElem?_cons_zero, List.getElem?_cons_succ, List.getElem?_nil, List.set_cons_zero, List.set_cons_succ, List.set_nil, lm0, lm1, lm2, lm3, lm4, lm5, lm6, lm7, lm8, lm9, asg_nm, asg_tp, asgs_nil, asgs_cons, Option.bind_some, Option.bind_none, Option.map_some, Option.map_none,
  Nat.reduceSub, Nat.reduceAdd, Nat.zero_add, Nat.add_zero, Nat.sub_self, if_true, if_false, reduceIte, Bool.false_eq_true, Bool.true_eq_false, Bool.not_true, Bool.not_false, ix_tup, ix_fz, at0, at1, at2, eDNew, eDGet, eDGet2, eDIn, eDPop, cDPut, cAugS, cSub2, dic_ref, keyOf, reduceCtorEq, and_self, Bool.and_self, decide_true, decide_false, List.append_assoc, List.length_append, Nat.add_assoc, at_new, at_newk, add_fz, add_rf, add_tt, ix_ref, seq_ref, list_ref, seq_tup, seq_fz, list_fz, ix_tup, ix_fz, neg_int, app_ref, set_newk, set_new0, iZ, iEn, sl_tup, sl_fz, eLcV, len_tup, len_ref, len_fz, tuple_fz, tuple_ref, ty_non, ty_bl, ty_int, ty_str, ty_tup, ty_fz])
local macro_rules | `(tactic| walk_at "fg") => `(tactic| try simp only [*, runB, cSeq, cNil, cRet, cRetN, cExpr, cIf, cSet, cAsg, cPar, cAug, cRaise, cStore, cPass, cWipe, wipeD, toS_ok, toS_exn, toS_stuck, Res.bd_ok, Res.bd_exn, Res.bd_stuck, Res.bdN_ok, Res.bdN_exn, Res.bdN_stuck,
  eVar, eC, eTup, eLst, eOp, eChain, eUn, eAnd, eOr, eNot, eIf, eRep, tTs, tAnd2, tOr2, tNot2, tTrue, eCall, eBi, eIsi, eMtL, eSl, oNo, oSo, lNil, lCons, iSeq, iRange1, iRange2, zAdd, zSub, zMul, zDiv, zMod, ofO, opInt, opIn, opNotIn, opEq, opNe, opIs, opIsnt, mk_t, mk_f,
  List.map_cons, List.map_nil, List.length_cons, List.length_nil, List.replicate, List.append_nil, List.nil_append, List.cons_append, List.getElem?_cons_zero, List.getElem?_cons_succ, List.getElem?_nil, List.set_cons_zero, List.set_cons_succ, List.set_nil, lm0, lm1, lm2, lm3, lm4, lm5, lm6, lm7, lm8, lm9, asg_nm, asg_tp, asgs_nil, asgs_cons, Option.bind_some, Option.bind_none, Option.map_some, Option.map_none,
  Nat.reduceSub, Nat.reduceAdd, Nat.zero_add, Nat.add_zero, Nat.sub_self, if_true, if_false, reduceIte, Bool.false_eq_true, Bool.true_eq_false, Bool.not_true, Bool.not_false, ix_tup, ix_fz, at0, at1, at2, eDNew, eDGet, eDGet2, eDIn, eDPop, cDPut, cAugS, cSub2, dic_ref, keyOf, reduceCtorEq, and_self, Bool.and_self, decide_true, decide_false, List.append_assoc, List.length_append, Nat.add_assoc, at_new, at_newk, add_fz, add_rf, add_tt, ix_ref, seq_ref, list_ref, seq_tup, seq_fz, list_fz, ix_tup, ix_fz, neg_int, app_ref, set_newk, set_new0, iZ, iEn, sl_tup, sl_fz, eLcV, len_tup, len_ref, len_fz, tuple_fz, tuple_ref, ty_non, ty_bl, ty_int, ty_str, ty_tup, ty_fz])
local macro_rules | `(tactic| walk_at "fs") => `(tactic| try simp [runB, cSeq, cNil, cRet, cRetN, cExpr, cIf, cSet, cAsg, cPar, cAug, cRaise, cStore, cPass, cWipe, wipeD, toS_ok, toS_exn, toS_stuck, Res.bd_ok, Res.bd_exn, Res.bd_stuck, Res.bdN_ok, Res.bdN_exn, Res.bdN_stuck,
  eVar, eC, eTup, eLst, eOp, eChain, eUn, eAnd, eOr, eNot, eIf, eRep, tTs, tAnd2, tOr2, tNot2, tTrue, eCall, eBi, eIsi, eMtL, eSl, oNo, oSo, lNil, lCons, iSeq, iRange1, iRange2, zAdd, zSub, zMul, zDiv, zMod, ofO, opInt, opIn, opNotIn, opEq, opNe, opIs, opIsnt, mk_t, mk_f,
  List.map_cons, List.map_nil, List.length_cons, List.length_nil, List.replicate, List.append_nil, List.nil_append, List.cons_append, List.getElem?_cons_zero, List.getElem?_cons_succ, List.getElem?_nil, List.set_cons_zero, List.set_cons_succ, List.set_nil, lm0, lm1, lm2, lm3, lm4, lm5, lm6, lm7, lm8, lm9, asg_nm, asg_tp, asgs_nil, asgs_cons, Option.bind_some, Option.bind_none, Option.map_some, Option.map_none,
  Nat.reduceSub, Nat.reduceAdd, Nat.zero_add, Nat.add_zero, Nat.sub_self, if_true, if_false, reduceIte, Bool.false_eq_true, Bool.true_eq_false, Bool.not_true, Bool.not_false, ix_tup, ix_fz, at0, at1, at2, eDNew, eDGet, eDGet2, eDIn, eDPop, cDPut, cAugS, cSub2, dic_ref, keyOf, reduceCtorEq, and_self, Bool.and_self, decide_true, decide_false, List.append_assoc, List.length_append, Nat.add_assoc, at_new, at_newk, add_fz, add_rf, add_tt, ix_ref, seq_ref, list_ref, seq_tup, seq_fz, list_fz, ix_tup, ix_fz, neg_int, app_ref, set_newk, set_new0, iZ, iEn, sl_tup, sl_fz, eLcV, len_tup, len_ref, len_fz, tuple_fz, tuple_ref, ty_non, ty_bl, ty_int, ty_str, ty_tup, ty_fz, isT, eqD_int, at0, at1])
local macro_rules | `(tactic| walk_at "fh") => `(tactic| try simp [*, runB, cSeq, cNil, cRet, cRetN, cExpr, cIf, cSet, cAsg, cPar, cAug, cRaise, cStore, cPass, cWipe, wipeD, toS_ok, toS_exn, toS_stuck, Res.bd_ok, Res.bd_exn, Res.bd_stuck, Res.bdN_ok, Res.bdN_exn, Res.bdN_stuck,
  eVar, eC, eTup, eLst, eOp, eChain, eUn, eAnd, eOr, eNot, eIf, eRep, tTs, tAnd2, tOr2, tNot2, tTrue, eCall, eBi, eIsi, eMtL, eSl, oNo, oSo, lNil, lCons, iSeq, iRange1, iRange2, zAdd, zSub, zMul, zDiv, zMod, ofO, opInt, opIn, opNotIn, opEq, opNe, opIs, opIsnt, mk_t, mk_f,
  List.map_cons, List.map_nil, List.length_cons, List.length_nil, List.replicate, List.append_nil, List.nil_append, List.cons_append, List.getElem?_cons_zero, List.getElem?_cons_succ, List.getElem?_nil, List.set_cons_zero, List.set_cons_succ, List.set_nil, lm0, lm1, lm2, lm3, lm4, lm5, lm6, lm7, lm8, lm9, asg_nm, asg_tp, asgs_nil, asgs_cons, Option.bind_some, Option.bind_none, Option.map_some, Option.map_none,
  Nat.reduceSub, Nat.reduceAdd, Nat.zero_add, Nat.add_zero, Nat.sub_self, if_true, if_false, reduceIte, Bool.false_eq_true, Bool.true_eq_false, Bool.not_true, Bool.not_false, ix_tup, ix_fz, at0, at1, at2, eDNew, eDGet, eDGet2, eDIn, eDPop, cDPut, cAugS, cSub2, dic_ref, keyOf, reduceCtorEq, and_self, Bool.and_self, decide_true, decide_false, List.append_assoc, List.length_append, Nat.add_assoc, at_new, at_newk, add_fz, add_rf, add_tt, ix_ref, seq_ref, list_ref, seq_tup, seq_fz, list_fz, ix_tup, ix_fz, neg_int, app_ref, set_newk, set_new0, iZ, iEn, sl_tup, sl_fz, eLcV, len_tup, len_ref, len_fz, tuple_fz, tuple_ref, ty_non, ty_bl, ty_int, ty_str, ty_tup, ty_fz, isT, eqD_int, at0, at1])
/-! ### data of any kind -/
/-- a thing that isinstance can look at -/
def okT (S : Sto) (d : Dv) : Bool := (tyD S d).isSome
theorem okT_some {S : Sto} {d : Dv} (h : okT S d = true) : ∃ t, tyD S d = some t := Option.isSome_iff_exists.mp h
/-- an int of less than 600 bits -/
def okN : Dv → Bool
  | .int i => decide (i.natAbs < 2 ^ 600)
  | _ => true
/-- a thing whose parts can be looked at -/
def okF (S : Sto) : Dv → Bool
  | .tup ds => ds.all fun d => okT S d && okN d
  | d => okT S d
theorem okF_T {S : Sto} {d : Dv} (h : okF S d = true) : okT S d = true := by
  cases d with
  | tup ds => rfl
  | _ => exact h
/-- the fraction that a thing is -/
def isFr : Dv → Option Rat
  | .tup [.int a, .int b] => if 0 < b ∧ Int.gcd a b = 1 then some ((a : Rat) / (b : Rat)) else none
  | _ => none
theorem isFr_eq {d : Dv} {q : Rat} (h : isFr d = some q) : d = fr q := by
  unfold isFr at h
  split at h
  · rename_i a b
    split at h
    · rename_i hc
      cases h
      have := quot_fr (a := a) hc.1
      rw [hc.2] at this
      simpa using this
    · cases h
  · cases h
theorem isFr_fr (q : Rat) : isFr (fr q) = some q := by
  have h1 : (0 : Int) < q.den := den_pos q
  have h2 : Int.gcd q.num q.den = 1 := by
    have := q.reduced
    simpa [Int.gcd, Nat.Coprime] using this
  simp only [isFr, fr]
  rw [if_pos ⟨h1, h2⟩]
  congr 1
  rw [num_den q]
  have := den_ne q
  grind
noncomputable def b_is_fraction : DS :=
 (cSeq (cIf (tOr2 (tNot2 (tTs (eIsi .tup (eVar 0)))) (tTs (eOp opNe (eBi fLen (lCons (eVar 0) lNil)) (eC (.int 2)))))
 (cSeq (cRet (eC (.bl false)))
 cNil)
 cNil)
 (cSeq (cIf (tOr2 (tNot2 (tTs (eCall 1 r_is_integer (lCons (eOp opIx (eVar 0) (eC (.int 0))) lNil)))) (tOr2 (tNot2 (tTs (eCall 1 r_is_integer (lCons (eOp opIx (eVar 0) (eC (.int 1))) lNil)))) (tTs (eOp opLt (eOp opIx (eVar 0) (eC (.int 1))) (eC (.int 1))))))
 (cSeq (cRet (eC (.bl false)))
 cNil)
 cNil)
 (cSeq (cRet (eOp opEq (eCall 2 r_greatest_divisor (lCons (eOp opIx (eVar 0) (eC (.int 0))) (lCons (eOp opIx (eVar 0) (eC (.int 1))) lNil))) (eC (.int 1))))
 cNil)))
noncomputable def r_is_fraction : Den := runF 1 b_is_fraction
theorem is_fraction_run {d : Dv} {S : Sto} (h : okF S d = true) : r_is_fraction [d] S = .ok (.bl (isFr d).isSome) S := by
  refine f_val0 rfl ?_ rfl
  have other : ∀ t, tyD S d = some t → isT t .tup = false → isFr d = none → b_is_fraction [some d] S = .ok (.rt (.bl (isFr d).isSome)) S := by
    intro t e1 e2 e3
    rw [e3]
    unfold b_is_fraction
    walk_at "fc"
    simp only [e1, e2]
    walk_at "fc"
    simp
  have e0 : ([d].map some ++ List.replicate (1 - 1) none : Ev) = [some d] := rfl
  cases d with
  | tup ds =>
    by_cases hl : ds.length = 2
    · match ds, hl with
      | [a, b], _ =>
        clear other
        simp only [okF, List.all_cons, List.all_nil, Bool.and_true, Bool.and_eq_true] at h
        obtain ⟨ta, ea⟩ := okT_some h.1.1
        obtain ⟨tb, eb⟩ := okT_some h.2.1
        unfold b_is_fraction
        walk_at "fs"
        walk_at "fc"
        rw [is_integer_run S ea]
        walk_at "fc"
        by_cases h1 : ta = .int
        · subst h1
          obtain ⟨i, rfl⟩ := tyD_int ea
          simp only [decide_true]
          walk_at "fc"
          rw [is_integer_run S eb]
          walk_at "fc"
          by_cases h2 : tb = .int
          · subst h2
            obtain ⟨j, rfl⟩ := tyD_int eb
            simp only [decide_true]
            walk_at "fc"
            by_cases h3 : j < 1
            · have h4 : ¬ (0 < j ∧ Int.gcd i j = 1) := by omega
              simp [h3, isFr, h4]
            · simp only [h3, decide_false]
              walk_at "fc"
              have hj : j.natAbs < 2 ^ 100000000 := Nat.lt_of_lt_of_le (by simpa [okN] using h.2.2) (Nat.pow_le_pow_right (by decide) (by decide))
              rw [greatest_divisor_run hj]
              walk_at "fc"
              simp only [eqD_int]
              walk_at "fc"
              have h5 : 0 < j := by omega
              by_cases h6 : Int.gcd i j = 1
              · simp [isFr, h5, h6]
              · have h7 : ¬ ((Int.gcd i j : Nat) : Int) = 1 := by omega
                simp [isFr, h5, h6, h7]
          · simp only [h2, decide_false]
            walk_at "fc"
            have : isFr (.tup [.int i, b]) = none := by
              cases b with
              | int j => cases eb; exact absurd rfl h2
              | _ => rfl
            simp [this]
        · simp only [h1, decide_false]
          walk_at "fc"
          have : isFr (.tup [a, b]) = none := by
            cases a with
            | int j => cases ea; exact absurd rfl h1
            | _ => rfl
          simp [this]
    · have e3 : isFr (.tup ds) = none := by
        unfold isFr
        split
        · rename_i a b heq
          cases heq
          exact absurd rfl hl
        · rfl
      rw [e3]
      unfold b_is_fraction
      walk_at "fs"
      have : ¬ ((ds.length : Nat) : Int) = 2 := by omega
      simp [this]
  | non => exact other .non rfl (by decide) rfl
  | bl b => exact other .bl rfl (by decide) rfl
  | int i => exact other .int rfl (by decide) rfl
  | str x => exact other .str rfl (by decide) rfl
  | fz x => exact other .lst rfl (by decide) rfl
  | obj c x => cases h
  | ref n =>
    obtain ⟨t, e⟩ := okT_some (okF_T h)
    refine other t e ?_ rfl
    simp only [tyD] at e
    split at e
    · cases e; decide
    · cases e; decide
    · cases e; decide
    · cases e
/-! ### the common bottom -/
def lcmD (qs : List Rat) : Nat := qs.foldl (fun r q => Nat.lcm r q.den) 1
theorem lcm_eq (a : Nat) (b : Nat) : ((a : Int) * (b : Int)) / ((Int.gcd a b : Nat) : Int) = ((Nat.lcm a b : Nat) : Int) := by
  rw [← Int.natCast_mul]
  rfl
theorem lcm_bd {qs : List Rat} {k : Nat} (h : ∀ q ∈ qs, q.den < 2 ^ k) : ∀ (r m : Nat), r < 2 ^ m → qs.foldl (fun r q => Nat.lcm r q.den) r < 2 ^ (m + k * qs.length) := by
  induction qs with
  | nil => intro r m hr; simpa using hr
  | cons q qs ih =>
    intro r m hr
    have hq := h q (by simp)
    have h1 : Nat.lcm r q.den < 2 ^ (m + k) := by
      have : Nat.lcm r q.den ≤ r * q.den := by
        by_cases h0 : r * q.den = 0
        · rcases Nat.mul_eq_zero.mp h0 with z | z
          · simp [z]
          · exact absurd z q.den_nz
        · exact Nat.le_of_dvd (by omega) (Nat.lcm_dvd_mul r q.den)
      rw [Nat.pow_add]
      exact Nat.lt_of_le_of_lt this (Nat.mul_lt_mul'' hr hq)
    have := ih (fun p hp => h p (by simp [hp])) _ _ h1
    rw [List.foldl_cons, List.length_cons, Nat.mul_succ]
    exact Nat.lt_of_lt_of_le this (Nat.pow_le_pow_right (by decide) (by omega))
noncomputable def b_common_bottom_L1 : DS :=
 (cSeq (cSet 1 (eOp opDiv (eOp (opMul false) (eVar 1) (eVar 3)) (eCall 2 r_greatest_divisor (lCons (eVar 1) (lCons (eVar 3) lNil)))))
 (cWipe [2, 3]))
noncomputable def b_common_bottom : DS :=
 (cSeq (cSet 1 (eC (.int 1)))
 (cSeq (cFor (iSeq (eVar 0)) (.tp [(.nm 2), (.nm 3)]) b_common_bottom_L1)
 (cSeq (cRet (eVar 1))
 cNil)))
noncomputable def r_common_bottom : Den := runF 4 b_common_bottom
theorem common_bottom_run {qs : List Rat} {d : Dv} {S : Sto} (hd : seqOf S d = some (qs.map fr)) (hl : qs.length ≤ 1000) (hs : ∀ q ∈ qs, q.den < 2 ^ 4000) : r_common_bottom [d] S = .ok (.int (lcmD qs : Nat)) S := by
  refine f_val0 rfl ?_ rfl
  unfold b_common_bottom
  refine seq_go (set_go (d := .int 1) rfl) (seq_go (for_go (it := itSeq d) (S1 := S) ?_ ((for_pure qs fr (fun t : Nat => [some d, some (.int (t : Nat)), none, none]) (fun t q => Nat.lcm t q.den) (fun pre t => t < 2 ^ (1 + 4000 * pre.length) ∧ 0 < t) 1 (goes_seq hd) (Nat.le_trans hl (by decide)) ⟨by simp, by decide⟩ ?_).1)) (seq_rt (ret_go rfl)))
  · walk_at "fc"
    rw [hd]
  · intro pre q post t e ht
    have hq := hs q (by rw [e]; simp)
    have hpre : pre.length ≤ 1000 := by
      have := congrArg List.length e
      simp at this
      omega
    have h1 : Nat.lcm t q.den < 2 ^ (1 + 4000 * pre.length + 4000) := by
      have : Nat.lcm t q.den ≤ t * q.den := Nat.le_of_dvd (Nat.mul_pos ht.2 q.den_pos) (Nat.lcm_dvd_mul t q.den)
      rw [Nat.pow_add]
      exact Nat.lt_of_le_of_lt this (Nat.mul_lt_mul'' ht.1 hq)
    refine ⟨⟨?_, Nat.lcm_pos ht.2 q.den_pos⟩, _, rfl, ?_⟩
    · rw [List.length_append]
      exact Nat.lt_of_lt_of_le h1 (Nat.pow_le_pow_right (by decide) (by simp only [List.length_cons, List.length_nil]; omega))
    · unfold b_common_bottom_L1
      have hm : mulOk ((t : Nat) : Int) ((q.den : Nat) : Int) = true := mulOk_of (a := 1 + 4000 * pre.length) (b := 4000) (by rw [Int.natAbs_natCast]; exact ht.1) (by rw [Int.natAbs_natCast]; exact hq) (by omega) (by decide) (by omega)
      have hg : 0 < Int.gcd ((t : Nat) : Int) ((q.den : Nat) : Int) := Int.gcd_pos_of_ne_zero_right _ (by have := q.den_pos; omega)
      have hd2 : divOk (Int.gcd ((t : Nat) : Int) ((q.den : Nat) : Int) : Nat) = true := by
        refine divOk_of (a := 4000) (by omega) ?_ (by decide) (by decide)
        rw [Int.natAbs_natCast]
        have : Int.gcd ((t : Nat) : Int) ((q.den : Nat) : Int) ≤ q.den := by
          have := Nat.gcd_le_right t q.den_pos
          simpa [Int.gcd] using this
        omega
      walk_at "fc"
      rw [zMul hm]
      walk_at "fc"
      rw [greatest_divisor_run (by rw [Int.natAbs_natCast]; exact Nat.lt_of_lt_of_le hq (Nat.pow_le_pow_right (by decide) (by decide)))]
      walk_at "fc"
      rw [zDiv hd2]
      walk_at "fc"
      rw [lcm_eq]
/-! ### chances -/
structure Chances (qs : List Rat) : Prop where
  many : 1 ≤ qs.length ∧ qs.length ≤ 6
  nn : ∀ q ∈ qs, 0 ≤ q
  one : sumR qs = 1
  bot : lcmD qs ≤ 30
def chs (qs : List Rat) : Dv := .tup (qs.map fr)
/-- the fractions that a thing holds -/
def unFrs : List Dv → Option (List Rat)
  | [] => some []
  | d :: ds => match isFr d, unFrs ds with
    | some q, some qs => some (q :: qs)
    | _, _ => none
theorem unFrs_eq : ∀ {ds : List Dv} {qs : List Rat}, unFrs ds = some qs → ds = qs.map fr
  | [], _, h => by cases h; rfl
  | d :: ds, _, h => by
    simp only [unFrs] at h
    split at h
    · rename_i q qs e1 e2
      cases h
      rw [isFr_eq e1, unFrs_eq e2]
      rfl
    · cases h
theorem unFrs_map (qs : List Rat) : unFrs (qs.map fr) = some qs := by
  induction qs with
  | nil => rfl
  | cons q qs ih => simp [unFrs, isFr_fr, ih]
noncomputable instance : DecidablePred Chances := fun _ => Classical.propDecidable _
/-- whether a thing is chances -/
noncomputable def isCh : Dv → Bool
  | .tup ds => match unFrs ds with
    | some qs => decide (Chances qs)
    | none => false
  | _ => false
theorem isCh_chs {qs : List Rat} (h : Chances qs) : isCh (chs qs) = true := by
  simp only [isCh, chs, unFrs_map]
  exact decide_eq_true h
theorem isCh_eq {d : Dv} (h : isCh d = true) : ∃ qs, d = chs qs ∧ Chances qs := by
  unfold isCh at h
  split at h
  · split at h
    · rename_i ds qs e
      exact ⟨qs, by rw [unFrs_eq e]; rfl, of_decide_eq_true h⟩
    · cases h
  · cases h
/-- a thing that is_chances can look at -/
def okC (S : Sto) : Dv → Bool
  | .tup ds => ds.all (okF S)
  | d => okT S d
/-- a fraction that is not below nought -/
noncomputable def goodF (d : Dv) : Bool := match isFr d with
  | some q => decide (0 ≤ q)
  | none => false
theorem sum_bd {qs : List Rat} {k : Nat} (h : ∀ q ∈ qs, Bd k q) : Bd ((k + 1) * qs.length + 1) (sumR qs) := by
  induction qs with
  | nil => exact Bd.mono (k := 1) ⟨by decide, by decide⟩ (by omega)
  | cons q qs ih =>
    rw [sumR_cons]
    have := (h q (by simp)).add (ih fun p hp => h p (by simp [hp]))
    refine this.mono ?_
    rw [List.length_cons, Nat.mul_succ]
    omega
noncomputable def b_is_chances : DS :=
 (cSeq (cIf (tOr2 (tNot2 (tTs (eIsi .tup (eVar 0)))) (tNot2 (tTs (eChain opLe opLe (eC (.int 1)) (eBi fLen (lCons (eVar 0) lNil)) (eC (.int 6))))))
 (cSeq (cRet (eC (.bl false)))
 cNil)
 cNil)
 (cSeq (cIf (tNot2 (tTs (eBi fAll (lCons (eLcV (iSeq (eVar 0)) (.nm 1) tTrue (eAnd (eCall 1 r_is_fraction (lCons (eVar 1) lNil)) (eOp opGe (eOp opIx (eVar 1) (eC (.int 0))) (eC (.int 0)))) [1]) lNil))))
 (cSeq (cRet (eC (.bl false)))
 cNil)
 cNil)
 (cSeq (cRet (eAnd (eOp opEq (eCall 1 r_added (lCons (eVar 0) lNil)) (eC (.tup [.int 1, .int 1]))) (eOp opLe (eCall 1 r_common_bottom (lCons (eVar 0) lNil)) (eC (.int 30)))))
 cNil)))
noncomputable def r_is_chances : Den := runF 2 b_is_chances
theorem is_chances_elt {S : Sto} {x : Dv} (h : okF S x = true) {ρ : Ev} (h1 : ρ[1]? = some (some x)) :
    eAnd (eCall 1 r_is_fraction (lCons (eVar 1) lNil)) (eOp opGe (eOp opIx (eVar 1) (eC (.int 0))) (eC (.int 0))) ρ S = .ok (.bl (goodF x)) S := by
  walk_at "fc"
  rw [h1]
  walk_at "fc"
  rw [is_fraction_run h]
  walk_at "fc"
  cases e : isFr x with
  | none => simp [goodF, e]
  | some q =>
    have ex := isFr_eq e
    have e0 : opIx (fr q) (.int 0) S = some (.int q.num, S) := by simp only [fr, opIx, seqOf, at0]
    simp only [Option.isSome_some]
    subst ex
    walk_at "fc"
    rw [e0]
    walk_at "fc"
    simp only [goodF, e]
    congr 2
    rw [decide_eq_decide]
    exact Rat.num_nonneg
theorem eqD_fr (p q : Rat) (S : Sto) : eqD (fr p) (fr q) S = some (decide (p = q)) := by
  have e1 : SeqAt.shaped (.tuple [.int p.num, .int p.den]) = true := rfl
  have e2 : SeqAt.shaped (.tuple [.int q.num, .int q.den]) = true := rfl
  have e : eqD (fr p) (fr q) S = some (PyData.eqv (.tuple [.int p.num, .int p.den]) (.tuple [.int q.num, .int q.den])) := rfl
  rw [e]
  congr 1
  by_cases h : p = q
  · subst h
    simp [PyData.eqv, PyData.eqvAll]
  · rw [decide_eq_false h]
    have : ¬ (p.num = q.num ∧ p.den = q.den) := fun z => h (Rat.ext z.1 z.2)
    simp only [PyData.eqv, PyData.eqvAll]
    by_cases h1 : p.num = q.num
    · have h2 : ¬ ((p.den : Int) = (q.den : Int)) := fun z => this ⟨h1, by omega⟩
      simp [h1, h2]
      try omega
    · simp [h1]
end Fc

set_option exponentiation.threshold 256
set_option maxHeartbeats 4000000
set_option maxHeartbeats 4000000
/-! RatD: chances: is_chances, the checks, floors, digits, open words. -/
namespace Fc
open PySem L2
local macro_rules | `(tactic| walk_at "fc") => `(tactic| try simp only [runB, cSeq, cNil, cRet, cRetN, cExpr, cIf, cSet, cAsg, cPar, cAug, cRaise, cStore, cPass, cWipe, wipeD, toS_ok, toS_exn, toS_stuck, Res.bd_ok, Res.bd_exn, Res.bd_stuck, Res.bdN_ok, Res.bdN_exn, Res.bdN_stuck,
  eVar, eC, eTup, eLst, eOp, eChain, eUn, eAnd, eOr, eNot, eIf, eRep, tTs, tAnd2, tOr2, tNot2, tTrue, eCall, eBi, eIsi, eMtL, eSl, oNo, oSo, lNil, lCons, iSeq, iRange1, iRange2, zAdd, zSub, zMul, zDiv, zMod, ofO, opInt, opIn, opNotIn, opEq, opNe, opIs, opIsnt, mk_t, mk_f,
  List.map_cons, List.map_nil, List.length_cons, List.length_nil, List.replicate, List.append_nil, List.nil_append, List.cons_append, List.getElem?_cons_zero, List.getElem?_cons_succ, List.getElem?_nil, List.set_cons_zero, List.set_cons_succ, List.set_nil, lm0, lm1, lm2, lm3, lm4, lm5, lm6, lm7, lm8, lm9, asg_nm, asg_tp, asgs_nil, asgs_cons, Option.bind_some, Option.bind_none, Option.map_some, Option.map_none,
  Nat.reduceSub, Nat.reduceAdd, Nat.zero_add, Nat.add_zero, Nat.sub_self, if_true, if_false, reduceIte, Bool.false_eq_true, Bool.true_eq_false, Bool.not_true, Bool.not_false, ix_tup, ix_fz, at0, at1, at2, eDNew, eDGet, eDGet2, eDIn, eDPop, cDPut, cAugS, cSub2, dic_ref, keyOf, reduceCtorEq])
local macro_rules | `(tactic| walk_at "fo") => `(tactic| try simp only [*, runB, cSeq, cNil, cRet, cRetN, cExpr, cIf, cSet, cAsg, cPar, cAug, cRaise, cStore, cPass, cWipe, wipeD, toS_ok, toS_exn, toS_stuck, Res.bd_ok, Res.bd_exn, Res.bd_stuck, Res.bdN_ok, Res.bdN_exn, Res.bdN_stuck,
  eVar, eC, eTup, eLst, eOp, eChain, eUn, eAnd, eOr, eNot, eIf, eRep, tTs, tAnd2, tOr2, tNot2, tTrue, eCall, eBi, eIsi, eMtL, eSl, oNo, oSo, lNil, lCons, iSeq, iRange1, iRange2, zAdd, zSub, zMul, zDiv, zMod, ofO, opInt, opIn, opNotIn, opEq, opNe, opIs, opIsnt, mk_t, mk_f,
  List.map_cons, List.map_nil, List.length_cons, List.length_nil, List.replicate, List.append_nil, List.nil_append, List.cons_append, List.getElem?_cons_zero, List.getElem?_cons_succ, List.getElem?_nil, List.set_cons_zero, List.set_cons_succ, List.set_nil, lm0, lm1, lm2, lm3, lm4, lm5, lm6, lm7, lm8, lm9, asg_nm, asg_tp, asgs_nil, asgs_cons, Option.bind_some, Option.bind_none, Option.map_some, Option.map_none,
  Nat.reduceSub, Nat.reduceAdd, Nat.zero_add, Nat.add_zero, Nat.sub_self, if_true, if_false, reduceIte, Bool.false_eq_true, Bool.true_eq_false, Bool.not_true, Bool.not_false, ix_tup, ix_fz, at0, at1, at2, eDNew, eDGet, eDGet2, eDIn, eDPop, cDPut, cAugS, cSub2, dic_ref, keyOf, reduceCtorEq, and_self, Bool.and_self, decide_true, decide_false, List.append_assoc, List.length_append, Nat.add_assoc, at_new, at_newk, add_fz, add_rf, add_tt, ix_ref, seq_ref, list_ref, seq_tup, seq_fz, list_fz, ix_tup, ix_fz, neg_int, app_ref, set_newk, set_new0, iZ, iEn, sl_tup, sl_fz, eLcV, len_tup, len_ref, len_fz, tuple_fz, tuple_ref, ty_non, ty_bl, ty_int, ty_str, ty_tup, ty_fz])
local macro_rules | `(tactic| walk_at "fg") => `(tactic| try simp only [*, runB, cSeq, cNil, cRet, cRetN, cExpr, cIf, cSet, cAsg, cPar, cAug, cRaise, cStore, cPass, cWipe, wipeD, toS_ok, toS_exn, toS_stuck, Res.bd_ok, Res.bd_exn, Res.bd_stuck, Res.bdN_ok, Res.bdN_exn, Res.bdN_stuck,
  eVar, eC, eTup, eLst, eOp, eChain, eUn, eAnd, eOr, eNot, eIf, eRep, tTs, tAnd2, tOr2, tNot2, tTrue, eCall, eBi, eIsi, eMtL, eSl, oNo, oSo, lNil, lCons, iSeq, iRange1, iRange2, zAdd, zSub, zMul, zDiv, zMod, ofO, opInt, opIn, opNotIn, opEq, opNe, opIs, opIsnt, mk_t, mk_f,
  List.map_cons, List.map_nil, List.length_cons, List.length_nil, List.replicate, List.append_nil, List.nil_append, List.cons_append, List.getElem?_cons_zero, List.getElem?_cons_succ, List.getElem?_nil, List.set_cons_zero, List.set_cons_succ, List.set_nil, lm0, lm1, lm2, lm3, lm4, lm5, lm6, lm7, lm8, lm9, asg_nm, asg_tp, asgs_nil, asgs_cons, Option.bind_some, Option.bind_none, Option.map_some, Option.map_none,
  Nat.reduceSub, Nat.reduceAdd, Nat.zero_add, Nat.add_zero, Nat.sub_self, if_true, if_false, reduceIte, Bool.false_eq_true, Bool.true_eq_false, Bool.not_true, Bool.not_false, ix_tup, ix_fz, at0, at1, at2, eDNew, eDGet, eDGet2, eDIn, eDPop, cDPut, cAugS, cSub2, dic_ref, keyOf, reduceCtorEq, and_self, Bool.and_self, decide_true, decide_false, List.append_assoc, List.length_append, Nat.add_assoc, at_new, at_newk, add_fz, add_rf, add_tt, ix_ref, seq_ref, list_ref, seq_tup, seq_fz, list_fz, ix_tup, ix_fz, neg_int, app_ref, set_newk, set_new0, iZ, iEn, sl_tup, sl_fz, eLcV, len_tup, len_ref, len_fz, tuple_fz, tuple_ref, ty_non, ty_bl, ty_int, ty_str, ty_tup, ty_fz])
local macro_rules | `(tactic| walk_at "fs") => `(tactic| try simp [runB, cSeq, cNil, cRet, cRetN, cExpr, cIf, cSet, cAsg, cPar, cAug, cRaise, cStore, cPass, cWipe, wipeD, toS_ok, toS_exn, toS_stuck, Res.bd_ok, Res.bd_exn, Res.bd_stuck, Res.bdN_ok, Res.bdN_exn, Res.bdN_stuck,
  eVar, eC, eTup, eLst, eOp, eChain, eUn, eAnd, eOr, eNot, eIf, eRep, tTs, tAnd2, tOr2, tNot2, tTrue, eCall, eBi, eIsi, eMtL, eSl, oNo, oSo, lNil, lCons, iSeq, iRange1, iRange2, zAdd, zSub, zMul, zDiv, zMod, ofO, opInt, opIn, opNotIn, opEq, opNe, opIs, opIsnt, mk_t, mk_f,
  List.map_cons, List.map_nil, List.length_cons, List.length_nil, List.replicate, List.append_nil, List.nil_append, List.cons_append, List.getElem?_cons_zero, List.getElem?_cons_succ, List.getElem?_nil, List.set_cons_zero, List.set_cons_succ, List.set_nil, lm0, lm1, lm2, lm3, lm4, lm5, lm6, lm7, lm8, lm9, asg_nm, asg_tp, asgs_nil, asgs_cons, Option.bind_some, Option.bind_none, Option.map_some, Option.map_none,
  Nat.reduceSub, Nat.reduceAdd, Nat.zero_add, Nat.add_zero, Nat.sub_self, if_true, if_false, reduceIte, Bool.false_eq_true, Bool.true_eq_false, Bool.not_true, Bool.not_false, ix_tup, ix_fz, at0, at1, at2, eDNew, eDGet, eDGet2, eDIn, eDPop, cDPut, cAugS, cSub2, dic_ref, keyOf, reduceCtorEq, and_self, Bool.and_self, decide_true, decide_false, List.append_assoc, List.length_append, Nat.add_assoc, at_new, at_newk, add_fz, add_rf, add_tt, ix_ref, seq_ref, list_ref, seq_tup, seq_fz, list_fz, ix_tup, ix_fz, neg_int, app_ref, set_newk, set_new0, iZ, iEn, sl_tup, sl_fz, eLcV, len_tup, len_ref, len_fz, tuple_fz, tuple_ref, ty_non, ty_bl, ty_int, ty_str, ty_tup, ty_fz, isT, eqD_int, at0, at1])
local macro_rules | `(tactic| walk_at "fh") => `(tactic| try simp [*, runB, cSeq, cNil, cRet, cRetN, cExpr, cIf, cSet, cAsg, cPar, cAug, cRaise, cStore, cPass, cWipe, wipeD, toS_ok, toS_exn, toS_stuck, Res.bd_ok, Res.bd_exn, Res.bd_stuck, Res.bdN_ok, Res.bdN_exn, Res.bdN_stuck,
  eVar, eC, eTup, eLst, eOp, eChain, eUn, eAnd, eOr, eNot, eIf, eRep, tTs, tAnd2, tOr2, tNot2, tTrue, eCall, eBi, eIsi, eMtL, eSl, oNo, oSo, lNil, lCons, iSeq, iRange1, iRange2, zAdd, zSub, zMul, zDiv, zMod, ofO, opInt, opIn, opNotIn, opEq, opNe, opIs, opIsnt, mk_t, mk_f,
  List.map_cons, List.map_nil, List.length_cons, List.length_nil, List.replicate, List.append_nil, List.nil_append, List.cons_append, List.getElem?_cons_zero, List.getElem?_cons_succ, List.getElem?_nil, List.set_cons_zero, List.set_cons_succ, List.set_nil, lm0, lm1, lm2, lm3, lm4, lm5, lm6, lm7, lm8, lm9, asg_nm, asg_tp, asgs_nil, asgs_cons, Option.bind_some, Option.bind_none, Option.map_some, Option.map_none,
  Nat.reduceSub, Nat.reduceAdd, Nat.zero_add, Nat.add_zero, Nat.sub_self, if_true, if_false, reduceIte, Bool.false_eq_true, Bool.true_eq_false, Bool.not_true, Bool.not_false, ix_tup, ix_fz, at0, at1, at2, eDNew, eDGet, eDGet2, eDIn, eDPop, cDPut, cAugS, cSub2, dic_ref, keyOf, reduceCtorEq, and_self, Bool.and_self, decide_true, decide_false, List.append_assoc, List.length_append, Nat.add_assoc, at_new, at_newk, add_fz, add_rf, add_tt, ix_ref, seq_ref, list_ref, seq_tup, seq_fz, list_fz, ix_tup, ix_fz, neg_int, app_ref, set_newk, set_new0, iZ, iEn, sl_tup, sl_fz, eLcV, len_tup, len_ref, len_fz, tuple_fz, tuple_ref, ty_non, ty_bl, ty_int, ty_str, ty_tup, ty_fz, isT, eqD_int, at0, at1])
theorem goes_self {S : Sto} (ds : List Dv) : Goes (itSeq (.tup ds)) S ds fun x => x := goes_seq (by simp [seqOf])
theorem goes_selfL {S : Sto} (ds : List Dv) : Goes (itSeq (.fz ds)) S ds fun x => x := goes_seq (by simp [seqOf, listOf])
theorem all_fz {α : Type} (xs : List α) (c : α → Bool) (S : Sto) : fAll [.fz (xs.map fun x => .bl (c x))] S = some (.bl (xs.all c), S) := by
  have e : blsOf (xs.map fun x => Dv.bl (c x)) = some (xs.map c) := by
    induction xs with
    | nil => rfl
    | cons x xs ih => simp [blsOf, ih]
  simp only [fAll, listOf, e]
  simp [List.all_map]
theorem any_fz {α : Type} (xs : List α) (c : α → Bool) (S : Sto) : fAny [.fz (xs.map fun x => .bl (c x))] S = some (.bl (xs.any c), S) := by
  have e : blsOf (xs.map fun x => Dv.bl (c x)) = some (xs.map c) := by
    induction xs with
    | nil => rfl
    | cons x xs ih => simp [blsOf, ih]
  simp only [fAny, listOf, e]
  simp [List.any_map]
theorem unFrs_all : ∀ (ds : List Dv), (∀ d ∈ ds, (isFr d).isSome = true) → ∃ qs : List Rat, ds = qs.map fr
  | [], _ => ⟨[], rfl⟩
  | d :: ds, h => by
    obtain ⟨q, hq⟩ := Option.isSome_iff_exists.mp (h d (by simp))
    obtain ⟨qs, e⟩ := unFrs_all ds fun x hx => h x (by simp [hx])
    exact ⟨q :: qs, by rw [isFr_eq hq, e]; rfl⟩
theorem okF_bd {S : Sto} {q : Rat} (h : okF S (fr q) = true) : Bd 600 q := by
  simp only [okF, fr, List.all_cons, List.all_nil, Bool.and_true, Bool.and_eq_true, okN, decide_eq_true_eq] at h
  refine ⟨h.1.2, ?_⟩
  have := h.2.2
  rwa [Int.natAbs_natCast] at this
theorem is_chances_run {d : Dv} {S : Sto} (h : okC S d = true) : r_is_chances [d] S = .ok (.bl (isCh d)) S := by
  refine f_val0 rfl ?_ rfl
  have other : ∀ t, tyD S d = some t → isT t .tup = false → isCh d = false → b_is_chances ([d].map some ++ List.replicate (2 - [d].length) none) S = .ok (.rt (.bl (isCh d))) S := by
    intro t e1 e2 e3
    rw [e3]
    unfold b_is_chances
    walk_at "fc"
    simp only [e1, e2]
    walk_at "fc"
  cases d with
  | tup es =>
    clear other
    simp only [okC, List.all_eq_true] at h
    unfold b_is_chances
    by_cases hl : 1 ≤ es.length ∧ es.length ≤ 6
    · have hl1 : (1 : Int) ≤ (es.length : Int) := by omega
      have hl2 : (es.length : Int) ≤ 6 := by omega
      have lc : lcV (itSeq (.tup es)) (.nm 1) tTrue (eAnd (eCall 1 r_is_fraction (lCons (eVar 1) lNil)) (eOp opGe (eOp opIx (eVar 1) (eC (.int 0))) (eC (.int 0)))) [some (.tup es), none] big 0 [] S = .ok (.fz (es.map fun x => .bl (goodF x))) S :=
        lcV_map es (fun x => x) (fun x => .bl (goodF x)) (goes_self es) (Nat.le_trans hl.2 (by decide)) fun x hx => ⟨_, rfl, is_chances_elt (h x hx) rfl⟩
      walk_at "fs"
      simp [hl1, hl2]
      walk_at "fg"
      rw [all_fz]
      walk_at "fc"
      cases hA : es.all goodF with
      | false =>
        have e3 : isCh (.tup es) = false := by
          cases e : isCh (.tup es) with
          | false => rfl
          | true =>
            obtain ⟨qs, e1, e2⟩ := isCh_eq e
            cases e1
            have : (qs.map fr).all goodF = true := by
              simp only [List.all_map, List.all_eq_true, Function.comp_apply]
              intro q hq
              simp [goodF, isFr_fr, e2.nn q hq]
            rw [this] at hA
            cases hA
        rw [e3]
        walk_at "fc"
      | true =>
        have hg := List.all_eq_true.mp hA
        obtain ⟨qs, rfl⟩ := unFrs_all es fun d hd => by
          have := hg d hd
          unfold goodF at this
          cases e : isFr d with
          | none => rw [e] at this; cases this
          | some q => rfl
        have nn : ∀ q ∈ qs, 0 ≤ q := fun q hq => by
          have := hg (fr q) (List.mem_map_of_mem hq)
          simpa [goodF, isFr_fr] using this
        have bd : ∀ q ∈ qs, Bd 600 q := fun q hq => okF_bd (h (fr q) (List.mem_map_of_mem hq))
        rw [List.length_map] at hl
        have lcl : qs.length ≤ lim := Nat.le_trans hl.2 (by decide)
        have sm : ∀ pre post, qs = pre ++ post → Sm (sumR pre) := fun pre post e => by
          have hpl : pre.length ≤ 6 := by
            have := congrArg List.length e
            simp at this
            omega
          exact (sum_bd (k := 600) fun q hq => bd q (by rw [e]; simp [hq])).sm (by omega)
        walk_at "fc"
        rw [added_run (qs := qs) rfl lcl sm fun q hq => (bd q hq).sm (by decide)]
        walk_at "fc"
        rw [fr_one, eqD_fr]
        walk_at "fc"
        have hb : lcmD qs < 2 ^ (1 + 600 * qs.length) := lcm_bd (fun q hq => (bd q hq).2) 1 1 (by decide)
        by_cases h1 : sumR qs = 1
        · rw [decide_eq_true h1]
          walk_at "fc"
          rw [common_bottom_run (qs := qs) rfl (by omega) fun q hq => Nat.lt_of_lt_of_le (bd q hq).2 (Nat.pow_le_pow_right (by decide) (by decide))]
          walk_at "fc"
          congr 3
          simp only [isCh, unFrs_map]
          rw [decide_eq_decide]
          constructor
          · intro z
            exact ⟨hl, nn, h1, by omega⟩
          · intro z
            have := z.bot
            omega
        · rw [decide_eq_false h1]
          walk_at "fc"
          congr 3
          simp only [isCh, unFrs_map]
          symm
          exact decide_eq_false fun z => h1 z.one
    · have e3 : isCh (.tup es) = false := by
        cases e : isCh (.tup es) with
        | false => rfl
        | true =>
          obtain ⟨qs, e1, e2⟩ := isCh_eq e
          cases e1
          exact absurd (by simpa using e2.many) hl
      rw [e3]
      walk_at "fs"
      by_cases h1 : 1 ≤ es.length
      · have h2 : ¬ ((es.length : Int) ≤ 6) := by omega
        have h3 : (1 : Int) ≤ es.length := by omega
        simp [h2, h3]
      · have h3 : ¬ (1 : Int) ≤ es.length := by omega
        simp [h3]
  | non => exact other .non rfl (by decide) rfl
  | bl b => exact other .bl rfl (by decide) rfl
  | int i => exact other .int rfl (by decide) rfl
  | str x => exact other .str rfl (by decide) rfl
  | fz x => exact other .lst rfl (by decide) rfl
  | obj c x => cases h
  | ref n =>
    obtain ⟨t, e⟩ := okT_some (d := .ref n) h
    refine other t e ?_ rfl
    simp only [tyD] at e
    split at e
    · cases e; decide
    · cases e; decide
    · cases e; decide
    · cases e
end Fc

set_option exponentiation.threshold 256
set_option maxHeartbeats 4000000
set_option maxHeartbeats 4000000
/-! ChA: checks, floors, digits, open words, rests. -/
namespace Fc
open PySem L2
local macro_rules | `(tactic| walk_at "fc") => `(tactic| try simp only [runB, cSeq, cNil, cRet, cRetN, cExpr, cIf, cSet, cAsg, cPar, cAug, cRaise, cStore, cPass, cWipe, wipeD, toS_ok, toS_exn, toS_stuck, Res.bd_ok, Res.bd_exn, Res.bd_stuck, Res.bdN_ok, Res.bdN_exn, Res.bdN_stuck,
  eVar, eC, eTup, eLst, eOp, eChain, eUn, eAnd, eOr, eNot, eIf, eRep, tTs, tAnd2, tOr2, tNot2, tTrue, eCall, eBi, eIsi, eMtL, eSl, oNo, oSo, lNil, lCons, iSeq, iRange1, iRange2, zAdd, zSub, zMul, zDiv, zMod, ofO, opInt, opIn, opNotIn, opEq, opNe, opIs, opIsnt, mk_t, mk_f,
  List.map_cons, List.map_nil, List.length_cons, List.length_nil, List.replicate, List.append_nil, List.nil_append, List.cons_append, List.getElem?_cons_zero, List.getElem?_cons_succ, List.getElem?_nil, List.set_cons_zero, List.set_cons_succ, List.set_nil, lm0, lm1, lm2, lm3, lm4, lm5, lm6, lm7, lm8, lm9, asg_nm, asg_tp, asgs_nil, asgs_cons, Option.bind_some, Option.bind_none, Option.map_some, Option.map_none,
  Nat.reduceSub, Nat.reduceAdd, Nat.zero_add, Nat.add_zero, Nat.sub_self, if_true, if_false, reduceIte, Bool.false_eq_true, Bool.true_eq_false, Bool.not_true, Bool.not_false, ix_tup, ix_fz, at0, at1, at2, eDNew, eDGet, eDGet2, eDIn, eDPop, cDPut, cAugS, cSub2, dic_ref, keyOf, reduceCtorEq])
local macro_rules | `(tactic| walk_at "fo") => `(tactic| try simp only [*, runB, cSeq, cNil, cRet, cRetN, cExpr, cIf, cSet, cAsg, cPar, cAug, cRaise, cStore, cPass, cWipe, wipeD, toS_ok, toS_exn, toS_stuck, Res.bd_ok, Res.bd_exn, Res.bd_stuck, Res.bdN_ok, Res.bdN_exn, Res.bdN_stuck,
  eVar, eC, eTup, eLst, eOp, eChain, eUn, eAnd, eOr, eNot, eIf, eRep, tTs, tAnd2, tOr2, tNot2, tTrue, eCall, eBi, eIsi, eMtL, eSl, oNo, oSo, lNil, lCons, iSeq, iRange1, iRange2, zAdd, zSub, zMul, zDiv, zMod, ofO, opInt, opIn, opNotIn, opEq, opNe, opIs, opIsnt, mk_t, mk_f,
  List.map_cons, List.map_nil, List.length_cons, List.length_nil, List.replicate, List.append_nil, List.nil_append, List.cons_append, List.getElem?_cons_zero, List.getElem?_cons_succ, List.getElem?_nil, List.set_cons_zero, List.set_cons_succ, List.set_nil, lm0, lm1, lm2, lm3, lm4, lm5, lm6, lm7, lm8, lm9, asg_nm, asg_tp, asgs_nil, asgs_cons, Option.bind_some, Option.bind_none, Option.map_some, Option.map_none,
  Nat.reduceSub, Nat.reduceAdd, Nat.zero_add, Nat.add_zero, Nat.sub_self, if_true, if_false, reduceIte, Bool.false_eq_true, Bool.true_eq_false, Bool.not_true, Bool.not_false, ix_tup, ix_fz, at0, at1, at2, eDNew, eDGet, eDGet2, eDIn, eDPop, cDPut, cAugS, cSub2, dic_ref, keyOf, reduceCtorEq, and_self, Bool.and_self, decide_true, decide_false, List.append_assoc, List.length_append, Nat.add_assoc, at_new, at_newk, add_fz, add_rf, add_tt, ix_ref, seq_ref, list_ref, seq_tup, seq_fz, list_fz, ix_tup, ix_fz, neg_int, app_ref, set_newk, set_new0, iZ, iEn, sl_tup, sl_fz, eLcV, len_tup, len_ref, len_fz, tuple_fz, tuple_ref, ty_non, ty_bl, ty_int, ty_str, ty_tup, ty_fz])
local macro_rules | `(tactic| walk_at "fg") => `(tactic| try simp only [*, runB, cSeq, cNil, cRet, cRetN, cExpr, cIf, cSet, cAsg, cPar, cAug, cRaise, cStore, cPass, cWipe, wipeD, toS_ok, toS_exn, toS_stuck, Res.bd_ok, Res.bd_exn, Res.bd_stuck, Res.bdN_ok, Res.bdN_exn, Res.bdN_stuck,
  eVar, eC, eTup, eLst, eOp, eChain, eUn, eAnd, eOr, eNot, eIf, eRep, tTs, tAnd2, tOr2, tNot2, tTrue, eCall, eBi, eIsi, eMtL, eSl, oNo, oSo, lNil, lCons, iSeq, iRange1, iRange2, zAdd, zSub, zMul, zDiv, zMod, ofO, opInt, opIn, opNotIn, opEq, opNe, opIs, opIsnt, mk_t, mk_f,
  List.map_cons, List.map_nil, List.length_cons, List.length_nil, List.replicate, List.append_nil, List.nil_append, List.cons_append, List.getElem?_cons_zero, List.getElem?_cons_succ, List.getElem?_nil, List.set_cons_zero, List.set_cons_succ, List.set_nil, lm0, lm1, lm2, lm3, lm4, lm5, lm6, lm7, lm8, lm9, asg_nm, asg_tp, asgs_nil, asgs_cons, Option.bind_some, Option.bind_none, Option.map_some, Option.map_none,
  Nat.reduceSub, Nat.reduceAdd, Nat.zero_add, Nat.add_zero, Nat.sub_self, if_true, if_false, reduceIte, Bool.false_eq_true, Bool.true_eq_false, Bool.not_true, Bool.not_false, ix_tup, ix_fz, at0, at1, at2, eDNew, eDGet, eDGet2, eDIn, eDPop, cDPut, cAugS, cSub2, dic_ref, keyOf, reduceCtorEq, and_self, Bool.and_self, decide_true, decide_false, List.append_assoc, List.length_append, Nat.add_assoc, at_new, at_newk, add_fz, add_rf, add_tt, ix_ref, seq_ref, list_ref, seq_tup, seq_fz, list_fz, ix_tup, ix_fz, neg_int, app_ref, set_newk, set_new0, iZ, iEn, sl_tup, sl_fz, eLcV, len_tup, len_ref, len_fz, tuple_fz, tuple_ref, ty_non, ty_bl, ty_int, ty_str, ty_tup, ty_fz])
local macro_rules | `(tactic| walk_at "fs") => `(tactic| try simp [runB, cSeq, cNil, cRet, cRetN, cExpr, cIf, cSet, cAsg, cPar, cAug, cRaise, cStore, cPass, cWipe, wipeD, toS_ok, toS_exn, toS_stuck, Res.bd_ok, Res.bd_exn, Res.bd_stuck, Res.bdN_ok, Res.bdN_exn, Res.bdN_stuck,
  eVar, eC, eTup, eLst, eOp, eChain, eUn, eAnd, eOr, eNot, eIf, eRep, tTs, tAnd2, tOr2, tNot2, tTrue, eCall, eBi, eIsi, eMtL, eSl, oNo, oSo, lNil, lCons, iSeq, iRange1, iRange2, zAdd, zSub, zMul, zDiv, zMod, ofO, opInt, opIn, opNotIn, opEq, opNe, opIs, opIsnt, mk_t, mk_f,
  List.map_cons, List.map_nil, List.length_cons, List.length_nil, List.replicate, List.append_nil, List.nil_append, List.cons_append, List.getElem?_cons_zero, List.getElem?_cons_succ, List.getElem?_nil, List.set_cons_zero, List.set_cons_succ, List.set_nil, lm0, lm1, lm2, lm3, lm4, lm5, lm6, lm7, lm8, lm9, asg_nm, asg_tp, asgs_nil, asgs_cons, Option.bind_some, Option.bind_none, Option.map_some, Option.map_none,
  Nat.reduceSub, Nat.reduceAdd, Nat.zero_add, Nat.add_zero, Nat.sub_self, if_true, if_false, reduceIte, Bool.false_eq_true, Bool.true_eq_false, Bool.not_true, Bool.not_false, ix_tup, ix_fz, at0, at1, at2, eDNew, eDGet, eDGet2, eDIn, eDPop, cDPut, cAugS, cSub2, dic_ref, keyOf, reduceCtorEq, and_self, Bool.and_self, decide_true, decide_false, List.append_assoc, List.length_append, Nat.add_assoc, at_new, at_newk, add_fz, add_rf, add_tt, ix_ref, seq_ref, list_ref, seq_tup, seq_fz, list_fz, ix_tup, ix_fz, neg_int, app_ref, set_newk, set_new0, iZ, iEn, sl_tup, sl_fz, eLcV, len_tup, len_ref, len_fz, tuple_fz, tuple_ref, ty_non, ty_bl, ty_int, ty_str, ty_tup, ty_fz, isT, eqD_int, at0, at1])
local macro_rules | `(tactic| walk_at "fh") => `(tactic| try simp [*, runB, cSeq, cNil, cRet, cRetN, cExpr, cIf, cSet, cAsg, cPar, cAug, cRaise, cStore, cPass, cWipe, wipeD, toS_ok, toS_exn, toS_stuck, Res.bd_ok, Res.bd_exn, Res.bd_stuck, Res.bdN_ok, Res.bdN_exn, Res.bdN_stuck,
  eVar, eC, eTup, eLst, eOp, eChain, eUn, eAnd, eOr, eNot, eIf, eRep, tTs, tAnd2, tOr2, tNot2, tTrue, eCall, eBi, eIsi, eMtL, eSl, oNo, oSo, lNil, lCons, iSeq, iRange1, iRange2, zAdd, zSub, zMul, zDiv, zMod, ofO, opInt, opIn, opNotIn, opEq, opNe, opIs, opIsnt, mk_t, mk_f,
  List.map_cons, List.map_nil, List.length_cons, List.length_nil, List.replicate, List.append_nil, List.nil_append, List.cons_append, List.getElem?_cons_zero, List.getElem?_cons_succ, List.getElem?_nil, List.set_cons_zero, List.set_cons_succ, List.set_nil, lm0, lm1, lm2, lm3, lm4, lm5, lm6, lm7, lm8, lm9, asg_nm, asg_tp, asgs_nil, asgs_cons, Option.bind_some, Option.bind_none, Option.map_some, Option.map_none,
  Nat.reduceSub, Nat.reduceAdd, Nat.zero_add, Nat.add_zero, Nat.sub_self, if_true, if_false, reduceIte, Bool.false_eq_true, Bool.true_eq_false, Bool.not_true, Bool.not_false, ix_tup, ix_fz, at0, at1, at2, eDNew, eDGet, eDGet2, eDIn, eDPop, cDPut, cAugS, cSub2, dic_ref, keyOf, reduceCtorEq, and_self, Bool.and_self, decide_true, decide_false, List.append_assoc, List.length_append, Nat.add_assoc, at_new, at_newk, add_fz, add_rf, add_tt, ix_ref, seq_ref, list_ref, seq_tup, seq_fz, list_fz, ix_tup, ix_fz, neg_int, app_ref, set_newk, set_new0, iZ, iEn, sl_tup, sl_fz, eLcV, len_tup, len_ref, len_fz, tuple_fz, tuple_ref, ty_non, ty_bl, ty_int, ty_str, ty_tup, ty_fz, isT, eqD_int, at0, at1])
noncomputable def b_check_chances : DS :=
 (cSeq (cIf (tNot2 (tTs (eCall 1 r_is_chances (lCons (eVar 0) lNil))))
 (cSeq (cRaise 2)
 cNil)
 cNil)
 cNil)
noncomputable def r_check_chances : Den := runF 1 b_check_chances
theorem check_chances_ok {d : Dv} {S : Sto} (h : okC S d = true) (h2 : isCh d = true) : r_check_chances [d] S = .ok .non S := by
  refine f_non0 (ρ1 := [some d]) rfl ?_
  unfold b_check_chances
  walk_at "fc"
  rw [is_chances_run h, h2]
  walk_at "fc"
theorem check_chances_no {d : Dv} {S : Sto} (h : okC S d = true) (h2 : isCh d = false) : r_check_chances [d] S = .exn 2 S := by
  refine f_exn0 (ρ1 := [some d]) rfl ?_
  unfold b_check_chances
  walk_at "fc"
  rw [is_chances_run h, h2]
  walk_at "fc"
theorem okC_chs (qs : List Rat) (h : ∀ q ∈ qs, Bd 600 q) (S : Sto) : okC S (chs qs) = true := by
  simp only [okC, chs, List.all_eq_true, List.mem_map]
  rintro d ⟨q, hq, rfl⟩
  have := h q hq
  simp [okF, fr, okT, tyD, okN, this.1, this.2]
theorem den_dvd {qs : List Rat} {q : Rat} (hq : q ∈ qs) : q.den ∣ lcmD qs := by
  have key : ∀ (l : List Rat) (r : Nat), r ∣ l.foldl (fun r q => Nat.lcm r q.den) r ∧ ∀ q ∈ l, q.den ∣ l.foldl (fun r q => Nat.lcm r q.den) r := by
    intro l
    induction l with
    | nil => intro r; simp
    | cons p l ih =>
      intro r
      obtain ⟨h1, h2⟩ := ih (Nat.lcm r p.den)
      refine ⟨Nat.dvd_trans (Nat.dvd_lcm_left _ _) h1, fun q hq => ?_⟩
      rcases List.mem_cons.mp hq with rfl | hq
      · exact Nat.dvd_trans (Nat.dvd_lcm_right _ _) h1
      · exact h2 q hq
  exact (key qs 1).2 q hq
theorem lcm_pos (qs : List Rat) : 0 < lcmD qs := by
  have key : ∀ (l : List Rat) (r : Nat), 0 < r → 0 < l.foldl (fun r q => Nat.lcm r q.den) r := by
    intro l
    induction l with
    | nil => intro r h; exact h
    | cons p l ih => intro r h; exact ih _ (Nat.lcm_pos h p.den_pos)
  exact key qs 1 (by decide)
theorem sum_ge {qs : List Rat} (h : ∀ q ∈ qs, 0 ≤ q) : 0 ≤ sumR qs := by
  induction qs with
  | nil => exact Rat.le_refl
  | cons q qs ih =>
    rw [sumR_cons]
    have h1 := h q (by simp)
    have h2 := ih fun p hp => h p (by simp [hp])
    grind
theorem le_sum {qs : List Rat} (h : ∀ q ∈ qs, 0 ≤ q) {p : Rat} (hp : p ∈ qs) : p ≤ sumR qs := by
  induction qs with
  | nil => cases hp
  | cons q qs ih =>
    rw [sumR_cons]
    have h1 := h q (by simp)
    have h2 := sum_ge (qs := qs) fun p hp => h p (by simp [hp])
    rcases List.mem_cons.mp hp with rfl | hp
    · grind
    · have := ih (fun p hp => h p (by simp [hp])) hp
      grind
namespace Chances
variable {qs : List Rat}
theorem den_le (h : Chances qs) {q : Rat} (hq : q ∈ qs) : q.den ≤ 30 := Nat.le_trans (Nat.le_of_dvd (lcm_pos qs) (den_dvd hq)) h.bot
theorem le_one (h : Chances qs) {q : Rat} (hq : q ∈ qs) : q ≤ 1 := by
  have := le_sum h.nn hq
  rwa [h.one] at this
theorem num_le (h : Chances qs) {q : Rat} (hq : q ∈ qs) : 0 ≤ q.num ∧ q.num ≤ q.den := by
  refine ⟨Rat.num_nonneg.mpr (h.nn q hq), ?_⟩
  have h1 := h.le_one hq
  rw [Rat.le_iff] at h1
  simpa using h1
theorem bd (h : Chances qs) {q : Rat} (hq : q ∈ qs) : Bd 5 q := by
  have h1 := h.den_le hq
  have h2 := h.num_le hq
  exact ⟨by omega, by omega⟩
theorem okC (h : Chances qs) (S : Sto) : Fc.okC S (chs qs) = true := okC_chs qs (fun q hq => (h.bd hq).mono (by decide)) S
end Chances
noncomputable def b_check_sides : DS :=
 (cSeq (cIf (tNot2 (tTs (eCall 3 r_is_between (lCons (eVar 0) (lCons (eC (.int 2)) (lCons (eC (.int 6)) lNil))))))
 (cSeq (cRaise 0)
 cNil)
 cNil)
 cNil)
noncomputable def r_check_sides : Den := runF 1 b_check_sides
theorem check_sides_ok {s : Int} (h : 2 ≤ s ∧ s ≤ 6) (S : Sto) : r_check_sides [.int s] S = .ok .non S := by
  refine f_non0 (ρ1 := [some (.int s)]) rfl ?_
  unfold b_check_sides
  walk_at "fc"
  rw [is_between_run]
  simp only [h.1, h.2, decide_true, Bool.and_self]
  walk_at "fc"
theorem check_sides_no {d : Dv} {S : Sto} {t : Ty} (e : tyD S d = some t) (h : ∀ s : Int, d = .int s → ¬ (2 ≤ s ∧ s ≤ 6)) : r_check_sides [d] S = .exn 0 S := by
  refine f_exn0 (ρ1 := [some d]) rfl ?_
  unfold b_check_sides
  walk_at "fc"
  by_cases ht : t = .int
  · subst ht
    obtain ⟨i, rfl⟩ := tyD_int e
    have hb : (decide (2 ≤ i) && decide (i ≤ 6)) = false := by
      rw [← Bool.not_eq_true]
      simp only [Bool.and_eq_true, decide_eq_true_eq]
      exact h i rfl
    rw [is_between_run, hb]
    walk_at "fc"
  · rw [is_between_not 2 6 S e ht]
    walk_at "fc"
noncomputable def b_check_throws : DS :=
 (cSeq (cIf (tNot2 (tTs (eCall 3 r_is_between (lCons (eVar 0) (lCons (eC (.int 0)) (lCons (eVar 1) lNil))))))
 (cSeq (cRaise 1)
 cNil)
 cNil)
 cNil)
noncomputable def r_check_throws : Den := runF 2 b_check_throws
theorem check_throws_ok {k m : Int} (h : 0 ≤ k ∧ k ≤ m) (S : Sto) : r_check_throws [.int k, .int m] S = .ok .non S := by
  refine f_non0 (ρ1 := [some (.int k), some (.int m)]) rfl ?_
  unfold b_check_throws
  walk_at "fc"
  rw [is_between_run]
  simp only [h.1, h.2, decide_true, Bool.and_self]
  walk_at "fc"
theorem check_throws_no {d : Dv} {S : Sto} {t : Ty} {m : Int} (e : tyD S d = some t) (h : ∀ s : Int, d = .int s → ¬ (0 ≤ s ∧ s ≤ m)) : r_check_throws [d, .int m] S = .exn 1 S := by
  refine f_exn0 (ρ1 := [some d, some (.int m)]) rfl ?_
  unfold b_check_throws
  walk_at "fc"
  by_cases ht : t = .int
  · subst ht
    obtain ⟨i, rfl⟩ := tyD_int e
    have hb : (decide (0 ≤ i) && decide (i ≤ m)) = false := by
      rw [← Bool.not_eq_true]
      simp only [Bool.and_eq_true, decide_eq_true_eq]
      exact h i rfl
    rw [is_between_run, hb]
    walk_at "fc"
  · rw [is_between_not 0 m S e ht]
    walk_at "fc"
/-! ### floors -/
/-- the greatest integer that is not above s ^ k q -/
def flo (s : Int) (k : Nat) (q : Rat) : Int := s ^ k * q.num / q.den
noncomputable def b_floors : DS :=
 (cSeq (cSet 3 (eCall 2 r_power (lCons (eVar 1) (lCons (eVar 2) lNil))))
 (cSeq (cRet (eLcV (iSeq (eVar 0)) (.tp [(.nm 4), (.nm 5)]) tTrue (eOp opDiv (eOp (opMul false) (eVar 3) (eVar 4)) (eVar 5)) [4, 5]))
 cNil))
noncomputable def r_floors : Den := runF 6 b_floors
theorem divOk_den {q : Rat} (h : q.den < 2 ^ 4000) : divOk q.den = true := divOk_of (a := 4000) (den_pos q) (by rw [Int.natAbs_natCast]; exact h) (by decide) (by decide)
theorem floors_run {qs : List Rat} {s : Int} {k : Nat} (hl : qs.length ≤ lim) (hq : ∀ q ∈ qs, Sm q) (hs : s.natAbs < 2 ^ 100) (hk : k ≤ 1000) (S : Sto) : r_floors [chs qs, .int s, .int (k : Nat)] S = .ok (.fz (qs.map fun q => .int (flo s k q))) S := by
  have pl : Dv.plain (.fz (qs.map fun q => .int (flo s k q))) = true := by
    simp [Dv.plain, plains_all]
  refine f_val0 rfl ?_ pl
  unfold b_floors
  walk_at "fc"
  rw [power_run hs hk]
  walk_at "fc"
  have lc := lcV_map (it := itSeq (chs qs)) (tg := .tp [.nm 4, .nm 5]) (elt := eOp opDiv (eOp (opMul false) (eVar 3) (eVar 4)) (eVar 5)) (ρ := [some (chs qs), some (.int s), some (.int (k : Nat)), some (.int (s ^ k)), none, none]) (S := S) qs fr (fun q => .int (flo s k q)) (goes_tup qs fr) hl fun q h => ⟨_, rfl, by
    have m1 : mulOk (s ^ k) q.num = true := mulOk_of (pow_bd hs k) (hq q h).1 (by omega) (by decide) (by omega)
    walk_at "fc"
    rw [zMul m1]
    walk_at "fc"
    rw [zDiv (divOk_den (hq q h).2)]
    walk_at "fc"
    rfl⟩
  walk_at "fg"
  simp only [chs, seq_tup]
  walk_at "fg"
  rw [← chs, lc]
  walk_at "fc"
end Fc

set_option exponentiation.threshold 256
set_option maxHeartbeats 4000000
set_option maxHeartbeats 4000000
/-! FcMore: sum of a list or a tuple. -/
namespace Fc
open PySem L2
section
open PySem.W PyProof.Rows
variable {X : Cx} {C : Nat → Addr}
theorem sum_rawT {prog : Program} {w : World} {A : Around} {E : Value → Shared → Prop} {s : Shared} {t : Addr} {its : List Value} {ns : List Int} {Q : Value → Shared → Prop} (hh : A.handled = none) (hl : s.heap.IsTuple t its.toArray) (hi : IntsAre its ns)
    (h : ∀ h' tk t', (∀ b o, s.heap.get? b = some o → h'.get? b = some o) → Q (.int ns.sum t') { s with heap := h', toks := tk }) : wpAny (model prog w) A (call (.builtin "sum") [.ref t]) Q E s := by
  obtain ⟨xs, e⟩ := hi.allInts.items
  have hn : numsOf (intItems xs).toList = ns := by rw [← e]; exact hi.numsOf
  rw [nums_intItems] at hn
  rw [e] at hl
  refine PySem.W.ktm_sumG hh hl fun h' tk t' hk => ?_
  have := h h' tk t' hk
  rw [preSum_eq, List.take_of_length_le (by simp), hn]; exact this
theorem cr_sumT (hc : X.calm = true) : CallR X (.builtin "sum") (fun vs H Q => ∃ (a : Addr) (ns : List Int), vs = [V.ref a] ∧ SqT X.K H a (ns.map V.int) ∧ Q (.int ns.sum) H) := by
  intro pins s σ H vs us Q I r h
  obtain ⟨a, ns, rfl, hs, q⟩ := h
  obtain ⟨its, rv, hl, _⟩ := I.tuple hs
  rw [Vals.ref1 r]
  exact sum_rawT (I.ok.hd hc) hl rv.ints fun h' tk t' hk => ⟨.int _, H, I.kept hk, ⟨_, rfl⟩, q⟩
end
def fSumS : OpN := fun ds S => match ds with
  | [d] => match seqOf S d with
    | some es => match intsOf es with
      | some ns => some (.int ns.sum, S)
      | none => none
    | none => none
  | _ => none
theorem cas_sumS {X : Cx} {C : Nat → Addr} (hc : X.calm = true) : CaS X C (.builtin "sum") fSumS := by
  intro pins s σ H vs us Q I r h
  obtain ⟨μ, S, ds, sr, vr, q⟩ := h
  unfold fSumS at q
  split at q
  · split at q
    · rename_i es e1
      split at q
      · rename_i bs e2
        obtain ⟨v, t, rfl, h1, h2⟩ := VRs_cons.mp vr
        cases VRs_nil.mp h2
        obtain ⟨a, ws, rfl, hq, h3⟩ := seqOf_sq sr e1 h1
        rw [intsOf_eq e2] at h3
        cases VRs.ints.mp h3
        rcases hq with hq | hq
        · exact cr_sum hc pins s σ H _ us Q I r ⟨a, bs, rfl, hq, old_val sr (VR_int.mpr rfl) q⟩
        · exact cr_sumT hc pins s σ H _ us Q I r ⟨a, bs, rfl, hq, old_val sr (VR_int.mpr rfl) q⟩
      · exact q.elim
    · exact q.elim
  · exact q.elim
theorem ints_f {α : Type} (xs : List α) (f : α → Int) : intsOf (xs.map fun x => .int (f x)) = some (xs.map f) := by
  have := intsOf_map (xs.map f)
  rwa [List.map_map] at this
theorem sum_fz {α : Type} (xs : List α) (f : α → Int) (S : Sto) : fSumS [.fz (xs.map fun x => .int (f x))] S = some (.int (xs.map f).sum, S) := by
  simp only [fSumS, seqOf, listOf, ints_f]
theorem sum_tu {α : Type} (xs : List α) (f : α → Int) (S : Sto) : fSumS [.tup (xs.map fun x => .int (f x))] S = some (.int (xs.map f).sum, S) := by
  simp only [fSumS, seqOf, ints_f]
end Fc

set_option exponentiation.threshold 256
set_option maxHeartbeats 4000000
set_option maxHeartbeats 4000000
/-! ShowA: what is shown. -/
namespace Fc
open PySem L2
local macro_rules | `(tactic| walk_at "fc") => `(tactic| try simp only [runB, cSeq, cNil, cRet, cRetN, cExpr, cIf, cSet, cAsg, cPar, cAug, cRaise, cStore, cPass, cWipe, wipeD, toS_ok, toS_exn, toS_stuck, Res.bd_ok, Res.bd_exn, Res.bd_stuck, Res.bdN_ok, Res.bdN_exn, Res.bdN_stuck,
  eVar, eC, eTup, eLst, eOp, eChain, eUn, eAnd, eOr, eNot, eIf, eRep, tTs, tAnd2, tOr2, tNot2, tTrue, eCall, eBi, eIsi, eMtL, eSl, oNo, oSo, lNil, lCons, iSeq, iRange1, iRange2, zAdd, zSub, zMul, zDiv, zMod, ofO, opInt, opIn, opNotIn, opEq, opNe, opIs, opIsnt, mk_t, mk_f,
  List.map_cons, List.map_nil, List.length_cons, List.length_nil, List.replicate, List.append_nil, List.nil_append, List.cons_append, List.getElem?_cons_zero, List.getElem?_cons_succ, List.getElem?_nil, List.set_cons_zero, List.set_cons_succ, List.set_nil, lm0, lm1, lm2, lm3, lm4, lm5, lm6, lm7, lm8, lm9, asg_nm, asg_tp, asgs_nil, asgs_cons, Option.bind_some, Option.bind_none, Option.map_some, Option.map_none,
  Nat.reduceSub, Nat.reduceAdd, Nat.zero_add, Nat.add_zero, Nat.sub_self, if_true, if_false, reduceIte, Bool.false_eq_true, Bool.true_eq_false, Bool.not_true, Bool.not_false, ix_tup, ix_fz, at0, at1, at2, eDNew, eDGet, eDGet2, eDIn, eDPop, cDPut, cAugS, cSub2, dic_ref, keyOf, reduceCtorEq])
local macro_rules | `(tactic| walk_at "fo") => `(tactic| try simp only [*, runB, cSeq, cNil, cRet, cRetN, cExpr, cIf, cSet, cAsg, cPar, cAug, cRaise, cStore, cPass, cWipe, wipeD, toS_ok, toS_exn, toS_stuck, Res.bd_ok, Res.bd_exn, Res.bd_stuck, Res.bdN_ok, Res.bdN_exn, Res.bdN_stuck,
  eVar, eC, eTup, eLst, eOp, eChain, eUn, eAnd, eOr, eNot, eIf, eRep, tTs, tAnd2, tOr2, tNot2, tTrue, eCall, eBi, eIsi, eMtL, eSl, oNo, oSo, lNil, lCons, iSeq, iRange1, iRange2, zAdd, zSub, zMul, zDiv, zMod, ofO, opInt, opIn, opNotIn, opEq, opNe, opIs, opIsnt, mk_t, mk_f,
  List.map_cons, List.map_nil, List.length_cons, List.length_nil, List.replicate, List.append_nil, List.nil_append, List.cons_append, List.getElem?_cons_zero, List.getElem?_cons_succ, List.getElem?_nil, List.set_cons_zero, List.set_cons_succ, List.set_nil, lm0, lm1, lm2, lm3, lm4, lm5, lm6, lm7, lm8, lm9, asg_nm, asg_tp, asgs_nil, asgs_cons, Option.bind_some, Option.bind_none, Option.map_some, Option.map_none,
  Nat.reduceSub, Nat.reduceAdd, Nat.zero_add, Nat.add_zero, Nat.sub_self, if_true, if_false, reduceIte, Bool.false_eq_true, Bool.true_eq_false, Bool.not_true, Bool.not_false, ix_tup, ix_fz, at0, at1, at2, eDNew, eDGet, eDGet2, eDIn, eDPop, cDPut, cAugS, cSub2, dic_ref, keyOf, reduceCtorEq, and_self, Bool.and_self, decide_true, decide_false, List.append_assoc, List.length_append, Nat.add_assoc, at_new, at_newk, add_fz, add_rf, add_tt, ix_ref, seq_ref, list_ref, seq_tup, seq_fz, list_fz, ix_tup, ix_fz, neg_int, app_ref, set_newk, set_new0, iZ, iEn, sl_tup, sl_fz, eLcV, len_tup, len_ref, len_fz, tuple_fz, tuple_ref, ty_non, ty_bl, ty_int, ty_str, ty_tup, ty_fz])
local macro_rules | `(tactic| walk_at "fg") => `(tactic| try simp only [*, runB, cSeq, cNil, cRet, cRetN, cExpr, cIf, cSet, cAsg, cPar, cAug, cRaise, cStore, cPass, cWipe, wipeD, toS_ok, toS_exn, toS_stuck, Res.bd_ok, Res.bd_exn, Res.bd_stuck, Res.bdN_ok, Res.bdN_exn, Res.bdN_stuck,
  eVar, eC, eTup, eLst, eOp, eChain, eUn, eAnd, eOr, eNot, eIf, eRep, tTs, tAnd2, tOr2, tNot2, tTrue, eCall, eBi, eIsi, eMtL, eSl, oNo, oSo, lNil, lCons, iSeq, iRange1, iRange2, zAdd, zSub, zMul, zDiv, zMod, ofO, opInt, opIn, opNotIn, opEq, opNe, opIs, opIsnt, mk_t, mk_f,
  List.map_cons, List.map_nil, List.length_cons, List.length_nil, List.replicate, List.append_nil, List.nil_append, List.cons_append, List.getElem?_cons_zero, List.getElem?_cons_succ, List.getElem?_nil, List.set_cons_zero, List.set_cons_succ, List.set_nil, lm0, lm1, lm2, lm3, lm4, lm5, lm6, lm7, lm8, lm9, asg_nm, asg_tp, asgs_nil, asgs_cons, Option.bind_some, Option.bind_none, Option.map_some, Option.map_none,
  Nat.reduceSub, Nat.reduceAdd, Nat.zero_add, Nat.add_zero, Nat.sub_self, if_true, if_false, reduceIte, Bool.false_eq_true, Bool.true_eq_false, Bool.not_true, Bool.not_false, ix_tup, ix_fz, at0, at1, at2, eDNew, eDGet, eDGet2, eDIn, eDPop, cDPut, cAugS, cSub2, dic_ref, keyOf, reduceCtorEq, and_self, Bool.and_self, decide_true, decide_false, List.append_assoc, List.length_append, Nat.add_assoc, at_new, at_newk, add_fz, add_rf, add_tt, ix_ref, seq_ref, list_ref, seq_tup, seq_fz, list_fz, ix_tup, ix_fz, neg_int, app_ref, set_newk, set_new0, iZ, iEn, sl_tup, sl_fz, eLcV, len_tup, len_ref, len_fz, tuple_fz, tuple_ref, ty_non, ty_bl, ty_int, ty_str, ty_tup, ty_fz])
local macro_rules | `(tactic| walk_at "fs") => `(tactic| try simp [runB, cSeq, cNil, cRet, cRetN, cExpr, cIf, cSet, cAsg, cPar, cAug, cRaise, cStore, cPass, cWipe, wipeD, toS_ok, toS_exn, toS_stuck, Res.bd_ok, Res.bd_exn, Res.bd_stuck, Res.bdN_ok, Res.bdN_exn, Res.bdN_stuck,
  eVar, eC, eTup, eLst, eOp, eChain, eUn, eAnd, eOr, eNot, eIf, eRep, tTs, tAnd2, tOr2, tNot2, tTrue, eCall, eBi, eIsi, eMtL, eSl, oNo, oSo, lNil, lCons, iSeq, iRange1, iRange2, zAdd, zSub, zMul, zDiv, zMod, ofO, opInt, opIn, opNotIn, opEq, opNe, opIs, opIsnt, mk_t, mk_f,
  List.map_cons, List.map_nil, List.length_cons, List.length_nil, List.replicate, List.append_nil, List.nil_append, List.cons_append, List.getElem?_cons_zero, List.getElem?_cons_succ, List.getElem?_nil, List.set_cons_zero, List.set_cons_succ, List.set_nil, lm0, lm1, lm2, lm3, lm4, lm5, lm6, lm7, lm8, lm9, asg_nm, asg_tp, asgs_nil, asgs_cons, Option.bind_some, Option.bind_none, Option.map_some, Option.map_none,
  Nat.reduceSub, Nat.reduceAdd, Nat.zero_add, Nat.add_zero, Nat.sub_self, if_true, if_false, reduceIte, Bool.false_eq_true, Bool.true_eq_false, Bool.not_true, Bool.not_false, ix_tup, ix_fz, at0, at1, at2, eDNew, eDGet, eDGet2, eDIn, eDPop, cDPut, cAugS, cSub2, dic_ref, keyOf, reduceCtorEq, and_self, Bool.and_self, decide_true, decide_false, List.append_assoc, List.length_append, Nat.add_assoc, at_new, at_newk, add_fz, add_rf, add_tt, ix_ref, seq_ref, list_ref, seq_tup, seq_fz, list_fz, ix_tup, ix_fz, neg_int, app_ref, set_newk, set_new0, iZ, iEn, sl_tup, sl_fz, eLcV, len_tup, len_ref, len_fz, tuple_fz, tuple_ref, ty_non, ty_bl, ty_int, ty_str, ty_tup, ty_fz, isT, eqD_int, at0, at1])
local macro_rules | `(tactic| walk_at "fh") => `(tactic| try simp [*, runB, cSeq, cNil, cRet, cRetN, cExpr, cIf, cSet, cAsg, cPar, cAug, cRaise, cStore, cPass, cWipe, wipeD, toS_ok, toS_exn, toS_stuck, Res.bd_ok, Res.bd_exn, Res.bd_stuck, Res.bdN_ok, Res.bdN_exn, Res.bdN_stuck,
  eVar, eC, eTup, eLst, eOp, eChain, eUn, eAnd, eOr, eNot, eIf, eRep, tTs, tAnd2, tOr2, tNot2, tTrue, eCall, eBi, eIsi, eMtL, eSl, oNo, oSo, lNil, lCons, iSeq, iRange1, iRange2, zAdd, zSub, zMul, zDiv, zMod, ofO, opInt, opIn, opNotIn, opEq, opNe, opIs, opIsnt, mk_t, mk_f,
  List.map_cons, List.map_nil, List.length_cons, List.length_nil, List.replicate, List.append_nil, List.nil_append, List.cons_append, List.getElem?_cons_zero, List.getElem?_cons_succ, List.getElem?_nil, List.set_cons_zero, List.set_cons_succ, List.set_nil, lm0, lm1, lm2, lm3, lm4, lm5, lm6, lm7, lm8, lm9, asg_nm, asg_tp, asgs_nil, asgs_cons, Option.bind_some, Option.bind_none, Option.map_some, Option.map_none,
  Nat.reduceSub, Nat.reduceAdd, Nat.zero_add, Nat.add_zero, Nat.sub_self, if_true, if_false, reduceIte, Bool.false_eq_true, Bool.true_eq_false, Bool.not_true, Bool.not_false, ix_tup, ix_fz, at0, at1, at2, eDNew, eDGet, eDGet2, eDIn, eDPop, cDPut, cAugS, cSub2, dic_ref, keyOf, reduceCtorEq, and_self, Bool.and_self, decide_true, decide_false, List.append_assoc, List.length_append, Nat.add_assoc, at_new, at_newk, add_fz, add_rf, add_tt, ix_ref, seq_ref, list_ref, seq_tup, seq_fz, list_fz, ix_tup, ix_fz, neg_int, app_ref, set_newk, set_new0, iZ, iEn, sl_tup, sl_fz, eLcV, len_tup, len_ref, len_fz, tuple_fz, tuple_ref, ty_non, ty_bl, ty_int, ty_str, ty_tup, ty_fz, isT, eqD_int, at0, at1])

def showOk (p : PyData) : Bool := SeqAt.shaped p && PyData.showable p && decide (p.shown.length ≤ lim)
noncomputable def b_law_same : DS :=
 (cSeq (cRet (eOp opEq (eBi fRepr (lCons (eVar 0) lNil)) (eBi fRepr (lCons (eVar 1) lNil))))
 cNil)
noncomputable def r_law_same : Den := runF 2 b_law_same
theorem repr_run {d : Dv} {S : Sto} {p : PyData} (h1 : d.py S = some p) (h3 : showOk p = true) : fRepr [d] S = some (.str p.shown, S) := by
  simp only [showOk] at h3
  simp only [fRepr, h1, h3, if_true]
theorem law_same_run {d e : Dv} {S : Sto} {p : PyData} (h1 : d.py S = some p) (h2 : e.py S = some p) (h3 : showOk p = true) : r_law_same [d, e] S = .ok (.bl true) S := by
  refine f_val0 rfl ?_ rfl
  unfold b_law_same
  walk_at "fc"
  rw [repr_run h1 h3]
  walk_at "fc"
  rw [repr_run h2 h3]
  walk_at "fc"
  simp [eqD]
/-! ### what is short -/
mutual
def tame (k : Nat) : PyData → Bool
  | .none | .bool _ => true
  | .int i => decide (i.natAbs < 10 ^ k)
  | .str x => PyData.strOk x
  | .list xs | .tuple xs => tames k xs
  | .dict _ => false
def tames (k : Nat) : List PyData → Bool
  | [] => true
  | x :: xs => tame k x && tames k xs
end
theorem tames_all (k : Nat) : ∀ xs, tames k xs = xs.all (tame k)
  | [] => by simp [tames]
  | x :: xs => by simp [tames, tames_all k xs]
theorem log_of {n k : Nat} (h : n < 10 ^ k) (hk : k ≤ 570) : n.log2 < 1920 := by
  have : n < 2 ^ 1900 := Nat.lt_of_lt_of_le h (Nat.le_trans (Nat.pow_le_pow_right (by decide) hk) (by
    have e : (10 : Nat) ^ 570 ≤ 2 ^ 1900 := by
      rw [show (570 : Nat) = 3 * 190 from rfl, show (1900 : Nat) = 10 * 190 from rfl, Nat.pow_mul, Nat.pow_mul]
      exact Nat.pow_le_pow_left (by decide) _
    exact e))
  have := log2_lt this (by decide)
  omega
mutual
theorem tame_ok {k : Nat} (hk : 0 < k) (h57 : k ≤ 570) : ∀ p : PyData, tame k p = true → p.canLay0 = true ∧ p.showable = true ∧ p.intsShort (k + 1) = true
  | .none, _ => ⟨rfl, rfl, rfl⟩
  | .bool _, _ => ⟨rfl, rfl, rfl⟩
  | .int i, h => by
    have h' : i.natAbs < 10 ^ k := by simpa [tame] using h
    refine ⟨rfl, ?_, ?_⟩
    · simpa [PyData.showable] using log_of h' h57
    · have e := int_text_length_le10 hk h'
      simp only [PyData.intsShort, decide_eq_true_eq]
      show (Str.ofString (toString i)).length ≤ k + 1
      rw [PySem.ofString_length]
      exact e
  | .str x, h => ⟨by simpa [PyData.canLay0, tame] using h, rfl, rfl⟩
  | .list xs, h => by simpa [PyData.canLay0, PyData.showable, PyData.intsShort] using tames_ok hk h57 xs (by simpa [tame] using h)
  | .tuple xs, h => by simpa [PyData.canLay0, PyData.showable, PyData.intsShort] using tames_ok hk h57 xs (by simpa [tame] using h)
  | .dict _, h => by simp [tame] at h
theorem tames_ok {k : Nat} (hk : 0 < k) (h57 : k ≤ 570) : ∀ ps : List PyData, tames k ps = true → PyData.canLayAll0 ps = true ∧ PyData.showableAll ps = true ∧ PyData.intsShortAll (k + 1) ps = true
  | [], _ => ⟨rfl, rfl, rfl⟩
  | p :: ps, h => by
    simp only [tames, Bool.and_eq_true] at h
    obtain ⟨a1, a2, a3⟩ := tame_ok hk h57 p h.1
    obtain ⟨b1, b2, b3⟩ := tames_ok hk h57 ps h.2
    simp [PyData.canLayAll0, PyData.showableAll, PyData.intsShortAll, *]
end
theorem showOk_of (k : Nat) {p : PyData} (h : tame k p = true) (h7 : 7 ≤ k) (h57 : k ≤ 570) (hd : p.depth ≤ 64) (hb : (k + 3) * p.bulk + (k + 1) ≤ lim) : showOk p = true := by
  obtain ⟨h1, h2, h3⟩ := tame_ok (by omega) h57 p h
  have h4 := PyData.leavesShort_of_canLay0 (k + 1) p h1 h3
  have h5 := PyData.shown_le_bulk (k + 1) (by omega) p h4
  simp only [showOk, SeqAt.shaped, h1, h2, hd, decide_true, Bool.and_self, Bool.true_and, decide_eq_true_eq]
  exact Nat.le_trans h5 hb
/-! plain data -/
mutual
def Dv.flat : Dv → Option PyData
  | .non => some .none
  | .bl b => some (.bool b)
  | .int i => some (.int i)
  | .str x => some (.str x)
  | .tup ds => (Dv.flats ds).map .tuple
  | .fz ds => (Dv.flats ds).map .list
  | .ref _ => none
  | .obj _ _ => none
def Dv.flats : List Dv → Option (List PyData)
  | [] => some []
  | d :: ds => match d.flat, Dv.flats ds with
    | some p, some ps => some (p :: ps)
    | _, _ => none
end
mutual
theorem flat_pyW (r : Nat → Option PyData) : ∀ (d : Dv) (p : PyData), d.flat = some p → d.pyW r = some p
  | .non, _, h => h
  | .bl _, _, h => h
  | .int _, _, h => h
  | .str _, _, h => h
  | .tup ds, p, h => by
    simp only [Dv.flat] at h
    obtain ⟨q, h1, rfl⟩ := Option.map_eq_some_iff.mp h
    simp [Dv.pyW, flats_pysW r ds q h1]
  | .fz ds, p, h => by
    simp only [Dv.flat] at h
    obtain ⟨q, h1, rfl⟩ := Option.map_eq_some_iff.mp h
    simp [Dv.pyW, flats_pysW r ds q h1]
  | .ref _, _, h => by cases h
  | .obj _ _, _, h => by cases h
theorem flats_pysW (r : Nat → Option PyData) : ∀ (ds : List Dv) (ps : List PyData), Dv.flats ds = some ps → Dv.pysW r ds = some ps
  | [], _, h => h
  | d :: ds, p, h => by
    simp only [Dv.flats] at h
    split at h
    · rename_i a b e1 e2
      cases h
      simp [Dv.pysW, flat_pyW r d a e1, flats_pysW r ds b e2]
    · cases h
end
theorem flat_py {d : Dv} {p : PyData} (h : d.flat = some p) (S : Sto) : d.py S = some p := flat_pyW _ d p h
theorem lst_py {S : Sto} {n : Nat} {ds : List Dv} {ps : List PyData} (h : S[n]? = some (.lst ds)) (h2 : Dv.flats ds = some ps) : (Dv.ref n).py S = some (.list ps) := by
  simp only [Dv.py, Dv.pyW, pyRef, h, flats_pysW _ ds ps h2, Option.map_some]
theorem flats_map {α : Type} {f : α → Dv} {g : α → PyData} : ∀ xs : List α, (∀ x ∈ xs, (f x).flat = some (g x)) → Dv.flats (xs.map f) = some (xs.map g)
  | [], _ => rfl
  | x :: xs, h => by
    have := flats_map xs fun y hy => h y (List.mem_cons_of_mem _ hy)
    simp [Dv.flats, this, h x (List.mem_cons_self ..)]
theorem flats_ints {α : Type} (f : α → Int) (xs : List α) : Dv.flats (xs.map fun x => .int (f x)) = some (xs.map fun x => .int (f x)) := flats_map xs fun _ _ => rfl
theorem bulkAll_le {c : Nat} : ∀ xs : List PyData, (∀ x ∈ xs, x.bulk ≤ c) → PyData.bulkAll xs ≤ xs.length * (c + 1)
  | [], _ => by simp [PyData.bulkAll]
  | x :: xs, h => by
    have h1 := bulkAll_le xs fun y hy => h y (List.mem_cons_of_mem _ hy)
    have h2 := h x (List.mem_cons_self ..)
    simp only [PyData.bulkAll, List.length_cons, Nat.add_mul]
    omega
theorem depthAll_le {c : Nat} : ∀ xs : List PyData, (∀ x ∈ xs, x.depth ≤ c) → PyData.depthAll xs ≤ c
  | [], _ => by simp [PyData.depthAll]
  | x :: xs, h => by
    have h1 := depthAll_le xs fun y hy => h y (List.mem_cons_of_mem _ hy)
    have h2 := h x (List.mem_cons_self ..)
    simp only [PyData.depthAll]
    omega
end Fc

set_option exponentiation.threshold 256
set_option maxHeartbeats 4000000
set_option maxHeartbeats 4000000
/-! ChB: open words, rests, the course. -/
namespace Fc
open PySem L2
local macro_rules | `(tactic| walk_at "fc") => `(tactic| try simp only [runB, cSeq, cNil, cRet, cRetN, cExpr, cIf, cSet, cAsg, cPar, cAug, cRaise, cStore, cPass, cWipe, wipeD, toS_ok, toS_exn, toS_stuck, Res.bd_ok, Res.bd_exn, Res.bd_stuck, Res.bdN_ok, Res.bdN_exn, Res.bdN_stuck,
  eVar, eC, eTup, eLst, eOp, eChain, eUn, eAnd, eOr, eNot, eIf, eRep, tTs, tAnd2, tOr2, tNot2, tTrue, eCall, eBi, eIsi, eMtL, eSl, oNo, oSo, lNil, lCons, iSeq, iRange1, iRange2, zAdd, zSub, zMul, zDiv, zMod, ofO, opInt, opIn, opNotIn, opEq, opNe, opIs, opIsnt, mk_t, mk_f,
  List.map_cons, List.map_nil, List.length_cons, List.length_nil, List.replicate, List.append_nil, List.nil_append, List.cons_append, List.getElem?_cons_zero, List.getElem?_cons_succ, List.getElem?_nil, List.set_cons_zero, List.set_cons_succ, List.set_nil, lm0, lm1, lm2, lm3, lm4, lm5, lm6, lm7, lm8, lm9, asg_nm, asg_tp, asgs_nil, asgs_cons, Option.bind_some, Option.bind_none, Option.map_some, Option.map_none,
  Nat.reduceSub, Nat.reduceAdd, Nat.zero_add, Nat.add_zero, Nat.sub_self, if_true, if_false, reduceIte, Bool.false_eq_true, Bool.true_eq_false, Bool.not_true, Bool.not_false, ix_tup, ix_fz, at0, at1, at2, eDNew, eDGet, eDGet2, eDIn, eDPop, cDPut, cAugS, cSub2, dic_ref, keyOf, reduceCtorEq])
local macro_rules | `(tactic| walk_at "fo") => `(tactic| try simp only [*, runB, cSeq, cNil, cRet, cRetN, cExpr, cIf, cSet, cAsg, cPar, cAug, cRaise, cStore, cPass, cWipe, wipeD, toS_ok, toS_exn, toS_stuck, Res.bd_ok, Res.bd_exn, Res.bd_stuck, Res.bdN_ok, Res.bdN_exn, Res.bdN_stuck,
  eVar, eC, eTup, eLst, eOp, eChain, eUn, eAnd, eOr, eNot, eIf, eRep, tTs, tAnd2, tOr2, tNot2, tTrue, eCall, eBi, eIsi, eMtL, eSl, oNo, oSo, lNil, lCons, iSeq, iRange1, iRange2, zAdd, zSub, zMul, zDiv, zMod, ofO, opInt, opIn, opNotIn, opEq, opNe, opIs, opIsnt, mk_t, mk_f,
  List.map_cons, List.map_nil, List.length_cons, List.length_nil, List.replicate, List.append_nil, List.nil_append, List.cons_append, List.getElem?_cons_zero, List.getElem?_cons_succ, List.getElem?_nil, List.set_cons_zero, List.set_cons_succ, List.set_nil, lm0, lm1, lm2, lm3, lm4, lm5, lm6, lm7, lm8, lm9, asg_nm, asg_tp, asgs_nil, asgs_cons, Option.bind_some, Option.bind_none, Option.map_some, Option.map_none,
  Nat.reduceSub, Nat.reduceAdd, Nat.zero_add, Nat.add_zero, Nat.sub_self, if_true, if_false, reduceIte, Bool.false_eq_true, Bool.true_eq_false, Bool.not_true, Bool.not_false, ix_tup, ix_fz, at0, at1, at2, eDNew, eDGet, eDGet2, eDIn, eDPop, cDPut, cAugS, cSub2, dic_ref, keyOf, reduceCtorEq, and_self, Bool.and_self, decide_true, decide_false, List.append_assoc, List.length_append, Nat.add_assoc, at_new, at_newk, add_fz, add_rf, add_tt, ix_ref, seq_ref, list_ref, seq_tup, seq_fz, list_fz, ix_tup, ix_fz, neg_int, app_ref, set_newk, set_new0, iZ, iEn, sl_tup, sl_fz, eLcV, len_tup, len_ref, len_fz, tuple_fz, tuple_ref, ty_non, ty_bl, ty_int, ty_str, ty_tup, ty_fz])
local macro_rules | `(tactic| walk_at "fg") => `(tactic| try simp only [*, runB, cSeq, cNil, cRet, cRetN, cExpr, cIf, cSet, cAsg, cPar, cAug, cRaise, cStore, cPass, cWipe, wipeD, toS_ok, toS_exn, toS_stuck, Res.bd_ok, Res.bd_exn, Res.bd_stuck, Res.bdN_ok, Res.bdN_exn, Res.bdN_stuck,
  eVar, eC, eTup, eLst, eOp, eChain, eUn, eAnd, eOr, eNot, eIf, eRep, tTs, tAnd2, tOr2, tNot2, tTrue, eCall, eBi, eIsi, eMtL, eSl, oNo, oSo, lNil, lCons, iSeq, iRange1, iRange2, zAdd, zSub, zMul, zDiv, zMod, ofO, opInt, opIn, opNotIn, opEq, opNe, opIs, opIsnt, mk_t, mk_f,
  List.map_cons, List.map_nil, List.length_cons, List.length_nil, List.replicate, List.append_nil, List.nil_append, List.cons_append, List.getElem?_cons_zero, List.getElem?_cons_succ, List.getElem?_nil, List.set_cons_zero, List.set_cons_succ, List.set_nil, lm0, lm1, lm2, lm3, lm4, lm5, lm6, lm7, lm8, lm9, asg_nm, asg_tp, asgs_nil, asgs_cons, Option.bind_some, Option.bind_none, Option.map_some, Option.map_none,
  Nat.reduceSub, Nat.reduceAdd, Nat.zero_add, Nat.add_zero, Nat.sub_self, if_true, if_false, reduceIte, Bool.false_eq_true, Bool.true_eq_false, Bool.not_true, Bool.not_false, ix_tup, ix_fz, at0, at1, at2, eDNew, eDGet, eDGet2, eDIn, eDPop, cDPut, cAugS, cSub2, dic_ref, keyOf, reduceCtorEq, and_self, Bool.and_self, decide_true, decide_false, List.append_assoc, List.length_append, Nat.add_assoc, at_new, at_newk, add_fz, add_rf, add_tt, ix_ref, seq_ref, list_ref, seq_tup, seq_fz, list_fz, ix_tup, ix_fz, neg_int, app_ref, set_newk, set_new0, iZ, iEn, sl_tup, sl_fz, eLcV, len_tup, len_ref, len_fz, tuple_fz, tuple_ref, ty_non, ty_bl, ty_int, ty_str, ty_tup, ty_fz])
local macro_rules | `(tactic| walk_at "fs") => `(tactic| try simp [runB, cSeq, cNil, cRet, cRetN, cExpr, cIf, cSet, cAsg, cPar, cAug, cRaise, cStore, cPass, cWipe, wipeD, toS_ok, toS_exn, toS_stuck, Res.bd_ok, Res.bd_exn, Res.bd_stuck, Res.bdN_ok, Res.bdN_exn, Res.bdN_stuck,
  eVar, eC, eTup, eLst, eOp, eChain, eUn, eAnd, eOr, eNot, eIf, eRep, tTs, tAnd2, tOr2, tNot2, tTrue, eCall, eBi, eIsi, eMtL, eSl, oNo, oSo, lNil, lCons, iSeq, iRange1, iRange2, zAdd, zSub, zMul, zDiv, zMod, ofO, opInt, opIn, opNotIn, opEq, opNe, opIs, opIsnt, mk_t, mk_f,
  List.map_cons, List.map_nil, List.length_cons, List.length_nil, List.replicate, List.append_nil, List.nil_append, List.cons_append, List.getElem?_cons_zero, List.getElem?_cons_succ, List.getElem?_nil, List.set_cons_zero, List.set_cons_succ, List.set_nil, lm0, lm1, lm2, lm3, lm4, lm5, lm6, lm7, lm8, lm9, asg_nm, asg_tp, asgs_nil, asgs_cons, Option.bind_some, Option.bind_none, Option.map_some, Option.map_none,
  Nat.reduceSub, Nat.reduceAdd, Nat.zero_add, Nat.add_zero, Nat.sub_self, if_true, if_false, reduceIte, Bool.false_eq_true, Bool.true_eq_false, Bool.not_true, Bool.not_false, ix_tup, ix_fz, at0, at1, at2, eDNew, eDGet, eDGet2, eDIn, eDPop, cDPut, cAugS, cSub2, dic_ref, keyOf, reduceCtorEq, and_self, Bool.and_self, decide_true, decide_false, List.append_assoc, List.length_append, Nat.add_assoc, at_new, at_newk, add_fz, add_rf, add_tt, ix_ref, seq_ref, list_ref, seq_tup, seq_fz, list_fz, ix_tup, ix_fz, neg_int, app_ref, set_newk, set_new0, iZ, iEn, sl_tup, sl_fz, eLcV, len_tup, len_ref, len_fz, tuple_fz, tuple_ref, ty_non, ty_bl, ty_int, ty_str, ty_tup, ty_fz, isT, eqD_int, at0, at1])
local macro_rules | `(tactic| walk_at "fh") => `(tactic| try simp [*, runB, cSeq, cNil, cRet, cRetN, cExpr, cIf, cSet, cAsg, cPar, cAug, cRaise, cStore, cPass, cWipe, wipeD, toS_ok, toS_exn, toS_stuck, Res.bd_ok, Res.bd_exn, Res.bd_stuck, Res.bdN_ok, Res.bdN_exn, Res.bdN_stuck,
  eVar, eC, eTup, eLst, eOp, eChain, eUn, eAnd, eOr, eNot, eIf, eRep, tTs, tAnd2, tOr2, tNot2, tTrue, eCall, eBi, eIsi, eMtL, eSl, oNo, oSo, lNil, lCons, iSeq, iRange1, iRange2, zAdd, zSub, zMul, zDiv, zMod, ofO, opInt, opIn, opNotIn, opEq, opNe, opIs, opIsnt, mk_t, mk_f,
  List.map_cons, List.map_nil, List.length_cons, List.length_nil, List.replicate, List.append_nil, List.nil_append, List.cons_append, List.getElem?_cons_zero, List.getElem?_cons_succ, List.getElem?_nil, List.set_cons_zero, List.set_cons_succ, List.set_nil, lm0, lm1, lm2, lm3, lm4, lm5, lm6, lm7, lm8, lm9, asg_nm, asg_tp, asgs_nil, asgs_cons, Option.bind_some, Option.bind_none, Option.map_some, Option.map_none,
  Nat.reduceSub, Nat.reduceAdd, Nat.zero_add, Nat.add_zero, Nat.sub_self, if_true, if_false, reduceIte, Bool.false_eq_true, Bool.true_eq_false, Bool.not_true, Bool.not_false, ix_tup, ix_fz, at0, at1, at2, eDNew, eDGet, eDGet2, eDIn, eDPop, cDPut, cAugS, cSub2, dic_ref, keyOf, reduceCtorEq, and_self, Bool.and_self, decide_true, decide_false, List.append_assoc, List.length_append, Nat.add_assoc, at_new, at_newk, add_fz, add_rf, add_tt, ix_ref, seq_ref, list_ref, seq_tup, seq_fz, list_fz, ix_tup, ix_fz, neg_int, app_ref, set_newk, set_new0, iZ, iEn, sl_tup, sl_fz, eLcV, len_tup, len_ref, len_fz, tuple_fz, tuple_ref, ty_non, ty_bl, ty_int, ty_str, ty_tup, ty_fz, isT, eqD_int, at0, at1])
/-! ### open words -/
def opn (s : Int) (qs : List Rat) (k : Nat) : Int := s ^ k - (qs.map (flo s k)).sum
noncomputable def b_open_at_least : DS :=
 (cSeq (cRet (eOp opSub (eCall 2 r_power (lCons (eVar 1) (lCons (eVar 2) lNil))) (eBi fSumS (lCons (eCall 3 r_floors (lCons (eVar 0) (lCons (eVar 1) (lCons (eVar 2) lNil)))) lNil))))
 cNil)
noncomputable def r_open_at_least : Den := runF 3 b_open_at_least
theorem open_run {qs : List Rat} {s : Int} {k : Nat} (hl : qs.length ≤ lim) (hq : ∀ q ∈ qs, Sm q) (hs : s.natAbs < 2 ^ 100) (hk : k ≤ 1000) (S : Sto) : r_open_at_least [chs qs, .int s, .int (k : Nat)] S = .ok (.int (opn s qs k)) S := by
  refine f_val0 rfl ?_ rfl
  unfold b_open_at_least
  walk_at "fc"
  rw [power_run hs hk]
  walk_at "fc"
  rw [floors_run hl hq hs hk]
  walk_at "fc"
  rw [sum_fz]
  walk_at "fc"
  rfl
/-! ### what is left -/
def rs1 (s : Int) (B : Nat) (k : Nat) (q : Rat) : Int := s ^ k * q.num * ((B : Int) / (q.den : Int)) % (B : Int)
def rst (s : Int) (qs : List Rat) (k : Nat) : List Int := qs.map (rs1 s (lcmD qs) k)
def tupI (l : List Int) : Dv := .tup (l.map Dv.int)
theorem tupI_plain (l : List Int) : (tupI l).plain = true := by
  simp [tupI, Dv.plain, plains_all]
theorem Chances.sm {qs : List Rat} (h : Chances qs) : ∀ q ∈ qs, Sm q := fun q hq => (h.bd hq).sm (by decide)
theorem Chances.lim {qs : List Rat} (h : Chances qs) : qs.length ≤ lim := Nat.le_trans h.many.2 (by decide)
theorem sides_abs {s : Int} (h : 2 ≤ s ∧ s ≤ 6) : s.natAbs < 2 ^ 3 := by omega
theorem sides_abs' {s : Int} (h : 2 ≤ s ∧ s ≤ 6) : s.natAbs < 2 ^ 100 := Nat.lt_of_lt_of_le (sides_abs h) (by decide)
noncomputable def b_rests : DS :=
 (cSeq (cSet 3 (eCall 1 r_common_bottom (lCons (eVar 0) lNil)))
 (cSeq (cSet 4 (eCall 2 r_power (lCons (eVar 1) (lCons (eVar 2) lNil))))
 (cSeq (cRet (eBi fTuple (lCons (eLcV (iSeq (eVar 0)) (.tp [(.nm 5), (.nm 6)]) tTrue (eOp opMod (eOp (opMul false) (eOp (opMul false) (eVar 4) (eVar 5)) (eOp opDiv (eVar 3) (eVar 6))) (eVar 3)) [5, 6]) lNil)))
 cNil)))
noncomputable def r_rests : Den := runF 7 b_rests
theorem rests_run {qs : List Rat} {s : Int} {k : Nat} (h : Chances qs) (hs : 2 ≤ s ∧ s ≤ 6) (hk : k ≤ 1000) (S : Sto) : r_rests [chs qs, .int s, .int (k : Nat)] S = .ok (tupI (rst s qs k)) S := by
  refine f_val0 rfl ?_ (tupI_plain _)
  unfold b_rests
  refine seq_go (set_go (d := .int (lcmD qs : Nat)) (S1 := S) ?_) (seq_go (set_go (d := .int (s ^ k)) (S1 := S) ?_) (seq_rt (ret_go ?_)))
  · walk_at "fc"
    rw [common_bottom_run (qs := qs) rfl (by have := h.many; omega) fun q hq => (h.sm q hq).2]
  · walk_at "fc"
    rw [power_run (sides_abs' hs) hk]
  · have lc := lcV_map (it := itSeq (chs qs)) (tg := .tp [.nm 5, .nm 6]) (elt := eOp opMod (eOp (opMul false) (eOp (opMul false) (eVar 4) (eVar 5)) (eOp opDiv (eVar 3) (eVar 6))) (eVar 3)) (ρ := [some (chs qs), some (.int s), some (.int (k : Nat)), some (.int (lcmD qs : Nat)), some (.int (s ^ k)), none, none]) (S := S) qs fr (fun q => .int (rs1 s (lcmD qs) k q)) (goes_tup qs fr) h.lim fun q hq => ⟨_, rfl, by
      have b1 := h.bd hq
      have b2 := pow_bd (sides_abs hs) k
      have b3 := h.bot
      have b4 := lcm_pos qs
      have m1 : mulOk (s ^ k) q.num = true := mulOk_of b2 b1.1 (by omega) (by decide) (by omega)
      have b5 : ((lcmD qs : Int) / (q.den : Int)).natAbs < 2 ^ 5 := by
        have := natAbs_ediv_le (lcmD qs : Int) q.den
        omega
      have m2 : mulOk (s ^ k * q.num) ((lcmD qs : Int) / (q.den : Int)) = true := mulOk_of (abs_mul b2 b1.1) b5 (by omega) (by decide) (by omega)
      have b6 : (0 : Int) < (lcmD qs : Nat) := by omega
      clear b3 b4 b5
      walk_at "fc"
      rw [zMul m1]
      walk_at "fc"
      rw [zDiv (divOk_den (h.sm q hq).2)]
      walk_at "fc"
      rw [zMul m2]
      walk_at "fc"
      rw [zMod b6]
      walk_at "fc"
      rfl⟩
    walk_at "fg"
    simp only [chs, seq_tup]
    walk_at "fg"
    rw [← chs, lc]
    walk_at "fc"
    simp [tuple_fz, tupI, rst]
/-! ### the first repetition -/
section
variable {α : Type} [DecidableEq α]
/-- from n on: the first number at which R is what it was -/
def repF (R : Nat → α) : Nat → Nat → Nat
  | 0, n => n
  | f + 1, n => if R n ∈ (List.range n).map R then n else repF R f (n + 1)
theorem repF_spec (R : Nat → α) : ∀ (f n : Nat), (∃ m, n ≤ m ∧ m < n + f ∧ R m ∈ (List.range m).map R) → (R (repF R f n) ∈ (List.range (repF R f n)).map R) ∧ n ≤ repF R f n ∧ repF R f n < n + f ∧ ∀ m, n ≤ m → m < repF R f n → R m ∉ (List.range m).map R
  | 0, n, ⟨m, h1, h2, _⟩ => by omega
  | f + 1, n, ⟨m, h1, h2, h3⟩ => by
    unfold repF
    split
    · rename_i h
      exact ⟨h, Nat.le_refl _, by omega, fun m h1 h2 => by omega⟩
    · rename_i h
      have hm : n + 1 ≤ m := by
        rcases Nat.eq_or_lt_of_le h1 with e | e
        · subst e
          exact absurd h3 h
        · exact e
      obtain ⟨a, b, c, d⟩ := repF_spec R f (n + 1) ⟨m, hm, by omega, h3⟩
      refine ⟨a, by omega, by omega, fun j h1 h2 => ?_⟩
      rcases Nat.eq_or_lt_of_le h1 with e | e
      · subst e
        exact h
      · exact d j e h2
end
/-- among more than B numbers below B two are the same -/
theorem pigeon (B : Nat) (w : Nat → Nat) (h : ∀ i, w i < B) : ∃ m, m ≤ B ∧ ∃ i, i < m ∧ w i = w m := by
  have key : ∀ (B : Nat) (l : List Nat), l.Nodup → (∀ x ∈ l, x < B) → l.length ≤ B := by
    intro B
    induction B with
    | zero =>
      intro l _ h
      cases l with
      | nil => simp
      | cons x l => exact absurd (h x (by simp)) (by omega)
    | succ B ih =>
      intro l hn h
      have h1 := ih (l.erase B) (hn.erase B) fun x hx => by
        have h2 := h x (List.mem_of_mem_erase hx)
        have h3 : x ≠ B := fun e => by
          subst e
          exact (List.Nodup.mem_erase_iff hn).mp hx |>.1 rfl
        omega
      have : l.length ≤ (l.erase B).length + 1 := by
        rw [List.length_erase]
        split <;> omega
      omega
  rcases Classical.em (∃ m, m ≤ B ∧ ∃ i, i < m ∧ w i = w m) with z | z
  · exact z
  · exfalso
    have nd : ((List.range (B + 1)).map w).Nodup := by
      rw [List.Nodup, List.pairwise_map]
      refine List.Pairwise.imp_of_mem ?_ (List.pairwise_lt_range (n := B + 1))
      intro a b ha hb hlt e
      exact z ⟨b, by have := List.mem_range.mp hb; omega, a, hlt, e⟩
    have := key B _ nd fun x hx => by
      obtain ⟨i, _, rfl⟩ := List.mem_map.mp hx
      exact h i
    simp at this
    omega
theorem rs1_mod (s : Int) (B k : Nat) (q : Rat) : rs1 s B k q = (s ^ k % (B : Int)) * (q.num * ((B : Int) / (q.den : Int))) % (B : Int) := by
  unfold rs1
  conv => rhs; rw [Int.mul_emod, Int.emod_emod]
  rw [Int.mul_assoc, Int.mul_emod]
/-- the length of a course, and where it goes on -/
def per (s : Int) (qs : List Rat) : Nat := repF (rst s qs) 31 0
theorem per_spec {s : Int} {qs : List Rat} (h : Chances qs) : rst s qs (per s qs) ∈ (List.range (per s qs)).map (rst s qs) ∧ per s qs ≤ 30 ∧ ∀ m, m < per s qs → rst s qs m ∉ (List.range m).map (rst s qs) := by
  have hB := lcm_pos qs
  have h30 := h.bot
  obtain ⟨m, hm, i, hi, e⟩ := pigeon (lcmD qs) (fun k => (s ^ k % (lcmD qs : Int)).toNat) fun k => by
    have h1 := Int.emod_nonneg (s ^ k) (b := (lcmD qs : Int)) (by omega)
    have h2 := Int.emod_lt_of_pos (s ^ k) (b := (lcmD qs : Int)) (by omega)
    show (s ^ k % (lcmD qs : Int)).toNat < lcmD qs
    omega
  have e2 : s ^ i % (lcmD qs : Int) = s ^ m % (lcmD qs : Int) := by
    have h1 := Int.emod_nonneg (s ^ i) (b := (lcmD qs : Int)) (by omega)
    have h2 := Int.emod_nonneg (s ^ m) (b := (lcmD qs : Int)) (by omega)
    have e' : (s ^ i % (lcmD qs : Int)).toNat = (s ^ m % (lcmD qs : Int)).toNat := e
    omega
  obtain ⟨a, _, c, d⟩ := repF_spec (rst s qs) 31 0 ⟨m, Nat.zero_le _, by omega, List.mem_map.mpr ⟨i, List.mem_range.mpr hi, by
    unfold rst
    refine List.map_congr_left fun q _ => ?_
    rw [rs1_mod, rs1_mod, e2]⟩⟩
  exact ⟨a, by unfold per; omega, fun m hm => d m (Nat.zero_le _) hm⟩
/-! ### tuples of ints in lists -/
theorem flats_int (l : List Int) : Dv.flats (l.map Dv.int) = some (l.map PyData.int) := flats_map (f := Dv.int) (g := PyData.int) l fun _ _ => rfl
theorem tupI_flat (l : List Int) : (tupI l).flat = some (.tuple (l.map .int)) := by
  simp only [tupI, Dv.flat, flats_int, Option.map_some]
theorem eqvAll_ints : ∀ xs ys : List Int, PyData.eqvAll (xs.map .int) (ys.map .int) = decide (xs = ys)
  | [], [] => by simp [PyData.eqvAll]
  | [], y :: ys => by simp [PyData.eqvAll]
  | x :: xs, [] => by simp [PyData.eqvAll]
  | x :: xs, y :: ys => by
    simp only [List.map_cons, PyData.eqvAll, eqvAll_ints xs ys, PyData.eqv]
    by_cases h : x = y <;> simp [h]
theorem eqv_tupI (xs ys : List Int) : PyData.eqv (.tuple (xs.map .int)) (.tuple (ys.map .int)) = decide (xs = ys) := by
  simp only [PyData.eqv, eqvAll_ints]
end Fc

set_option exponentiation.threshold 256
set_option maxHeartbeats 4000000
set_option maxHeartbeats 4000000
/-! ChC: the course, the least expected number of throws. -/
namespace Fc
open PySem L2
local macro_rules | `(tactic| walk_at "fc") => `(tactic| try simp only [runB, cSeq, cNil, cRet, cRetN, cExpr, cIf, cSet, cAsg, cPar, cAug, cRaise, cStore, cPass, cWipe, wipeD, toS_ok, toS_exn, toS_stuck, Res.bd_ok, Res.bd_exn, Res.bd_stuck, Res.bdN_ok, Res.bdN_exn, Res.bdN_stuck,
  eVar, eC, eTup, eLst, eOp, eChain, eUn, eAnd, eOr, eNot, eIf, eRep, tTs, tAnd2, tOr2, tNot2, tTrue, eCall, eBi, eIsi, eMtL, eSl, oNo, oSo, lNil, lCons, iSeq, iRange1, iRange2, zAdd, zSub, zMul, zDiv, zMod, ofO, opInt, opIn, opNotIn, opEq, opNe, opIs, opIsnt, mk_t, mk_f,
  List.map_cons, List.map_nil, List.length_cons, List.length_nil, List.replicate, List.append_nil, List.nil_append, List.cons_append, List.getElem?_cons_zero, List.getElem?_cons_succ, List.getElem?_nil, List.set_cons_zero, List.set_cons_succ, List.set_nil, lm0, lm1, lm2, lm3, lm4, lm5, lm6, lm7, lm8, lm9, asg_nm, asg_tp, asgs_nil, asgs_cons, Option.bind_some, Option.bind_none, Option.map_some, Option.map_none,
  Nat.reduceSub, Nat.reduceAdd, Nat.zero_add, Nat.add_zero, Nat.sub_self, if_true, if_false, reduceIte, Bool.false_eq_true, Bool.true_eq_false, Bool.not_true, Bool.not_false, ix_tup, ix_fz, at0, at1, at2, eDNew, eDGet, eDGet2, eDIn, eDPop, cDPut, cAugS, cSub2, dic_ref, keyOf, reduceCtorEq])
local macro_rules | `(tactic| walk_at "fo") => `(tactic| try simp only [*, runB, cSeq, cNil, cRet, cRetN, cExpr, cIf, cSet, cAsg, cPar, cAug, cRaise, cStore, cPass, cWipe, wipeD, toS_ok, toS_exn, toS_stuck, Res.bd_ok, Res.bd_exn, Res.bd_stuck, Res.bdN_ok, Res.bdN_exn, Res.bdN_stuck,
  eVar, eC, eTup, eLst, eOp, eChain, eUn, eAnd, eOr, eNot, eIf, eRep, tTs, tAnd2, tOr2, tNot2, tTrue, eCall, eBi, eIsi, eMtL, eSl, oNo, oSo, lNil, lCons, iSeq, iRange1, iRange2, zAdd, zSub, zMul, zDiv, zMod, ofO, opInt, opIn, opNotIn, opEq, opNe, opIs, opIsnt, mk_t, mk_f,
  List.map_cons, List.map_nil, List.length_cons, List.length_nil, List.replicate, List.append_nil, List.nil_append, List.cons_append, List.getElem?_cons_zero, List.getElem?_cons_succ, List.getElem?_nil, List.set_cons_zero, List.set_cons_succ, List.set_nil, lm0, lm1, lm2, lm3, lm4, lm5, lm6, lm7, lm8, lm9, asg_nm, asg_tp, asgs_nil, asgs_cons, Option.bind_some, Option.bind_none, Option.map_some, Option.map_none,
  Nat.reduceSub, Nat.reduceAdd, Nat.zero_add, Nat.add_zero, Nat.sub_self, if_true, if_false, reduceIte, Bool.false_eq_true, Bool.true_eq_false, Bool.not_true, Bool.not_false, ix_tup, ix_fz, at0, at1, at2, eDNew, eDGet, eDGet2, eDIn, eDPop, cDPut, cAugS, cSub2, dic_ref, keyOf, reduceCtorEq, and_self, Bool.and_self, decide_true, decide_false, List.append_assoc, List.length_append, Nat.add_assoc, at_new, at_newk, add_fz, add_rf, add_tt, ix_ref, seq_ref, list_ref, seq_tup, seq_fz, list_fz, ix_tup, ix_fz, neg_int, app_ref, set_newk, set_new0, iZ, iEn, sl_tup, sl_fz, eLcV, len_tup, len_ref, len_fz, tuple_fz, tuple_ref, ty_non, ty_bl, ty_int, ty_str, ty_tup, ty_fz])
local macro_rules | `(tactic| walk_at "fg") => `(tactic| try simp only [*, runB, cSeq, cNil, cRet, cRetN, cExpr, cIf, cSet, cAsg, cPar, cAug, cRaise, cStore, cPass, cWipe, wipeD, toS_ok, toS_exn, toS_stuck, Res.bd_ok, Res.bd_exn, Res.bd_stuck, Res.bdN_ok, Res.bdN_exn, Res.bdN_stuck,
  eVar, eC, eTup, eLst, eOp, eChain, eUn, eAnd, eOr, eNot, eIf, eRep, tTs, tAnd2, tOr2, tNot2, tTrue, eCall, eBi, eIsi, eMtL, eSl, oNo, oSo, lNil, lCons, iSeq, iRange1, iRange2, zAdd, zSub, zMul, zDiv, zMod, ofO, opInt, opIn, opNotIn, opEq, opNe, opIs, opIsnt, mk_t, mk_f,
  List.map_cons, List.map_nil, List.length_cons, List.length_nil, List.replicate, List.append_nil, List.nil_append, List.cons_append, List.getElem?_cons_zero, List.getElem?_cons_succ, List.getElem?_nil, List.set_cons_zero, List.set_cons_succ, List.set_nil, lm0, lm1, lm2, lm3, lm4, lm5, lm6, lm7, lm8, lm9, asg_nm, asg_tp, asgs_nil, asgs_cons, Option.bind_some, Option.bind_none, Option.map_some, Option.map_none,
  Nat.reduceSub, Nat.reduceAdd, Nat.zero_add, Nat.add_zero, Nat.sub_self, if_true, if_false, reduceIte, Bool.false_eq_true, Bool.true_eq_false, Bool.not_true, Bool.not_false, ix_tup, ix_fz, at0, at1, at2, eDNew, eDGet, eDGet2, eDIn, eDPop, cDPut, cAugS, cSub2, dic_ref, keyOf, reduceCtorEq, and_self, Bool.and_self, decide_true, decide_false, List.append_assoc, List.length_append, Nat.add_assoc, at_new, at_newk, add_fz, add_rf, add_tt, ix_ref, seq_ref, list_ref, seq_tup, seq_fz, list_fz, ix_tup, ix_fz, neg_int, app_ref, set_newk, set_new0, iZ, iEn, sl_tup, sl_fz, eLcV, len_tup, len_ref, len_fz, tuple_fz, tuple_ref, ty_non, ty_bl, ty_int, ty_str, ty_tup, ty_fz])
local macro_rules | `(tactic| walk_at "fs") => `(tactic| try simp [runB, cSeq, cNil, cRet, cRetN, cExpr, cIf, cSet, cAsg, cPar, cAug, cRaise, cStore, cPass, cWipe, wipeD, toS_ok, toS_exn, toS_stuck, Res.bd_ok, Res.bd_exn, Res.bd_stuck, Res.bdN_ok, Res.bdN_exn, Res.bdN_stuck,
  eVar, eC, eTup, eLst, eOp, eChain, eUn, eAnd, eOr, eNot, eIf, eRep, tTs, tAnd2, tOr2, tNot2, tTrue, eCall, eBi, eIsi, eMtL, eSl, oNo, oSo, lNil, lCons, iSeq, iRange1, iRange2, zAdd, zSub, zMul, zDiv, zMod, ofO, opInt, opIn, opNotIn, opEq, opNe, opIs, opIsnt, mk_t, mk_f,
  List.map_cons, List.map_nil, List.length_cons, List.length_nil, List.replicate, List.append_nil, List.nil_append, List.cons_append, List.getElem?_cons_zero, List.getElem?_cons_succ, List.getElem?_nil, List.set_cons_zero, List.set_cons_succ, List.set_nil, lm0, lm1, lm2, lm3, lm4, lm5, lm6, lm7, lm8, lm9, asg_nm, asg_tp, asgs_nil, asgs_cons, Option.bind_some, Option.bind_none, Option.map_some, Option.map_none,
  Nat.reduceSub, Nat.reduceAdd, Nat.zero_add, Nat.add_zero, Nat.sub_self, if_true, if_false, reduceIte, Bool.false_eq_true, Bool.true_eq_false, Bool.not_true, Bool.not_false, ix_tup, ix_fz, at0, at1, at2, eDNew, eDGet, eDGet2, eDIn, eDPop, cDPut, cAugS, cSub2, dic_ref, keyOf, reduceCtorEq, and_self, Bool.and_self, decide_true, decide_false, List.append_assoc, List.length_append, Nat.add_assoc, at_new, at_newk, add_fz, add_rf, add_tt, ix_ref, seq_ref, list_ref, seq_tup, seq_fz, list_fz, ix_tup, ix_fz, neg_int, app_ref, set_newk, set_new0, iZ, iEn, sl_tup, sl_fz, eLcV, len_tup, len_ref, len_fz, tuple_fz, tuple_ref, ty_non, ty_bl, ty_int, ty_str, ty_tup, ty_fz, isT, eqD_int, at0, at1])
local macro_rules | `(tactic| walk_at "fh") => `(tactic| try simp [*, runB, cSeq, cNil, cRet, cRetN, cExpr, cIf, cSet, cAsg, cPar, cAug, cRaise, cStore, cPass, cWipe, wipeD, toS_ok, toS_exn, toS_stuck, Res.bd_ok, Res.bd_exn, Res.bd_stuck, Res.bdN_ok, Res.bdN_exn, Res.bdN_stuck,
  eVar, eC, eTup, eLst, eOp, eChain, eUn, eAnd, eOr, eNot, eIf, eRep, tTs, tAnd2, tOr2, tNot2, tTrue, eCall, eBi, eIsi, eMtL, eSl, oNo, oSo, lNil, lCons, iSeq, iRange1, iRange2, zAdd, zSub, zMul, zDiv, zMod, ofO, opInt, opIn, opNotIn, opEq, opNe, opIs, opIsnt, mk_t, mk_f,
  List.map_cons, List.map_nil, List.length_cons, List.length_nil, List.replicate, List.append_nil, List.nil_append, List.cons_append, List.getElem?_cons_zero, List.getElem?_cons_succ, List.getElem?_nil, List.set_cons_zero, List.set_cons_succ, List.set_nil, lm0, lm1, lm2, lm3, lm4, lm5, lm6, lm7, lm8, lm9, asg_nm, asg_tp, asgs_nil, asgs_cons, Option.bind_some, Option.bind_none, Option.map_some, Option.map_none,
  Nat.reduceSub, Nat.reduceAdd, Nat.zero_add, Nat.add_zero, Nat.sub_self, if_true, if_false, reduceIte, Bool.false_eq_true, Bool.true_eq_false, Bool.not_true, Bool.not_false, ix_tup, ix_fz, at0, at1, at2, eDNew, eDGet, eDGet2, eDIn, eDPop, cDPut, cAugS, cSub2, dic_ref, keyOf, reduceCtorEq, and_self, Bool.and_self, decide_true, decide_false, List.append_assoc, List.length_append, Nat.add_assoc, at_new, at_newk, add_fz, add_rf, add_tt, ix_ref, seq_ref, list_ref, seq_tup, seq_fz, list_fz, ix_tup, ix_fz, neg_int, app_ref, set_newk, set_new0, iZ, iEn, sl_tup, sl_fz, eLcV, len_tup, len_ref, len_fz, tuple_fz, tuple_ref, ty_non, ty_bl, ty_int, ty_str, ty_tup, ty_fz, isT, eqD_int, at0, at1])
/-! ### numbers of the open words -/
theorem flo_nrm {s : Int} {k B : Nat} {q : Rat} (hd : q.den ∣ B) (hB : 0 < B) : s ^ k * q.num * ((B : Int) / (q.den : Int)) / (B : Int) = flo s k q ∧ (B : Int) = q.den * ((B : Int) / (q.den : Int)) ∧ 0 < (B : Int) / (q.den : Int) := by
  obtain ⟨c, rfl⟩ := hd
  have hq := q.den_pos
  have hc : 0 < c := by
    rcases Nat.eq_zero_or_pos c with h | h
    · subst h; simp at hB
    · exact h
  have e : (((q.den * c : Nat) : Int)) / (q.den : Int) = (c : Int) := by
    rw [Int.natCast_mul, Int.mul_ediv_cancel_left _ (by omega)]
  rw [e, Int.natCast_mul]
  refine ⟨?_, rfl, by omega⟩
  rw [Int.mul_ediv_mul_of_pos_left _ _ (by omega)]
  rfl
theorem rs1_eq {s : Int} {k B : Nat} {q : Rat} (hd : q.den ∣ B) (hB : 0 < B) : rs1 s B k q = s ^ k * (q.num * ((B : Int) / (q.den : Int))) - (B : Int) * flo s k q ∧ 0 ≤ rs1 s B k q ∧ rs1 s B k q < B := by
  have e := (flo_nrm (s := s) (k := k) hd hB).1
  unfold rs1
  refine ⟨?_, Int.emod_nonneg _ (by omega), Int.emod_lt_of_pos _ (by omega)⟩
  have := Int.emod_add_mul_ediv (s ^ k * q.num * ((B : Int) / (q.den : Int))) (B : Int)
  rw [e] at this
  rw [← Int.mul_assoc]
  omega
/-- the tops over the common bottom make it up -/
theorem sum_nrm {B : Nat} (hB : 0 < B) : ∀ {qs : List Rat}, (∀ q ∈ qs, q.den ∣ B) → (((qs.map fun q => q.num * ((B : Int) / (q.den : Int))).sum : Int) : Rat) = sumR qs * (B : Rat)
  | [], _ => by simp [sumR_nil]
  | q :: qs, h => by
    have ih := sum_nrm hB (qs := qs) fun p hp => h p (by simp [hp])
    obtain ⟨_, e, _⟩ := flo_nrm (s := 1) (k := 0) (h q (by simp)) hB
    rw [List.map_cons, List.sum_cons, sumR_cons, Rat.intCast_add, ih, Rat.intCast_mul, num_den q]
    have e2 : (B : Rat) = ((q.den : Int) : Rat) * (((B : Int) / (q.den : Int) : Int) : Rat) := by
      rw [← Rat.intCast_mul, ← e]
      rfl
    rw [e2]
    grind
theorem sum_rs {s : Int} {k B : Nat} (hB : 0 < B) : ∀ {qs : List Rat}, (∀ q ∈ qs, q.den ∣ B) → (qs.map (rs1 s B k)).sum = s ^ k * (qs.map fun q => q.num * ((B : Int) / (q.den : Int))).sum - B * (qs.map (flo s k)).sum ∧ 0 ≤ (qs.map (rs1 s B k)).sum ∧ (qs.map (rs1 s B k)).sum ≤ B * (qs.length : Int)
  | [], _ => by simp
  | q :: qs, h => by
    obtain ⟨h1, h2, h3⟩ := sum_rs (s := s) (k := k) hB (qs := qs) fun p hp => h p (by simp [hp])
    obtain ⟨e1, e2, e3⟩ := rs1_eq (s := s) (k := k) (h q (by simp)) hB
    simp only [List.map_cons, List.sum_cons, List.length_cons]
    have l : (B : Int) * ((qs.length + 1 : Nat) : Int) = B * (qs.length : Int) + B := by rw [Int.natCast_add, Int.mul_add]; simp
    rw [l, Int.mul_add, Int.mul_add]
    refine ⟨?_, by omega, by omega⟩
    rw [h1, e1]
    omega
theorem Chances.nrm {qs : List Rat} (h : Chances qs) : (qs.map fun q => q.num * ((lcmD qs : Int) / (q.den : Int))).sum = (lcmD qs : Int) := by
  have e := sum_nrm (lcm_pos qs) (qs := qs) fun q hq => den_dvd hq
  rw [h.one] at e
  have : (((qs.map fun q => q.num * ((lcmD qs : Int) / (q.den : Int))).sum : Int) : Rat) = (((lcmD qs : Nat) : Int) : Rat) := by
    rw [e]
    have : (((lcmD qs : Nat) : Int) : Rat) = ((lcmD qs : Nat) : Rat) := rfl
    rw [this]
    grind
  exact_mod_cast this
theorem opn_rst {s : Int} {k : Nat} {qs : List Rat} (h : Chances qs) : (rst s qs k).sum = lcmD qs * opn s qs k ∧ 0 ≤ opn s qs k ∧ opn s qs k ≤ 6 := by
  have hB := lcm_pos qs
  obtain ⟨e1, e2, e3⟩ := sum_rs (s := s) (k := k) hB (qs := qs) fun q hq => den_dvd hq
  rw [h.nrm] at e1
  have e4 : (rst s qs k).sum = lcmD qs * opn s qs k := by
    unfold rst opn
    rw [e1]
    grind
  have hl := h.many
  refine ⟨e4, ?_, ?_⟩
  · rw [show (qs.map (rs1 s (lcmD qs) k)).sum = _ from e4] at e2
    exact Int.nonneg_of_mul_nonneg_right e2 (by omega)
  · rw [show (qs.map (rs1 s (lcmD qs) k)).sum = _ from e4] at e3
    have : (lcmD qs : Int) * opn s qs k ≤ lcmD qs * 6 := Int.le_trans e3 (Int.mul_le_mul_of_nonneg_left (by omega) (by omega))
    exact Int.le_of_mul_le_mul_left this (by omega)
/-! ### the course -/
def seenD (R : Nat → List Int) (n : Nat) : List Dv := ((List.range n).map R).map tupI
theorem seen_succ (R : Nat → List Int) (n : Nat) : seenD R n ++ [tupI (R n)] = seenD R (n + 1) := by simp [seenD, List.range_succ]
theorem seen_py (R : Nat → List Int) (n : Nat) : Dv.flats (seenD R n) = some (((List.range n).map R).map fun l => .tuple (l.map .int)) := flats_map _ fun l _ => tupI_flat l
theorem any_eqv (ls : List (List Int)) (l : List Int) : (ls.map fun l => PyData.tuple (l.map .int)).any (fun z => PyData.eqv z (.tuple (l.map .int))) = decide (l ∈ ls) := by
  rw [List.any_map, Bool.eq_iff_iff]
  simp only [List.any_eq_true, Function.comp_apply, eqv_tupI, decide_eq_true_eq]
  constructor
  · rintro ⟨x, hx, rfl⟩; exact hx
  · intro h; exact ⟨l, h, rfl⟩
theorem shaped_tup (l : List Int) : SeqAt.shaped (.tuple (l.map .int)) = true := by
  have h1 : ∀ l : List Int, PyData.canLayAll0 (l.map .int) = true := by
    intro l
    induction l with
    | nil => rfl
    | cons x l ih => simp [PyData.canLayAll0, PyData.canLay0, ih]
  have h2 := depthAll_le (c := 1) (l.map PyData.int) (fun x hx => by
    obtain ⟨i, _, rfl⟩ := List.mem_map.mp hx
    simp [PyData.depth])
  have hd : (PyData.tuple (l.map .int)).depth ≤ 64 := by
    simp only [PyData.depth]
    omega
  simp [SeqAt.shaped, PyData.canLay0, h1, hd]
theorem shaped_seen (ls : List (List Int)) : SeqAt.shaped (.list (ls.map fun l => .tuple (l.map .int))) = true := by
  have h1 : PyData.canLayAll0 (ls.map fun l => .tuple (l.map .int)) = true := by
    induction ls with
    | nil => rfl
    | cons x l ih =>
      have := shaped_tup x
      simp only [SeqAt.shaped, Bool.and_eq_true] at this
      simp [PyData.canLayAll0, ih, this]
  have h2 := depthAll_le (c := 2) (ls.map fun l => PyData.tuple (l.map .int)) (fun x hx => by
    obtain ⟨l, _, rfl⟩ := List.mem_map.mp hx
    have := depthAll_le (c := 1) (l.map PyData.int) (fun x hx => by
      obtain ⟨i, _, rfl⟩ := List.mem_map.mp hx
      simp [PyData.depth])
    simp only [PyData.depth]
    omega)
  have hd : (PyData.list (ls.map fun l => PyData.tuple (l.map .int))).depth ≤ 64 := by
    simp only [PyData.depth]
    omega
  simp [SeqAt.shaped, PyData.canLay0, h1, hd]
theorem notin_run {S : Sto} {n m : Nat} {R : Nat → List Int} {l : List Int} (h : S[n]? = some (.lst (seenD R m))) : inD (tupI l) (.ref n) S = some (decide (l ∈ (List.range m).map R)) := by
  have h1 := flat_py (tupI_flat l) S
  have h2 := lst_py h (seen_py R m)
  simp only [inD, h1, h2, shaped_tup, shaped_seen, Bool.and_self, if_true, any_eqv]
theorem index_run {S : Sto} {n m : Nat} {R : Nat → List Int} {l : List Int} (h : S[n]? = some (.lst (seenD R m))) (hm : l ∈ (List.range m).map R) : ∃ j, mIndex (.ref n) [tupI l] S = some (.int (j : Nat), S) ∧ ((List.range m).map R).findIdx? (fun z => decide (z = l)) = some j ∧ j < m := by
  have h1 := flat_py (tupI_flat l) S
  have h2 := lst_py h (seen_py R m)
  have e : (((List.range m).map R).map fun l => PyData.tuple (l.map .int)).findIdx? (fun z => PyData.eqv z (.tuple (l.map .int))) = ((List.range m).map R).findIdx? (fun z => decide (z = l)) := by
    rw [List.findIdx?_map]
    congr 1
    funext z
    simp only [Function.comp_apply, eqv_tupI]
  cases hj : ((List.range m).map R).findIdx? (fun z => decide (z = l)) with
  | none =>
    have := List.findIdx?_eq_none_iff.mp hj l hm
    simp at this
  | some j =>
    refine ⟨j, ?_, rfl, ?_⟩
    · simp only [mIndex, h1, h2, shaped_tup, shaped_seen, Bool.and_self, if_true, e, hj]
    · have := (List.findIdx?_eq_some_iff_getElem.mp hj).1
      simpa using this
/-- where the course goes on -/
def bak (s : Int) (qs : List Rat) : Nat := (((List.range (per s qs)).map (rst s qs)).findIdx? (fun z => decide (z = rst s qs (per s qs)))).getD 0
theorem bak_run {S : Sto} {n : Nat} {s : Int} {qs : List Rat} (hc : Chances qs) (h : S[n]? = some (.lst (seenD (rst s qs) (per s qs)))) : mIndex (.ref n) [tupI (rst s qs (per s qs))] S = some (.int (bak s qs : Nat), S) := by
  obtain ⟨j, e, e1, _⟩ := index_run h (per_spec hc).1
  unfold bak
  rw [e, e1]
  rfl
theorem bak_lt {s : Int} {qs : List Rat} (hc : Chances qs) : bak s qs < per s qs := by
  obtain ⟨j, e, e1, h⟩ := index_run (S := [.lst (seenD (rst s qs) (per s qs))]) (n := 0) rfl (per_spec hc).1
  unfold bak
  rw [e1]
  exact h
theorem seen_plain (R : Nat → List Int) (n : Nat) : Dv.plains (seenD R n) = true := by
  rw [plains_all, seenD, List.all_map, List.all_eq_true]
  intro l _
  exact tupI_plain l
theorem tidy_pair {S G : Sto} {ds : List Dv} {i : Int} (h : Dv.plains ds = true) : tidy S (.ok (.tup [.ref S.length, .int i]) (S ++ .lst ds :: G)) = .ok (.tup [.fz ds, .int i]) S := by
  have e : (S ++ .lst ds :: G)[S.length]? = some (.lst ds) := by simp
  have hn : ¬ (S.length < S.length) := by omega
  simp only [tidy]
  rw [List.take_left' rfl, if_pos (Kept.refl S)]
  simp only [Dv.rsv, Dv.rsvs, rsvR, if_neg hn, e, plains_rsv _ ds h, Option.map_some]
noncomputable def b_course_L1 : DS :=
 (cSeq (cExpr (eMtL mAppend (eVar 2) (lCons (eVar 3) lNil)))
 (cSeq (cSet 3 (eCall 3 r_rests (lCons (eVar 0) (lCons (eVar 1) (lCons (eBi fLen (lCons (eVar 2) lNil)) lNil)))))
 cNil))
noncomputable def b_course : DS :=
 (cSeq (cSet 2 (eLst true lNil))
 (cSeq (cSet 3 (eCall 3 r_rests (lCons (eVar 0) (lCons (eVar 1) (lCons (eC (.int 0)) lNil)))))
 (cSeq (cWhile (tTs (eOp opNotIn (eVar 3) (eVar 2))) b_course_L1)
 (cSeq (cRet (eTup (lCons (eVar 2) (lCons (eMtL mIndex (eVar 2) (lCons (eVar 3) lNil)) lNil))))
 cNil))))
noncomputable def r_course : Den := runF 4 b_course
theorem course_run {qs : List Rat} {s : Int} (h : Chances qs) (hs : 2 ≤ s ∧ s ≤ 6) (S : Sto) : r_course [chs qs, .int s] S = .ok (.tup [.fz (seenD (rst s qs) (per s qs)), .int (bak s qs : Nat)]) S := by
  obtain ⟨p1, p2, p3⟩ := per_spec (s := s) h
  have loop := whileL_run (t := tTs (eOp opNotIn (eVar 3) (eVar 2))) (b := b_course_L1) (m := per s qs) (S := S ++ [.lst []]) (ρ := [some (chs qs), some (.int s), some (.ref S.length), some (tupI (rst s qs 0))])
    (fun m ρ S1 => ∃ j, j + m = per s qs ∧ ρ = [some (chs qs), some (.int s), some (.ref S.length), some (tupI (rst s qs j))] ∧ S1 = S ++ [.lst (seenD (rst s qs) j)])
    ⟨0, by omega, rfl, rfl⟩
    (fun o S1 => o = .nx [some (chs qs), some (.int s), some (.ref S.length), some (tupI (rst s qs (per s qs)))] ∧ S1 = S ++ [.lst (seenD (rst s qs) (per s qs))])
    (by
      rintro m ρ S1 ⟨j, hj, rfl, rfl⟩
      have hat : (S ++ [.lst (seenD (rst s qs) j)])[S.length]? = some (.lst (seenD (rst s qs) j)) := by simp
      refine ⟨!decide (rst s qs j ∈ (List.range j).map (rst s qs)), S ++ [.lst (seenD (rst s qs) j)], ?_, ?_, ?_⟩
      · walk_at "fc"
        rw [notin_run hat]
        walk_at "fc"
      · intro hc
        simp only [Bool.not_eq_false', decide_eq_true_eq] at hc
        have : j = per s qs := by
          rcases Nat.lt_or_ge j (per s qs) with hlt | hge
          · exact absurd hc (p3 j hlt)
          · omega
        subst this
        exact ⟨rfl, rfl⟩
      · intro hc
        simp only [Bool.not_eq_true', decide_eq_false_iff_not] at hc
        have hlt : j < per s qs := by
          rcases Nat.lt_or_ge j (per s qs) with hlt | hge
          · exact hlt
          · have : j = per s qs := by omega
            subst this
            exact absurd p1 hc
        have hlen : (seenD (rst s qs) j).length < Fc.lim := Nat.lt_of_lt_of_le (m := 31) (by simp [seenD]; omega) (by decide)
        refine ⟨.nx [some (chs qs), some (.int s), some (.ref S.length), some (tupI (rst s qs (j + 1)))], S ++ [.lst (seenD (rst s qs) (j + 1))], ?_, per s qs - (j + 1), by omega, j + 1, by omega, rfl, rfl⟩
        unfold b_course_L1
        refine seq_go (expr_go (d := .non) (S1 := S ++ [.lst (seenD (rst s qs) (j + 1))]) ?_) (seq_go (set_go (d := tupI (rst s qs (j + 1))) (S1 := S ++ [.lst (seenD (rst s qs) (j + 1))]) ?_) nil_go)
        · walk_at "fc"
          rw [app_ref]
          simp only [list_ref, hat, hlen, if_true]
          simp [seen_succ]
        · walk_at "fc"
          rw [len_ref]
          simp only [List.getElem?_concat_length]
          have : (seenD (rst s qs) (j + 1)).length = j + 1 := by simp [seenD]
          rw [this]
          walk_at "fc"
          rw [rests_run h hs (by omega)]) big (by have := lim_big (n := per s qs) (Nat.le_trans p2 (by decide)); exact this)
  obtain ⟨o, S', e, rfl, rfl⟩ := loop
  have run : b_course [some (chs qs), some (.int s), none, none] S = .ok (.rt (.tup [.ref S.length, .int (bak s qs : Nat)])) (S ++ [.lst (seenD (rst s qs) (per s qs))]) := by
    unfold b_course
    refine seq_go (set_go (d := .ref S.length) (S1 := S ++ [.lst []]) ?_) (seq_go (set_go (d := tupI (rst s qs 0)) (S1 := S ++ [.lst []]) ?_) (seq_go (ρ1 := [some (chs qs), some (.int s), some (.ref S.length), some (tupI (rst s qs (per s qs)))]) (S1 := S ++ [.lst (seenD (rst s qs) (per s qs))]) ?_ (seq_rt (ret_go ?_))))
    · walk_at "fc"
    · walk_at "fc"
      rw [show (.int 0 : Dv) = .int ((0 : Nat) : Int) from rfl, rests_run h hs (by omega)]
    · simp only [cWhile]
      exact e
    · walk_at "fc"
      rw [bak_run h (by simp)]
      simp only [list_ref, List.getElem?_concat_length]
      walk_at "fc"
  unfold r_course runF
  rw [run_rt (ρ0 := [some (chs qs), some (.int s), none, none]) rfl run, tidy_pair (seen_plain _ _)]
end Fc

set_option exponentiation.threshold 256
set_option maxHeartbeats 4000000
set_option maxHeartbeats 4000000
/-! ChD: the least expected number of throws. -/
namespace Fc
open PySem L2
local macro_rules | `(tactic| walk_at "fc") => `(tactic| try simp only [runB, cSeq, cNil, cRet, cRetN, cExpr, cIf, cSet, cAsg, cPar, cAug, cRaise, cStore, cPass, cWipe, wipeD, toS_ok, toS_exn, toS_stuck, Res.bd_ok, Res.bd_exn, Res.bd_stuck, Res.bdN_ok, Res.bdN_exn, Res.bdN_stuck,
  eVar, eC, eTup, eLst, eOp, eChain, eUn, eAnd, eOr, eNot, eIf, eRep, tTs, tAnd2, tOr2, tNot2, tTrue, eCall, eBi, eIsi, eMtL, eSl, oNo, oSo, lNil, lCons, iSeq, iRange1, iRange2, zAdd, zSub, zMul, zDiv, zMod, ofO, opInt, opIn, opNotIn, opEq, opNe, opIs, opIsnt, mk_t, mk_f,
  List.map_cons, List.map_nil, List.length_cons, List.length_nil, List.replicate, List.append_nil, List.nil_append, List.cons_append, List.getElem?_cons_zero, List.getElem?_cons_succ, List.getElem?_nil, List.set_cons_zero, List.set_cons_succ, List.set_nil, lm0, lm1, lm2, lm3, lm4, lm5, lm6, lm7, lm8, lm9, asg_nm, asg_tp, asgs_nil, asgs_cons, Option.bind_some, Option.bind_none, Option.map_some, Option.map_none,
  Nat.reduceSub, Nat.reduceAdd, Nat.zero_add, Nat.add_zero, Nat.sub_self, if_true, if_false, reduceIte, Bool.false_eq_true, Bool.true_eq_false, Bool.not_true, Bool.not_false, ix_tup, ix_fz, at0, at1, at2, eDNew, eDGet, eDGet2, eDIn, eDPop, cDPut, cAugS, cSub2, dic_ref, keyOf, reduceCtorEq])
local macro_rules | `(tactic| walk_at "fo") => `(tactic| try simp only [*, runB, cSeq, cNil, cRet, cRetN, cExpr, cIf, cSet, cAsg, cPar, cAug, cRaise, cStore, cPass, cWipe, wipeD, toS_ok, toS_exn, toS_stuck, Res.bd_ok, Res.bd_exn, Res.bd_stuck, Res.bdN_ok, Res.bdN_exn, Res.bdN_stuck,
  eVar, eC, eTup, eLst, eOp, eChain, eUn, eAnd, eOr, eNot, eIf, eRep, tTs, tAnd2, tOr2, tNot2, tTrue, eCall, eBi, eIsi, eMtL, eSl, oNo, oSo, lNil, lCons, iSeq, iRange1, iRange2, zAdd, zSub, zMul, zDiv, zMod, ofO, opInt, opIn, opNotIn, opEq, opNe, opIs, opIsnt, mk_t, mk_f,
  List.map_cons, List.map_nil, List.length_cons, List.length_nil, List.replicate, List.append_nil, List.nil_append, List.cons_append, List.getElem?_cons_zero, List.getElem?_cons_succ, List.getElem?_nil, List.set_cons_zero, List.set_cons_succ, List.set_nil, lm0, lm1, lm2, lm3, lm4, lm5, lm6, lm7, lm8, lm9, asg_nm, asg_tp, asgs_nil, asgs_cons, Option.bind_some, Option.bind_none, Option.map_some, Option.map_none,
  Nat.reduceSub, Nat.reduceAdd, Nat.zero_add, Nat.add_zero, Nat.sub_self, if_true, if_false, reduceIte, Bool.false_eq_true, Bool.true_eq_false, Bool.not_true, Bool.not_false, ix_tup, ix_fz, at0, at1, at2, eDNew, eDGet, eDGet2, eDIn, eDPop, cDPut, cAugS, cSub2, dic_ref, keyOf, reduceCtorEq, and_self, Bool.and_self, decide_true, decide_false, List.append_assoc, List.length_append, Nat.add_assoc, at_new, at_newk, add_fz, add_rf, add_tt, ix_ref, seq_ref, list_ref, seq_tup, seq_fz, list_fz, ix_tup, ix_fz, neg_int, app_ref, set_newk, set_new0, iZ, iEn, sl_tup, sl_fz, eLcV, len_tup, len_ref, len_fz, tuple_fz, tuple_ref, ty_non, ty_bl, ty_int, ty_str, ty_tup, ty_fz])
local macro_rules | `(tactic| walk_at "fg") => `(tactic| try simp only [*, runB, cSeq, cNil, cRet, cRetN, cExpr, cIf, cSet, cAsg, cPar, cAug, cRaise, cStore, cPass, cWipe, wipeD, toS_ok, toS_exn, toS_stuck, Res.bd_ok, Res.bd_exn, Res.bd_stuck, Res.bdN_ok, Res.bdN_exn, Res.bdN_stuck,
  eVar, eC, eTup, eLst, eOp, eChain, eUn, eAnd, eOr, eNot, eIf, eRep, tTs, tAnd2, tOr2, tNot2, tTrue, eCall, eBi, eIsi, eMtL, eSl, oNo, oSo, lNil, lCons, iSeq, iRange1, iRange2, zAdd, zSub, zMul, zDiv, zMod, ofO, opInt, opIn, opNotIn, opEq, opNe, opIs, opIsnt, mk_t, mk_f,
  List.map_cons, List.map_nil, List.length_cons, List.length_nil, List.replicate, List.append_nil, List.nil_append, List.cons_append, List.getElem?_cons_zero, List.getElem?_cons_succ, List.getElem?_nil, List.set_cons_zero, List.set_cons_succ, List.set_nil, lm0, lm1, lm2, lm3, lm4, lm5, lm6, lm7, lm8, lm9, asg_nm, asg_tp, asgs_nil, asgs_cons, Option.bind_some, Option.bind_none, Option.map_some, Option.map_none,
  Nat.reduceSub, Nat.reduceAdd, Nat.zero_add, Nat.add_zero, Nat.sub_self, if_true, if_false, reduceIte, Bool.false_eq_true, Bool.true_eq_false, Bool.not_true, Bool.not_false, ix_tup, ix_fz, at0, at1, at2, eDNew, eDGet, eDGet2, eDIn, eDPop, cDPut, cAugS, cSub2, dic_ref, keyOf, reduceCtorEq, and_self, Bool.and_self, decide_true, decide_false, List.append_assoc, List.length_append, Nat.add_assoc, at_new, at_newk, add_fz, add_rf, add_tt, ix_ref, seq_ref, list_ref, seq_tup, seq_fz, list_fz, ix_tup, ix_fz, neg_int, app_ref, set_newk, set_new0, iZ, iEn, sl_tup, sl_fz, eLcV, len_tup, len_ref, len_fz, tuple_fz, tuple_ref, ty_non, ty_bl, ty_int, ty_str, ty_tup, ty_fz])
local macro_rules | `(tactic| walk_at "fs") => `(tactic| try simp [runB, cSeq, cNil, cRet, cRetN, cExpr, cIf, cSet, cAsg, cPar, cAug, cRaise, cStore, cPass, cWipe, wipeD, toS_ok, toS_exn, toS_stuck, Res.bd_ok, Res.bd_exn, Res.bd_stuck, Res.bdN_ok, Res.bdN_exn, Res.bdN_stuck,
  eVar, eC, eTup, eLst, eOp, eChain, eUn, eAnd, eOr, eNot, eIf, eRep, tTs, tAnd2, tOr2, tNot2, tTrue, eCall, eBi, eIsi, eMtL, eSl, oNo, oSo, lNil, lCons, iSeq, iRange1, iRange2, zAdd, zSub, zMul, zDiv, zMod, ofO, opInt, opIn, opNotIn, opEq, opNe, opIs, opIsnt, mk_t, mk_f,
  List.map_cons, List.map_nil, List.length_cons, List.length_nil, List.replicate, List.append_nil, List.nil_append, List.cons_append, List.getElem?_cons_zero, List.getElem?_cons_succ, List.getElem?_nil, List.set_cons_zero, List.set_cons_succ, List.set_nil, lm0, lm1, lm2, lm3, lm4, lm5, lm6, lm7, lm8, lm9, asg_nm, asg_tp, asgs_nil, asgs_cons, Option.bind_some, Option.bind_none, Option.map_some, Option.map_none,
  Nat.reduceSub, Nat.reduceAdd, Nat.zero_add, Nat.add_zero, Nat.sub_self, if_true, if_false, reduceIte, Bool.false_eq_true, Bool.true_eq_false, Bool.not_true, Bool.not_false, ix_tup, ix_fz, at0, at1, at2, eDNew, eDGet, eDGet2, eDIn, eDPop, cDPut, cAugS, cSub2, dic_ref, keyOf, reduceCtorEq, and_self, Bool.and_self, decide_true, decide_false, List.append_assoc, List.length_append, Nat.add_assoc, at_new, at_newk, add_fz, add_rf, add_tt, ix_ref, seq_ref, list_ref, seq_tup, seq_fz, list_fz, ix_tup, ix_fz, neg_int, app_ref, set_newk, set_new0, iZ, iEn, sl_tup, sl_fz, eLcV, len_tup, len_ref, len_fz, tuple_fz, tuple_ref, ty_non, ty_bl, ty_int, ty_str, ty_tup, ty_fz, isT, eqD_int, at0, at1])
local macro_rules | `(tactic| walk_at "fh") => `(tactic| try simp [*, runB, cSeq, cNil, cRet, cRetN, cExpr, cIf, cSet, cAsg, cPar, cAug, cRaise, cStore, cPass, cWipe, wipeD, toS_ok, toS_exn, toS_stuck, Res.bd_ok, Res.bd_exn, Res.bd_stuck, Res.bdN_ok, Res.bdN_exn, Res.bdN_stuck,
  eVar, eC, eTup, eLst, eOp, eChain, eUn, eAnd, eOr, eNot, eIf, eRep, tTs, tAnd2, tOr2, tNot2, tTrue, eCall, eBi, eIsi, eMtL, eSl, oNo, oSo, lNil, lCons, iSeq, iRange1, iRange2, zAdd, zSub, zMul, zDiv, zMod, ofO, opInt, opIn, opNotIn, opEq, opNe, opIs, opIsnt, mk_t, mk_f,
  List.map_cons, List.map_nil, List.length_cons, List.length_nil, List.replicate, List.append_nil, List.nil_append, List.cons_append, List.getElem?_cons_zero, List.getElem?_cons_succ, List.getElem?_nil, List.set_cons_zero, List.set_cons_succ, List.set_nil, lm0, lm1, lm2, lm3, lm4, lm5, lm6, lm7, lm8, lm9, asg_nm, asg_tp, asgs_nil, asgs_cons, Option.bind_some, Option.bind_none, Option.map_some, Option.map_none,
  Nat.reduceSub, Nat.reduceAdd, Nat.zero_add, Nat.add_zero, Nat.sub_self, if_true, if_false, reduceIte, Bool.false_eq_true, Bool.true_eq_false, Bool.not_true, Bool.not_false, ix_tup, ix_fz, at0, at1, at2, eDNew, eDGet, eDGet2, eDIn, eDPop, cDPut, cAugS, cSub2, dic_ref, keyOf, reduceCtorEq, and_self, Bool.and_self, decide_true, decide_false, List.append_assoc, List.length_append, Nat.add_assoc, at_new, at_newk, add_fz, add_rf, add_tt, ix_ref, seq_ref, list_ref, seq_tup, seq_fz, list_fz, ix_tup, ix_fz, neg_int, app_ref, set_newk, set_new0, iZ, iEn, sl_tup, sl_fz, eLcV, len_tup, len_ref, len_fz, tuple_fz, tuple_ref, ty_non, ty_bl, ty_int, ty_str, ty_tup, ty_fz, isT, eqD_int, at0, at1])
/-- the open words of one length, by all words -/
def trm (s : Int) (qs : List Rat) (k : Nat) : Rat := (opn s qs k : Rat) / ((s ^ k : Int) : Rat)
theorem pow_pos' {s : Int} (h : 2 ≤ s ∧ s ≤ 6) : ∀ k : Nat, 0 < s ^ k
  | 0 => by simp
  | k + 1 => by
    rw [Int.pow_succ]
    exact Int.mul_pos (pow_pos' h k) (by omega)
theorem pow_le6 {s : Int} (h : 2 ≤ s ∧ s ≤ 6) : ∀ k : Nat, s ^ k ≤ 6 ^ k
  | 0 => by simp
  | k + 1 => by
    rw [Int.pow_succ, Int.pow_succ]
    exact Int.mul_le_mul (pow_le6 h k) h.2 (by omega) (Int.le_of_lt (Int.pow_pos (by decide)))
theorem ne_cast {n : Int} (h : 0 < n) : (n : Rat) ≠ 0 := by
  intro e
  have : n = 0 := by exact_mod_cast e
  omega
/-- sums of such terms: over one bottom -/
theorem terms_over {s : Int} {qs : List Rat} (h : Chances qs) (hs : 2 ≤ s ∧ s ≤ 6) : ∀ (l : List Nat), (∀ t ∈ l, t ≤ 30) → ∃ n : Int, 0 ≤ n ∧ n ≤ 6 * s ^ 30 * l.length ∧ sumR (l.map (trm s qs)) = (n : Rat) / ((s ^ 30 : Int) : Rat)
  | [], _ => ⟨0, by simp, by simp, by rw [List.map_nil, sumR_nil]; have := ne_cast (pow_pos' hs 30); grind⟩
  | t :: l, ht => by
    obtain ⟨n, h1, h2, h3⟩ := terms_over h hs l fun u hu => ht u (by simp [hu])
    obtain ⟨_, o1, o2⟩ := opn_rst (s := s) (k := t) h
    have ht30 := ht t (by simp)
    obtain ⟨r, hr⟩ : ∃ r, t + r = 30 := ⟨30 - t, by omega⟩
    have e : s ^ 30 = s ^ t * s ^ r := by rw [← Int.pow_add, hr]
    have pt := pow_pos' hs t
    have pr := pow_pos' hs r
    refine ⟨opn s qs t * s ^ r + n, Int.add_nonneg (Int.mul_nonneg o1 (Int.le_of_lt pr)) h1, ?_, ?_⟩
    · have a1 : opn s qs t * s ^ r ≤ 6 * s ^ r := Int.mul_le_mul_of_nonneg_right o2 (Int.le_of_lt pr)
      have a2 : s ^ r ≤ s ^ 30 := by
        rw [e]
        have : 1 * s ^ r ≤ s ^ t * s ^ r := Int.mul_le_mul_of_nonneg_right (by omega) (Int.le_of_lt pr)
        omega
      rw [List.length_cons, Int.natCast_add, Int.mul_add]
      simp only [Int.natCast_one, Int.mul_one]
      omega
    · rw [List.map_cons, sumR_cons, h3, trm, e, Rat.intCast_add, Rat.intCast_mul, Rat.intCast_mul]
      have := ne_cast pt
      have := ne_cast pr
      grind
theorem terms_bd {s : Int} {qs : List Rat} (h : Chances qs) (hs : 2 ≤ s ∧ s ≤ 6) {l : List Nat} (hl : ∀ t ∈ l, t ≤ 30) (hn : l.length ≤ 40) : Bd 90 (sumR (l.map (trm s qs))) := by
  obtain ⟨n, h1, h2, h3⟩ := terms_over h hs l hl
  rw [h3]
  have p := pow_pos' hs 30
  have q := pow_le6 hs 30
  have e6 : (6 : Int) ^ 30 = 221073919720733357899776 := by decide
  rw [e6] at q
  have hn' : n ≤ 6 * 221073919720733357899776 * 40 := by
    have a1 : 6 * s ^ 30 * (l.length : Int) ≤ 6 * s ^ 30 * 40 := Int.mul_le_mul_of_nonneg_left (by omega) (by omega)
    omega
  exact Bd.quot p (by omega) (by omega)
theorem trm_bd {s : Int} {qs : List Rat} (h : Chances qs) (hs : 2 ≤ s ∧ s ≤ 6) {t : Nat} (ht : t ≤ 30) : Bd 90 (trm s qs t) := by
  have := terms_bd h hs (l := [t]) (by simpa using ht) (by simp)
  simp only [List.map_cons, List.map_nil, sumR_cons, sumR_nil] at this
  rwa [show trm s qs t + 0 = trm s qs t from by grind] at this
/-- what least_expected answers -/
def lexp (s : Int) (qs : List Rat) : Rat :=
  let p := per s qs
  let b := bak s qs
  let A := sumR (((List.range' b (p - b))).map (trm s qs))
  sumR ((List.range b).map (trm s qs)) + ((A.num * s ^ (p - b) : Int) : Rat) / ((A.den * (s ^ (p - b) - 1) : Int) : Rat)
theorem sumR_snoc (l : List Rat) (x : Rat) : sumR (l ++ [x]) = sumR l + x := by
  unfold sumR
  rw [List.foldl_append]
  rfl
theorem last_bd {s : Int} {A : Rat} {k : Nat} (hs : 2 ≤ s ∧ s ≤ 6) (hA : Bd 90 A) (hk : 0 < k ∧ k ≤ 30) : 0 < (A.den : Int) * (s ^ k - 1) ∧ (s ^ k).natAbs < 2 ^ 91 ∧ (s ^ k - 1).natAbs < 2 ^ 91 ∧ (A.num * s ^ k).natAbs < 2 ^ 181 ∧ ((A.den : Int) * (s ^ k - 1)).natAbs < 2 ^ 181 := by
  have b1 : (s ^ k).natAbs < 2 ^ 91 := Nat.lt_of_lt_of_le (pow_bd (sides_abs hs) k) (Nat.pow_le_pow_right (by decide) (by omega))
  have p := pow_pos' hs k
  have p2 : 2 ≤ s ^ k := by
    obtain ⟨j, rfl⟩ : ∃ j, k = j + 1 := ⟨k - 1, by omega⟩
    rw [Int.pow_succ]
    have := pow_pos' hs j
    have : 1 * s ≤ s ^ j * s := Int.mul_le_mul_of_nonneg_right (by omega) (by omega)
    omega
  have b2 : (s ^ k - 1).natAbs < 2 ^ 91 := by omega
  exact ⟨Int.mul_pos (den_pos A) (by omega), b1, b2, abs_mul hA.1 b1, abs_mul (by rw [den_abs]; exact hA.2) b2⟩
theorem lexp_bd {s : Int} {qs : List Rat} (h : Chances qs) (hs : 2 ≤ s ∧ s ≤ 6) : Bd 300 (lexp s qs) := by
  obtain ⟨_, p30, _⟩ := per_spec (s := s) h
  have hb := bak_lt (s := s) h
  have h1 := terms_bd h hs (l := List.range (bak s qs)) (fun t ht => by have := List.mem_range.mp ht; omega) (by simp; omega)
  have h2 := terms_bd h hs (l := List.range' (bak s qs) (per s qs - bak s qs)) (fun t ht => by have := List.mem_range'_1.mp ht; omega) (by simp; omega)
  obtain ⟨q1, q2, q3, q4, q5⟩ := last_bd hs h2 (k := per s qs - bak s qs) (by omega)
  exact (h1.add (Bd.quot q1 q4 q5)).mono (by decide)
theorem ix_fr0 {q : Rat} {S : Sto} : opIx (fr q) (.int 0) S = some (.int q.num, S) := by simp only [fr, ix_tup, at0]
theorem ix_fr1 {q : Rat} {S : Sto} : opIx (fr q) (.int 1) S = some (.int (q.den : Nat), S) := by simp only [fr, ix_tup, at1]
noncomputable def b_least_expected_L1 : DS :=
 (cSeq (cSet 5 (eCall 2 r_plus (lCons (eVar 5) (lCons (eCall 2 r_ratio (lCons (eOp opIx (eVar 4) (eVar 6)) (lCons (eCall 2 r_power (lCons (eVar 1) (lCons (eVar 6) lNil))) lNil))) lNil))))
 (cWipe [6]))
noncomputable def b_least_expected_L2 : DS :=
 (cSeq (cSet 7 (eCall 2 r_plus (lCons (eVar 7) (lCons (eCall 2 r_ratio (lCons (eOp opIx (eVar 4) (eVar 6)) (lCons (eCall 2 r_power (lCons (eVar 1) (lCons (eVar 6) lNil))) lNil))) lNil))))
 (cWipe [6]))
noncomputable def b_least_expected : DS :=
 (cSeq (cExpr (eCall 1 r_check_chances (lCons (eVar 0) lNil)))
 (cSeq (cExpr (eCall 1 r_check_sides (lCons (eVar 1) lNil)))
 (cSeq (cAsg (.tp [(.nm 2), (.nm 3)]) (eCall 2 r_course (lCons (eVar 0) (lCons (eVar 1) lNil))))
 (cSeq (cSet 4 (eLcV (iRange1 (lCons (eBi fLen (lCons (eVar 2) lNil)) lNil)) (.nm 6) tTrue (eCall 3 r_open_at_least (lCons (eVar 0) (lCons (eVar 1) (lCons (eVar 6) lNil)))) [6]))
 (cSeq (cSet 5 (eCall 2 r_ratio (lCons (eC (.int 0)) (lCons (eC (.int 1)) lNil))))
 (cSeq (cFor (iRange1 (lCons (eVar 3) lNil)) (.nm 6) b_least_expected_L1)
 (cSeq (cSet 7 (eCall 2 r_ratio (lCons (eC (.int 0)) (lCons (eC (.int 1)) lNil))))
 (cSeq (cFor (iRange2 (lCons (eVar 3) (lCons (eBi fLen (lCons (eVar 2) lNil)) lNil))) (.nm 6) b_least_expected_L2)
 (cSeq (cSet 8 (eCall 2 r_power (lCons (eVar 1) (lCons (eOp opSub (eBi fLen (lCons (eVar 2) lNil)) (eVar 3)) lNil))))
 (cSeq (cRet (eCall 2 r_plus (lCons (eVar 5) (lCons (eCall 2 r_ratio (lCons (eOp (opMul false) (eOp opIx (eVar 7) (eC (.int 0))) (eVar 8)) (lCons (eOp (opMul false) (eOp opIx (eVar 7) (eC (.int 1))) (eOp opSub (eVar 8) (eC (.int 1)))) lNil))) lNil))))
 cNil))))))))))
noncomputable def r_least_expected : Den := runF 9 b_least_expected
theorem terms_loop {qs : List Rat} {s : Int} {S : Sto} (h : Chances qs) (hs : 2 ≤ s ∧ s ≤ 6) {it : Itf} {tg : Tg} {b : DS} {lo n p : Nat} (E : Rat → Ev) (hit : Goes it S (List.range n) fun i => .int ((lo : Int) + (i : Nat))) (hn : lo + n ≤ 30)
    (step : ∀ (i : Nat) (t : Rat), i < n → Sm t → ∃ ρ1, tg.asg (.int ((lo + i : Nat) : Int)) (E t) = some ρ1 ∧ b ρ1 S = .ok (.nx (E (t + trm s qs (lo + i)))) S) :
    forL it tg b big 0 (E 0) S = .ok (.nx (E (sumR ((List.range' lo n).map (trm s qs))))) S := by
  have lp := (for_pure (S := S) (List.range n) (fun i => .int ((lo : Int) + (i : Nat))) E (fun t i => t + trm s qs (lo + i)) (fun pre t => pre = List.range pre.length ∧ t = sumR ((List.range' lo pre.length).map (trm s qs))) 0 hit (by simp; exact Nat.le_trans (by omega : n ≤ 30) (by decide)) ⟨by simp, by simp [sumR_nil]⟩ (tg := tg) (b := b) (by
    rintro pre i post t e ⟨e1, rfl⟩
    have hl := congrArg List.length e
    simp at hl
    have hi : i = pre.length := by
      have h1 : (List.range n)[pre.length]? = some i := by rw [e]; simp
      rw [List.getElem?_range (by omega)] at h1
      exact (Option.some.inj h1).symm
    have hsm : Sm (sumR ((List.range' lo pre.length).map (trm s qs))) := (terms_bd h hs (fun t ht => by have := List.mem_range'_1.mp ht; omega) (by simp; omega)).sm (by decide)
    refine ⟨⟨?_, ?_⟩, by have st := step i _ (by omega) hsm; rwa [Int.natCast_add] at st⟩
    · rw [List.length_append, List.length_cons, List.length_nil, Nat.zero_add, List.range_succ, ← e1, hi]
    · rw [List.length_append, List.length_cons, List.length_nil, Nat.zero_add, List.range'_concat, List.map_append, List.map_cons, List.map_nil, sumR_snoc, hi]
      simp))
  obtain ⟨e, _, e2⟩ := lp
  rw [List.length_range] at e2
  rw [e2] at e
  exact e
theorem least_expected_run {qs : List Rat} {s : Int} (h : Chances qs) (hs : 2 ≤ s ∧ s ≤ 6) (S : Sto) : r_least_expected [chs qs, .int s] S = .ok (fr (lexp s qs)) S := by
  obtain ⟨_, p30, _⟩ := per_spec (s := s) h
  have hb := bak_lt (s := s) h
  have h1 := terms_bd h hs (l := List.range (bak s qs)) (fun t ht => by have := List.mem_range.mp ht; omega) (by simp; omega)
  have h2 := terms_bd h hs (l := List.range' (bak s qs) (per s qs - bak s qs)) (fun t ht => by have := List.mem_range'_1.mp ht; omega) (by simp; omega)
  obtain ⟨q1, q2, q3, q4, q5⟩ := last_bd hs h2 (k := per s qs - bak s qs) (by omega)
  have hsl : (seenD (rst s qs) (per s qs)).length = per s qs := by simp [seenD]
  have rg : ∀ n : Nat, n ≤ 30 → rngB (n : Int) = true := fun n hn => rngB_iff.mpr (by omega)
  have z0 : ((0 : Int) : Rat) / ((1 : Int) : Rat) = 0 := by grind
  -- the sum of one part
  let E1 : Rat → Ev := fun t => [some (chs qs), some (.int s), some (.fz (seenD (rst s qs) (per s qs))), some (.int (bak s qs : Nat)), some (.fz ((List.range (per s qs)).map fun k => .int (opn s qs k))), some (fr t), none, none, none]
  let F1 : Rat := sumR ((List.range' 0 (bak s qs)).map (trm s qs))
  let E2 : Rat → Ev := fun t => [some (chs qs), some (.int s), some (.fz (seenD (rst s qs) (per s qs))), some (.int (bak s qs : Nat)), some (.fz ((List.range (per s qs)).map fun k => .int (opn s qs k))), some (fr F1), none, some (fr t), none]
  have opx : ∀ i : Nat, i < per s qs → atI ((List.range (per s qs)).map fun k => Dv.int (opn s qs k)) (i : Nat) = some (.int (opn s qs i)) := fun i hi =>
    atI_nat (v := Dv.int (opn s qs i)) (by rw [List.getElem?_map, List.getElem?_range hi]; rfl)
  have rat : ∀ k : Nat, k ≤ 30 → ∀ S1 : Sto, r_ratio [.int (opn s qs k), .int (s ^ k)] S1 = .ok (fr (trm s qs k)) S1 := fun k hk S1 =>
    ratio_run (pow_pos' hs k) (Nat.lt_of_lt_of_le (pow_bd (sides_abs hs) k) (Nat.pow_le_pow_right (by decide) (by omega))) S1
  have l1 := terms_loop (S := S) h hs (it := itRange 0 (bak s qs)) (tg := .nm 6) (b := b_least_expected_L1) (lo := 0) (n := bak s qs) (p := 0) E1 (goes_range 0 _) (by omega) (fun i t hi ht => ⟨_, rfl, by
    have o := opx (0 + i) (by omega)
    have pw := power_run (sides_abs' hs) (n := 0 + i) (by omega) S
    have rt := rat (0 + i) (by omega) S
    have pl := plus_run ht ((trm_bd h hs (t := 0 + i) (by omega)).sm (by decide)) S
    generalize 0 + i = j at *
    unfold b_least_expected_L1
    clear_value F1
    clear opx rat
    simp only [E1]
    walk_at "fc"
    rw [o]
    walk_at "fc"
    rw [pw]
    walk_at "fc"
    rw [rt]
    walk_at "fc"
    rw [pl]
    walk_at "fc"⟩)
  have l2 := terms_loop (S := S) h hs (it := itRange (bak s qs : Nat) (per s qs - bak s qs)) (tg := .nm 6) (b := b_least_expected_L2) (lo := bak s qs) (n := per s qs - bak s qs) (p := 0) E2 (goes_range _ _) (by omega) (fun i t hi ht => ⟨_, rfl, by
    have o := opx (bak s qs + i) (by omega)
    have pw := power_run (sides_abs' hs) (n := bak s qs + i) (by omega) S
    have rt := rat (bak s qs + i) (by omega) S
    have pl := plus_run ht ((trm_bd h hs (t := bak s qs + i) (by omega)).sm (by decide)) S
    generalize bak s qs + i = j at *
    unfold b_least_expected_L2
    clear_value F1
    clear opx rat
    simp only [E2]
    walk_at "fc"
    rw [o]
    walk_at "fc"
    rw [pw]
    walk_at "fc"
    rw [rt]
    walk_at "fc"
    rw [pl]
    walk_at "fc"⟩)
  refine f_val0 (ρ0 := [some (chs qs), some (.int s), none, none, none, none, none, none, none]) rfl ?_ rfl
  unfold b_least_expected
  refine seq_go (expr_go (d := .non) (S1 := S) ?_) (seq_go (expr_go (d := .non) (S1 := S) ?_) (seq_go (ρ1 := [some (chs qs), some (.int s), some (.fz (seenD (rst s qs) (per s qs))), some (.int (bak s qs : Nat)), none, none, none, none, none]) (S1 := S) ?_ (seq_go (set_go (d := .fz ((List.range (per s qs)).map fun k => .int (opn s qs k))) (S1 := S) ?_) (seq_go (set_go (d := fr 0) (S1 := S) ?_)
    (seq_go (for_go (it := itRange 0 (bak s qs)) (S1 := S) ?_ l1) (seq_go (set_go (d := fr 0) (S1 := S) ?_) (seq_go (for_go (it := itRange (bak s qs : Nat) (per s qs - bak s qs)) (S1 := S) ?_ l2) (seq_go (set_go (d := .int (s ^ (per s qs - bak s qs))) (S1 := S) ?_) (seq_rt (ret_go ?_))))))))))
  · walk_at "fc"
    rw [check_chances_ok (h.okC S) (isCh_chs h)]
  · walk_at "fc"
    rw [check_sides_ok hs]
  · walk_at "fc"
    rw [course_run h hs]
    walk_at "fc"
  · have lc := lcV_map (it := itRange 0 (per s qs)) (tg := .nm 6) (elt := eCall 3 r_open_at_least (lCons (eVar 0) (lCons (eVar 1) (lCons (eVar 6) lNil)))) (ρ := [some (chs qs), some (.int s), some (.fz (seenD (rst s qs) (per s qs))), some (.int (bak s qs : Nat)), none, none, none, none, none]) (S := S) (List.range (per s qs)) (fun i => .int (0 + (i : Nat))) (fun k => .int (opn s qs k)) (goes_range 0 _) (by simp; exact Nat.le_trans p30 (by decide)) fun k hk => ⟨_, rfl, by
      have := List.mem_range.mp hk
      rw [Int.zero_add]
      walk_at "fc"
      rw [open_run h.lim h.sm (sides_abs' hs) (by omega)]⟩
    walk_at "fg"
    try simp only [hsl, rg _ p30]
    walk_at "fg"
    rw [show ((per s qs : Nat) : Int).toNat = per s qs from rfl, lc]
  · walk_at "fc"
    rw [ratio_run (by decide) (by decide), z0]
  · walk_at "fc"
    rw [rg _ (by omega)]
    walk_at "fc"
    rfl
  · walk_at "fc"
    rw [ratio_run (by decide) (by decide), z0]
  · simp only [E1]
    walk_at "fg"
    try simp only [hsl, rg _ p30, rg _ (show bak s qs ≤ 30 by omega)]
    walk_at "fg"
    rw [show (((per s qs : Nat) : Int) - (bak s qs : Nat)).toNat = per s qs - bak s qs by omega]
  · simp only [E2]
    walk_at "fg"
    try simp only [hsl]
    rw [show ((per s qs : Nat) : Int) - (bak s qs : Nat) = ((per s qs - bak s qs : Nat) : Int) by omega, power_run (sides_abs' hs) (by omega)]
  · have b3 : mulOk (sumR ((List.range' (bak s qs) (per s qs - bak s qs)).map (trm s qs))).num (s ^ (per s qs - bak s qs)) = true := mulOk_of h2.1 q2 (by decide) (by decide) (by decide)
    have b4 : mulOk (((sumR ((List.range' (bak s qs) (per s qs - bak s qs)).map (trm s qs))).den : Nat) : Int) (s ^ (per s qs - bak s qs) - 1) = true := mulOk_of (by rw [den_abs]; exact h2.2) q3 (by decide) (by decide) (by decide)
    have b5 : Sm F1 := (terms_bd h hs (l := List.range' 0 (bak s qs)) (fun t ht => by have := List.mem_range'_1.mp ht; omega) (by simp; omega)).sm (by decide)
    have b6 := Bd.quot q1 q4 q5
    have e1 : F1 = sumR ((List.range (bak s qs)).map (trm s qs)) := by simp only [F1, List.range_eq_range']
    have fin := plus_run b5 (b6.sm (by decide)) S
    rw [e1] at fin
    clear_value F1
    subst e1
    simp only [E2]
    unfold lexp
    simp only []
    generalize sumR ((List.range' (bak s qs) (per s qs - bak s qs)).map (trm s qs)) = A at *
    walk_at "fc"
    rw [ix_fr0]
    walk_at "fc"
    rw [zMul b3]
    walk_at "fc"
    rw [ix_fr1]
    walk_at "fc"
    rw [zMul b4]
    walk_at "fc"
    rw [ratio_run q1 (Nat.lt_of_lt_of_le q5 (Nat.pow_le_pow_right (by decide) (by decide)))]
    walk_at "fc"
    rw [fin]
end Fc

set_option exponentiation.threshold 256
set_option maxHeartbeats 4000000
set_option maxHeartbeats 4000000
/-! LawA: what the laws' own ratios and draws do. -/
namespace Fc
open PySem L2
local macro_rules | `(tactic| walk_at "fc") => `(tactic| try simp only [runB, cSeq, cNil, cRet, cRetN, cExpr, cIf, cSet, cAsg, cPar, cAug, cRaise, cStore, cPass, cWipe, wipeD, toS_ok, toS_exn, toS_stuck, Res.bd_ok, Res.bd_exn, Res.bd_stuck, Res.bdN_ok, Res.bdN_exn, Res.bdN_stuck,
  eVar, eC, eTup, eLst, eOp, eChain, eUn, eAnd, eOr, eNot, eIf, eRep, tTs, tAnd2, tOr2, tNot2, tTrue, eCall, eBi, eIsi, eMtL, eSl, oNo, oSo, lNil, lCons, iSeq, iRange1, iRange2, zAdd, zSub, zMul, zDiv, zMod, ofO, opInt, opIn, opNotIn, opEq, opNe, opIs, opIsnt, mk_t, mk_f,
  List.map_cons, List.map_nil, List.length_cons, List.length_nil, List.replicate, List.append_nil, List.nil_append, List.cons_append, List.getElem?_cons_zero, List.getElem?_cons_succ, List.getElem?_nil, List.set_cons_zero, List.set_cons_succ, List.set_nil, lm0, lm1, lm2, lm3, lm4, lm5, lm6, lm7, lm8, lm9, asg_nm, asg_tp, asgs_nil, asgs_cons, Option.bind_some, Option.bind_none, Option.map_some, Option.map_none,
  Nat.reduceSub, Nat.reduceAdd, Nat.zero_add, Nat.add_zero, Nat.sub_self, if_true, if_false, reduceIte, Bool.false_eq_true, Bool.true_eq_false, Bool.not_true, Bool.not_false, ix_tup, ix_fz, at0, at1, at2, eDNew, eDGet, eDGet2, eDIn, eDPop, cDPut, cAugS, cSub2, dic_ref, keyOf, reduceCtorEq])
local macro_rules | `(tactic| walk_at "fo") => `(tactic| try simp only [*, runB, cSeq, cNil, cRet, cRetN, cExpr, cIf, cSet, cAsg, cPar, cAug, cRaise, cStore, cPass, cWipe, wipeD, toS_ok, toS_exn, toS_stuck, Res.bd_ok, Res.bd_exn, Res.bd_stuck, Res.bdN_ok, Res.bdN_exn, Res.bdN_stuck,
  eVar, eC, eTup, eLst, eOp, eChain, eUn, eAnd, eOr, eNot, eIf, eRep, tTs, tAnd2, tOr2, tNot2, tTrue, eCall, eBi, eIsi, eMtL, eSl, oNo, oSo, lNil, lCons, iSeq, iRange1, iRange2, zAdd, zSub, zMul, zDiv, zMod, ofO, opInt, opIn, opNotIn, opEq, opNe, opIs, opIsnt, mk_t, mk_f,
  List.map_cons, List.map_nil, List.length_cons, List.length_nil, List.replicate, List.append_nil, List.nil_append, List.cons_append, List.getElem?_cons_zero, List.getElem?_cons_succ, List.getElem?_nil, List.set_cons_zero, List.set_cons_succ, List.set_nil, lm0, lm1, lm2, lm3, lm4, lm5, lm6, lm7, lm8, lm9, asg_nm, asg_tp, asgs_nil, asgs_cons, Option.bind_some, Option.bind_none, Option.map_some, Option.map_none,
  Nat.reduceSub, Nat.reduceAdd, Nat.zero_add, Nat.add_zero, Nat.sub_self, if_true, if_false, reduceIte, Bool.false_eq_true, Bool.true_eq_false, Bool.not_true, Bool.not_false, ix_tup, ix_fz, at0, at1, at2, eDNew, eDGet, eDGet2, eDIn, eDPop, cDPut, cAugS, cSub2, dic_ref, keyOf, reduceCtorEq, and_self, Bool.and_self, decide_true, decide_false, List.append_assoc, List.length_append, Nat.add_assoc, at_new, at_newk, add_fz, add_rf, add_tt, ix_ref, seq_ref, list_ref, seq_tup, seq_fz, list_fz, ix_tup, ix_fz, neg_int, app_ref, set_newk, set_new0, iZ, iEn, sl_tup, sl_fz, eLcV, len_tup, len_ref, len_fz, tuple_fz, tuple_ref, ty_non, ty_bl, ty_int, ty_str, ty_tup, ty_fz])
local macro_rules | `(tactic| walk_at "fg") => `(tactic| try simp only [*, runB, cSeq, cNil, cRet, cRetN, cExpr, cIf, cSet, cAsg, cPar, cAug, cRaise, cStore, cPass, cWipe, wipeD, toS_ok, toS_exn, toS_stuck, Res.bd_ok, Res.bd_exn, Res.bd_stuck, Res.bdN_ok, Res.bdN_exn, Res.bdN_stuck,
  eVar, eC, eTup, eLst, eOp, eChain, eUn, eAnd, eOr, eNot, eIf, eRep, tTs, tAnd2, tOr2, tNot2, tTrue, eCall, eBi, eIsi, eMtL, eSl, oNo, oSo, lNil, lCons, iSeq, iRange1, iRange2, zAdd, zSub, zMul, zDiv, zMod, ofO, opInt, opIn, opNotIn, opEq, opNe, opIs, opIsnt, mk_t, mk_f,
  List.map_cons, List.map_nil, List.length_cons, List.length_nil, List.replicate, List.append_nil, List.nil_append, List.cons_append, List.getElem?_cons_zero, List.getElem?_cons_succ, List.getElem?_nil, List.set_cons_zero, List.set_cons_succ, List.set_nil, lm0, lm1, lm2, lm3, lm4, lm5, lm6, lm7, lm8, lm9, asg_nm, asg_tp, asgs_nil, asgs_cons, Option.bind_some, Option.bind_none, Option.map_some, Option.map_none,
  Nat.reduceSub, Nat.reduceAdd, Nat.zero_add, Nat.add_zero, Nat.sub_self, if_true, if_false, reduceIte, Bool.false_eq_true, Bool.true_eq_false, Bool.not_true, Bool.not_false, ix_tup, ix_fz, at0, at1, at2, eDNew, eDGet, eDGet2, eDIn, eDPop, cDPut, cAugS, cSub2, dic_ref, keyOf, reduceCtorEq, and_self, Bool.and_self, decide_true, decide_false, List.append_assoc, List.length_append, Nat.add_assoc, at_new, at_newk, add_fz, add_rf, add_tt, ix_ref, seq_ref, list_ref, seq_tup, seq_fz, list_fz, ix_tup, ix_fz, neg_int, app_ref, set_newk, set_new0, iZ, iEn, sl_tup, sl_fz, eLcV, len_tup, len_ref, len_fz, tuple_fz, tuple_ref, ty_non, ty_bl, ty_int, ty_str, ty_tup, ty_fz])
local macro_rules | `(tactic| walk_at "fs") => `(tactic| try simp [runB, cSeq, cNil, cRet, cRetN, cExpr, cIf, cSet, cAsg, cPar, cAug, cRaise, cStore, cPass, cWipe, wipeD, toS_ok, toS_exn, toS_stuck, Res.bd_ok, Res.bd_exn, Res.bd_stuck, Res.bdN_ok, Res.bdN_exn, Res.bdN_stuck,
  eVar, eC, eTup, eLst, eOp, eChain, eUn, eAnd, eOr, eNot, eIf, eRep, tTs, tAnd2, tOr2, tNot2, tTrue, eCall, eBi, eIsi, eMtL, eSl, oNo, oSo, lNil, lCons, iSeq, iRange1, iRange2, zAdd, zSub, zMul, zDiv, zMod, ofO, opInt, opIn, opNotIn, opEq, opNe, opIs, opIsnt, mk_t, mk_f,
  List.map_cons, List.map_nil, List.length_cons, List.length_nil, List.replicate, List.append_nil, List.nil_append, List.cons_append, List.getElem?_cons_zero, List.getElem?_cons_succ, List.getElem?_nil, List.set_cons_zero, List.set_cons_succ, List.set_nil, lm0, lm1, lm2, lm3, lm4, lm5, lm6, lm7, lm8, lm9, asg_nm, asg_tp, asgs_nil, asgs_cons, Option.bind_some, Option.bind_none, Option.map_some, Option.map_none,
  Nat.reduceSub, Nat.reduceAdd, Nat.zero_add, Nat.add_zero, Nat.sub_self, if_true, if_false, reduceIte, Bool.false_eq_true, Bool.true_eq_false, Bool.not_true, Bool.not_false, ix_tup, ix_fz, at0, at1, at2, eDNew, eDGet, eDGet2, eDIn, eDPop, cDPut, cAugS, cSub2, dic_ref, keyOf, reduceCtorEq, and_self, Bool.and_self, decide_true, decide_false, List.append_assoc, List.length_append, Nat.add_assoc, at_new, at_newk, add_fz, add_rf, add_tt, ix_ref, seq_ref, list_ref, seq_tup, seq_fz, list_fz, ix_tup, ix_fz, neg_int, app_ref, set_newk, set_new0, iZ, iEn, sl_tup, sl_fz, eLcV, len_tup, len_ref, len_fz, tuple_fz, tuple_ref, ty_non, ty_bl, ty_int, ty_str, ty_tup, ty_fz, isT, eqD_int, at0, at1])
local macro_rules | `(tactic| walk_at "fh") => `(tactic| try simp [*, runB, cSeq, cNil, cRet, cRetN, cExpr, cIf, cSet, cAsg, cPar, cAug, cRaise, cStore, cPass, cWipe, wipeD, toS_ok, toS_exn, toS_stuck, Res.bd_ok, Res.bd_exn, Res.bd_stuck, Res.bdN_ok, Res.bdN_exn, Res.bdN_stuck,
  eVar, eC, eTup, eLst, eOp, eChain, eUn, eAnd, eOr, eNot, eIf, eRep, tTs, tAnd2, tOr2, tNot2, tTrue, eCall, eBi, eIsi, eMtL, eSl, oNo, oSo, lNil, lCons, iSeq, iRange1, iRange2, zAdd, zSub, zMul, zDiv, zMod, ofO, opInt, opIn, opNotIn, opEq, opNe, opIs, opIsnt, mk_t, mk_f,
  List.map_cons, List.map_nil, List.length_cons, List.length_nil, List.replicate, List.append_nil, List.nil_append, List.cons_append, List.getElem?_cons_zero, List.getElem?_cons_succ, List.getElem?_nil, List.set_cons_zero, List.set_cons_succ, List.set_nil, lm0, lm1, lm2, lm3, lm4, lm5, lm6, lm7, lm8, lm9, asg_nm, asg_tp, asgs_nil, asgs_cons, Option.bind_some, Option.bind_none, Option.map_some, Option.map_none,
  Nat.reduceSub, Nat.reduceAdd, Nat.zero_add, Nat.add_zero, Nat.sub_self, if_true, if_false, reduceIte, Bool.false_eq_true, Bool.true_eq_false, Bool.not_true, Bool.not_false, ix_tup, ix_fz, at0, at1, at2, eDNew, eDGet, eDGet2, eDIn, eDPop, cDPut, cAugS, cSub2, dic_ref, keyOf, reduceCtorEq, and_self, Bool.and_self, decide_true, decide_false, List.append_assoc, List.length_append, Nat.add_assoc, at_new, at_newk, add_fz, add_rf, add_tt, ix_ref, seq_ref, list_ref, seq_tup, seq_fz, list_fz, ix_tup, ix_fz, neg_int, app_ref, set_newk, set_new0, iZ, iEn, sl_tup, sl_fz, eLcV, len_tup, len_ref, len_fz, tuple_fz, tuple_ref, ty_non, ty_bl, ty_int, ty_str, ty_tup, ty_fz, isT, eqD_int, at0, at1])
/-! ### Euclid -/
theorem euclid {t : DT} {b : DS} {S : Sto} (E : Int → Int → Ev) (h1 : ∀ x : Nat, t (E x 0) S = .ok false S) (h2 : ∀ x y : Nat, 0 < y → t (E x y) S = .ok true S)
    (h3 : ∀ x y : Nat, 0 < y → b (E x y) S = .ok (.nx (E y ((x : Int) % y))) S) : ∀ (n x y fuel : Nat), y < 2 ^ n → 2 * n < fuel → whileL t b fuel (E x y) S = .ok (.nx (E (Nat.gcd x y : Nat) 0)) S := by
  have stop : ∀ (x fuel : Nat), 0 < fuel → whileL t b fuel (E x ((0 : Nat) : Int)) S = .ok (.nx (E (Nat.gcd x 0 : Nat) 0)) S := by
    intro x fuel hf
    cases fuel with
    | zero => omega
    | succ f =>
      unfold whileL
      rw [show (((0 : Nat) : Int)) = 0 from rfl, h1]
      simp
  have go : ∀ (x y fuel : Nat), 0 < y → whileL t b (fuel + 1) (E x y) S = whileL t b fuel (E y ((x % y : Nat) : Int)) S := by
    intro x y fuel hy
    conv => lhs; unfold whileL
    rw [h2 x y hy, toS_ok, if_pos rfl, h3 x y hy]
    simp
  intro n
  induction n with
  | zero =>
    intro a b fuel hb hf
    have : b = 0 := by omega
    subst this
    exact stop a fuel (by omega)
  | succ n ih =>
    intro a b fuel hb hf
    by_cases h0 : b = 0
    · subst h0
      exact stop a fuel (by omega)
    · obtain ⟨f2, rfl⟩ : ∃ f2, fuel = f2 + 1 := ⟨fuel - 1, by omega⟩
      rw [go a b f2 (by omega)]
      by_cases h1 : a % b = 0
      · rw [h1, stop b f2 (by omega), Nat.gcd_comm a b, Nat.gcd_rec b a, h1]
        simp
      · obtain ⟨f3, rfl⟩ : ∃ f3, f2 = f3 + 1 := ⟨f2 - 1, by omega⟩
        rw [go b (a % b) f3 (by omega)]
        have hlt : a % b < b := Nat.mod_lt _ (by omega)
        have hm : b % (a % b) < a % b := Nat.mod_lt _ (by omega)
        have hm2 : b % (a % b) + a % b ≤ b := by
          have e := Nat.div_add_mod b (a % b)
          have hd : 0 < b / (a % b) := Nat.div_pos (Nat.le_of_lt hlt) (by omega)
          have : a % b ≤ (a % b) * (b / (a % b)) := Nat.le_mul_of_pos_right _ hd
          omega
        have hh : b % (a % b) < 2 ^ n := by
          rw [Nat.pow_succ] at hb
          omega
        rw [ih (a % b) (b % (a % b)) f3 hh (by omega)]
        have e1 : Nat.gcd a b = Nat.gcd (a % b) (b % (a % b)) := by
          rw [Nat.gcd_comm a b, Nat.gcd_rec b a, Nat.gcd_rec (a % b) b, Nat.gcd_comm]
        rw [e1]
noncomputable def b_law_fraction_L1 : DS :=
 (cSeq (cPar 2 3 (lCons (eVar 3) (lCons (eOp opMod (eVar 2) (eVar 3)) lNil)))
 cNil)
noncomputable def b_law_fraction : DS :=
 (cSeq (cPar 2 3 (lCons (eBi fAbs (lCons (eVar 0) lNil)) (lCons (eVar 1) lNil)))
 (cSeq (cWhile (tTs (eOp opGt (eVar 3) (eC (.int 0)))) b_law_fraction_L1)
 (cSeq (cRet (eTup (lCons (eOp opDiv (eVar 0) (eVar 2)) (lCons (eOp opDiv (eVar 1) (eVar 2)) lNil))))
 cNil)))
noncomputable def r_law_fraction : Den := runF 4 b_law_fraction
theorem law_fraction_run {a b : Int} (h0 : 0 < b) (h1 : b.natAbs < 2 ^ 8000) (S : Sto) : r_law_fraction [.int a, .int b] S = .ok (fr ((a : Rat) / (b : Rat))) S := by
  refine f_val0 rfl ?_ rfl
  unfold b_law_fraction
  walk_at "fc"
  simp only [fAbs, abs_if]
  walk_at "fc"
  simp only [cWhile]
  have hb : b = ((b.toNat : Nat) : Int) := by omega
  have e := euclid (t := tTs (eOp opGt (eVar 3) (eC (.int 0)))) (b := b_law_fraction_L1) (S := S) (fun x y => [some (.int a), some (.int b), some (.int x), some (.int y)])
    (fun x => by walk_at "fs") (fun x y hy => by
      have hy' : (0 : Int) < y := by omega
      walk_at "fs"
      omega) (fun x y hy => by
      have hy' : (0 : Int) < y := by omega
      unfold b_law_fraction_L1
      walk_at "fc"
      simp only [opMod, if_pos hy']
      walk_at "fc") 8000 a.natAbs b.toNat big (by
        have h2 : b.natAbs = b.toNat := by omega
        rwa [h2] at h1) (lt_big (by decide))
  rw [← hb] at e
  rw [e]
  walk_at "fc"
  have hg : Nat.gcd a.natAbs b.toNat = Int.gcd a b := by
    rw [Int.gcd]
    congr 1
    omega
  rw [hg]
  simp only [opDiv, if_pos (gcd_div_ok (a := a) h0 h1)]
  walk_at "fc"
  rw [quot_fr h0]
noncomputable def b_law_add : DS :=
 (cSeq (cRet (eCall 2 r_law_fraction (lCons (eOp (opAdd false) (eOp (opMul false) (eOp opIx (eVar 0) (eC (.int 0))) (eOp opIx (eVar 1) (eC (.int 1)))) (eOp (opMul false) (eOp opIx (eVar 1) (eC (.int 0))) (eOp opIx (eVar 0) (eC (.int 1))))) (lCons (eOp (opMul false) (eOp opIx (eVar 0) (eC (.int 1))) (eOp opIx (eVar 1) (eC (.int 1)))) lNil))))
 cNil)
noncomputable def r_law_add : Den := runF 2 b_law_add
theorem law_add_run {a b : Rat} (ha : Sm a) (hb : Sm b) (S : Sto) : r_law_add [fr a, fr b] S = .ok (fr (a + b)) S := by
  refine f_val0 rfl ?_ rfl
  unfold b_law_add fr
  obtain ⟨m1, m2, m3, m4, m5⟩ := ha.mul hb
  obtain ⟨n1, n2, n3, n4, n5⟩ := hb.mul ha
  walk_at "fc"
  simp only [opMul, m2, n2, m3]
  walk_at "fc"
  rw [law_fraction_run (den_mul_pos a b) m5]
  walk_at "fc"
  rw [← add_quot]
  rfl
noncomputable def b_law_sum_L1 : DS :=
 (cSeq (cSet 1 (eCall 2 r_law_add (lCons (eVar 1) (lCons (eVar 2) lNil))))
 (cWipe [2]))
noncomputable def b_law_sum : DS :=
 (cSeq (cSet 1 (eTup (lCons (eC (.int 0)) (lCons (eC (.int 1)) lNil))))
 (cSeq (cFor (iSeq (eVar 0)) (.nm 2) b_law_sum_L1)
 (cSeq (cRet (eVar 1))
 cNil)))
noncomputable def r_law_sum : Den := runF 3 b_law_sum
theorem law_sum_run {qs : List Rat} {d : Dv} {S : Sto} (hd : seqOf S d = some (qs.map fr)) (hl : qs.length ≤ lim) (hs : ∀ pre post, qs = pre ++ post → Sm (sumR pre)) (hq : ∀ q ∈ qs, Sm q) :
    r_law_sum [d] S = .ok (fr (sumR qs)) S := by
  refine f_val0 rfl ?_ rfl
  unfold b_law_sum
  refine seq_go (set_go (d := fr 0) rfl) (seq_go (for_go (it := itSeq d) (S1 := S) ?_ ((for_pure qs fr (fun t => [some d, some (fr t), none]) (fun t q => t + q) (fun pre t => t = sumR pre) 0 (goes_seq hd) hl rfl ?_).1)) (seq_rt (ret_go rfl)))
  · walk_at "fc"
    rw [hd]
  · intro pre q post t e ht
    subst ht
    refine ⟨by rw [sumR_append, sumR_cons, sumR_nil]; grind, _, rfl, ?_⟩
    unfold b_law_sum_L1
    walk_at "fc"
    rw [law_add_run (hs pre _ e) (hq q (by rw [e]; simp))]
    walk_at "fc"
noncomputable def b_law_scale_L1 : DS :=
 (cSeq (cSet 2 (eOp (opMul false) (eVar 2) (eVar 0)))
 (cWipe [3]))
noncomputable def b_law_scale : DS :=
 (cSeq (cSet 2 (eC (.int 1)))
 (cSeq (cFor (iRange1 (lCons (eVar 1) lNil)) (.nm 3) b_law_scale_L1)
 (cSeq (cRet (eVar 2))
 cNil)))
noncomputable def r_law_scale : Den := runF 4 b_law_scale
theorem law_scale_run {b : Int} {n : Nat} (hb : b.natAbs < 2 ^ 100) (hn : n ≤ 1000) (S : Sto) : r_law_scale [.int b, .int (n : Nat)] S = .ok (.int (b ^ n)) S := by
  refine f_val0 rfl ?_ rfl
  unfold b_law_scale
  have e : (List.range n).foldl (fun (t : Int) _ => t * b) 1 = b ^ n := by
    induction n with
    | zero => simp
    | succ n ih => rw [List.range_succ, List.foldl_append, ih (by omega), Int.pow_succ]; rfl
  have lp := (for_pure (it := itRange 0 n) (tg := .nm 3) (b := b_law_scale_L1) (S := S) (List.range n) (fun i => .int (0 + (i : Nat))) (fun t : Int => [some (.int b), some (.int (n : Nat)), some (.int t), none]) (fun t _ => t * b) (fun pre t => t = b ^ pre.length) 1 (goes_range 0 n) (by simp; exact Nat.le_trans hn (by decide)) (by simp) ?_).1
  · rw [e] at lp
    refine seq_go (set_go (d := .int 1) rfl) (seq_go (for_go (it := itRange 0 n) (S1 := S) ?_ lp) (seq_rt (ret_go rfl)))
    walk_at "fc"
    have : rngB (n : Nat) = true := rngB_iff.mpr (by omega)
    simp [this]
  · intro pre i post t e2 ht
    have hl : pre.length < n := by
      have := congrArg List.length e2
      simp at this
      omega
    have hm : mulOk t b = true := by
      rw [ht]
      exact mulOk_of (pow_bd hb _) hb (by omega) (by decide) (by omega)
    refine ⟨by rw [ht, List.length_append, ← Int.pow_succ]; rfl, _, rfl, ?_⟩
    unfold b_law_scale_L1
    walk_at "fc"
    rw [zMul hm]
    walk_at "fc"
/-! ### what is drawn -/
noncomputable def b_law_cell_at : DS :=
 (cSeq (cIf (tTs (eOp opLt (eVar 1) (eBi fLen (lCons (eVar 0) lNil))))
 (cSeq (cRet (eOp opIx (eVar 0) (eVar 1)))
 cNil)
 cNil)
 (cSeq (cRet (eC (.int 0)))
 cNil))
noncomputable def r_law_cell_at : Den := runF 2 b_law_cell_at
theorem law_cell_at_run (es : List Dv) (k : Nat) (hp : ∀ e ∈ es, e.plain = true) (S : Sto) : r_law_cell_at [.fz es, .int (k : Nat)] S = .ok (es[k]?.getD (.int 0)) S := by
  refine f_val0 rfl ?_ ?_
  · unfold b_law_cell_at
    walk_at "fc"
    rw [len_fz]
    walk_at "fc"
    by_cases hl : k < es.length
    · have h2 : ((k : Int) < (es.length : Int)) := by omega
      simp only [decide_eq_true h2]
      walk_at "fc"
      rw [atI_nat (List.getElem?_eq_getElem hl)]
      walk_at "fc"
      simp [List.getElem?_eq_getElem hl]
    · have h2 : ¬ ((k : Int) < (es.length : Int)) := by omega
      simp only [decide_eq_false h2]
      walk_at "fc"
      rw [List.getElem?_eq_none (by omega)]
      rfl
  · by_cases hl : k < es.length
    · rw [List.getElem?_eq_getElem hl]
      exact hp _ (List.getElem_mem hl)
    · rw [List.getElem?_eq_none (by omega)]
      rfl
/-- the pen of a law: what is left of the digits; the mixer's state; how often it was asked -/
structure Pen where
  a : Int
  b : Int
  c : Int
def Pen.ob (p : Pen) : Ob := .lst [.int p.a, .int p.b, .int p.c]
def pen0 (c : Int) : Pen := ⟨max 0 (c - 10 ^ 18), c % 2147483629 + 1, 0⟩
noncomputable def b_law_pen : DS :=
 (cSeq (cRet (eLst true (lCons (eBi fMax2 (lCons (eC (.int 0)) (lCons (eOp opSub (eVar 0) (eOp opPow (eC (.int 10)) (eC (.int 18)))) lNil))) (lCons (eOp (opAdd false) (eOp opMod (eVar 0) (eC (.int 2147483629))) (eC (.int 1))) (lCons (eC (.int 0)) lNil)))))
 cNil)
noncomputable def r_law_pen : Den := runB 1 b_law_pen
theorem law_pen_run (c : Int) (S : Sto) : r_law_pen [.int c] S = .ok (.ref S.length) (S ++ [(pen0 c).ob]) := by
  unfold r_law_pen b_law_pen
  walk_at "fc"
  simp only [opPow, opSub, opMod, opAdd, fMax2]
  try simp [lim_eq, pen0, Pen.ob]
  omega
def mix1 (b : Int) : Int := (b * b + 69621 * b + 11) % 2147483629
def mix2 (x : Int) : Int := (x * x + 40014 * x) % 2147483587
def nxt (p : Pen) : Pen := ⟨p.a, (p.b * 48271 + 1009 * (p.c + 1) + 7) % 2147483647, p.c + 1⟩
def draw (p : Pen) (m : Int) : Int × Pen := if 0 < p.a then (p.a % m, ⟨p.a / m, p.b, p.c⟩) else (mix2 (mix1 (nxt p).b) / 16 % m, nxt p)
def penB (p : Pen) (N : Nat) : Prop := 0 ≤ p.b ∧ p.b < 2 ^ 31 ∧ 0 ≤ p.c ∧ p.c ≤ N
theorem penB.mono {p : Pen} {N M : Nat} (h : penB p N) (hm : N ≤ M) : penB p M := ⟨h.1, h.2.1, h.2.2.1, by have := h.2.2.2; omega⟩
theorem penB0 (c : Int) : penB (pen0 c) 0 := ⟨by simp [pen0]; omega, by simp [pen0]; omega, by simp [pen0], by simp [pen0]⟩
theorem penB.draw {p : Pen} {N : Nat} (h : penB p N) (m : Int) : penB (draw p m).2 (N + 1) := by
  unfold Fc.draw
  split
  · exact ⟨h.1, h.2.1, h.2.2.1, by have := h.2.2.2; simp only; omega⟩
  · exact ⟨by simp only [nxt]; omega, by simp only [nxt]; omega, by have := h.2.2.1; simp only [nxt]; omega, by have := h.2.2.2; simp only [nxt]; omega⟩
theorem draw_lt (p : Pen) {m : Int} (hm : 0 < m) : 0 ≤ (draw p m).1 ∧ (draw p m).1 < m := by
  unfold draw
  split
  · exact ⟨Int.emod_nonneg _ (by omega), Int.emod_lt_of_pos _ hm⟩
  · exact ⟨Int.emod_nonneg _ (by omega), Int.emod_lt_of_pos _ hm⟩
theorem small_mul {i j : Int} (h1 : 0 ≤ i) (h2 : i < 2 ^ 40) (h3 : 0 ≤ j) (h4 : j < 2 ^ 40) : mulOk i j = true := mulOk_of (a := 40) (b := 40) (by omega) (by omega) (by decide) (by decide) (by decide)
theorem f_upd {n : Nat} {b : DS} {args : List Dv} {ρ0 : Ev} {d : Dv} {S S2 : Sto} (he : args.map some ++ List.replicate (n - args.length) none = ρ0) (h : b ρ0 S = .ok (.rt d) S2) (hk : Kept S S2) (hp : d.plain = true) : runF n b args S = .ok d S2 := by
  unfold runF
  rw [run_rt he h]
  have := tidy_upd hp hk []
  rwa [List.append_nil] at this
noncomputable def b_law_draw : DS :=
 (cSeq (cIf (tTs (eOp opGt (eOp opIx (eVar 0) (eC (.int 0))) (eC (.int 0))))
 (cSeq (cSet 2 (eOp opMod (eOp opIx (eVar 0) (eC (.int 0))) (eVar 1)))
 (cSeq (cStore (eOp opDiv (eOp opIx (eVar 0) (eC (.int 0))) (eVar 1)) (eVar 0) (eC (.int 0)))
 (cSeq (cRet (eVar 2))
 cNil)))
 cNil)
 (cSeq (cStore (eOp (opAdd false) (eOp opIx (eVar 0) (eC (.int 2))) (eC (.int 1))) (eVar 0) (eC (.int 2)))
 (cSeq (cStore (eOp opMod (eOp (opAdd false) (eOp (opAdd false) (eOp (opMul false) (eOp opIx (eVar 0) (eC (.int 1))) (eC (.int 48271))) (eOp (opMul false) (eC (.int 1009)) (eOp opIx (eVar 0) (eC (.int 2))))) (eC (.int 7))) (eC (.int 2147483647))) (eVar 0) (eC (.int 1)))
 (cSeq (cSet 3 (eOp opMod (eOp (opAdd false) (eOp (opAdd false) (eOp (opMul false) (eOp opIx (eVar 0) (eC (.int 1))) (eOp opIx (eVar 0) (eC (.int 1)))) (eOp (opMul false) (eC (.int 69621)) (eOp opIx (eVar 0) (eC (.int 1))))) (eC (.int 11))) (eC (.int 2147483629))))
 (cSeq (cSet 3 (eOp opMod (eOp (opAdd false) (eOp (opMul false) (eVar 3) (eVar 3)) (eOp (opMul false) (eC (.int 40014)) (eVar 3))) (eC (.int 2147483587))))
 (cSeq (cRet (eOp opMod (eOp opDiv (eVar 3) (eC (.int 16))) (eVar 1)))
 cNil))))))
noncomputable def r_law_draw : Den := runF 4 b_law_draw
theorem law_draw_run {S : Sto} {n : Nat} {p : Pen} {N : Nat} {m : Int} (es : S[n]? = some p.ob) (hp : penB p N) (hN : N ≤ 2 ^ 200) (h0 : 0 < m) (h8 : m < 2 ^ 62) : r_law_draw [.ref n, .int m] S = .ok (.int (draw p m).1) (S.set n (draw p m).2.ob) := by
  refine f_upd (ρ0 := [some (.ref n), some (.int m), none, none]) rfl ?_ (Kept.set (Kept.refl S) n rfl) rfl
  have hn : n < S.length := (List.getElem?_eq_some_iff.mp es).1
  obtain ⟨hb0, hb1, hc0, hc1⟩ := hp
  have hdm : divOk m = true := divOk_of (a := 62) h0 (by omega) (by decide) (by decide)
  have m1 : mulOk p.b 48271 = true := small_mul hb0 (by omega) (by decide) (by decide)
  have m2 : mulOk 1009 (p.c + 1) = true := mulOk_of (a := 40) (b := 201) (by decide) (by
    rw [Nat.pow_succ]
    have x2 : 2 ≤ (2 : Nat) ^ 200 := by decide
    generalize (2 : Nat) ^ 200 = x at *
    omega) (by decide) (by decide) (by decide)
  obtain ⟨a, b, c⟩ := p
  simp only [Pen.ob] at es
  simp only at hb0 hb1 hc0 hc1 m1 m2
  have hl3 : ∀ x y z : Dv, ixN [x, y, z].length 0 = some 0 ∧ ixN [x, y, z].length 1 = some 1 ∧ ixN [x, y, z].length 2 = some 2 := fun _ _ _ => ⟨rfl, rfl, rfl⟩
  unfold b_law_draw
  have j0 : opIx (.ref n) (.int 0) S = some (.int a, S) := zIxL es (at0 _ _)
  walk_at "fc"
  simp only [j0]
  walk_at "fc"
  by_cases ha : 0 < a
  · simp only [decide_eq_true ha]
    walk_at "fc"
    simp only [j0]
    walk_at "fc"
    simp only [zMod h0]
    walk_at "fc"
    simp only [j0]
    walk_at "fc"
    simp only [zDiv hdm]
    walk_at "fc"
    simp only [es, hl3]
    walk_at "fc"
    simp [draw, ha, Pen.ob]
  · simp only [decide_eq_false ha]
    walk_at "fc"
    have g : ∀ o : Ob, (S.set n o)[n]? = some o := fun o => List.getElem?_set_self hn
    have i0 : opIx (.ref n) (.int 2) S = some (.int c, S) := zIxL es (at2 _ _ _ _)
    have i1 : ∀ x y z : Dv, opIx (.ref n) (.int 1) (S.set n (.lst [x, y, z])) = some (y, S.set n (.lst [x, y, z])) := fun x y z => zIxL (g _) (at1 _ _ _)
    have i2 : ∀ x y z : Dv, opIx (.ref n) (.int 2) (S.set n (.lst [x, y, z])) = some (z, S.set n (.lst [x, y, z])) := fun x y z => zIxL (g _) (at2 _ _ _ _)
    have z1 : (0 : Int) < 2147483647 := by decide
    have z2 : (0 : Int) < 2147483629 := by decide
    have z3 : (0 : Int) < 2147483587 := by decide
    have d16 : divOk 16 = true := by decide
    clear h8 hb0 hb1 hc0 hc1 hN
    iterate 9
      try simp only [i0, i1, i2, es, hl3, g, zMul m1, zMul m2, zMod z1]
      walk_at "fc"
    generalize hbb : (b * 48271 + 1009 * (c + 1) + 7) % 2147483647 = bb
    have b0 : 0 ≤ bb := by omega
    have b1 : bb < 2147483647 := by omega
    have mm1 : mulOk bb bb = true := small_mul b0 (by omega) b0 (by omega)
    have mm2 : mulOk 69621 bb = true := small_mul (by decide) (by decide) b0 (by omega)
    iterate 9
      try simp only [List.set_set, g, hl3, i1, zMul mm1, zMul mm2, zMod z2]
      walk_at "fc"
    generalize hxx : (bb * bb + 69621 * bb + 11) % 2147483629 = xx
    have x0 : 0 ≤ xx := by omega
    have x1 : xx < 2147483629 := by omega
    have mx1 : mulOk xx xx = true := small_mul x0 (by omega) x0 (by omega)
    have mx2 : mulOk 40014 xx = true := small_mul (by decide) (by decide) x0 (by omega)
    iterate 9
      try simp only [zMul mx1, zMul mx2, zMod z3, zDiv d16, zMod h0]
      walk_at "fc"
    simp [draw, ha, Pen.ob, nxt, mix1, mix2, hbb, hxx]
end Fc

set_option exponentiation.threshold 256
set_option maxHeartbeats 4000000
set_option maxHeartbeats 4000000
/-! LawB: drawn chances. -/
namespace Fc
open PySem L2
local macro_rules | `(tactic| walk_at "fc") => `(tactic| try simp only [runB, cSeq, cNil, cRet, cRetN, cExpr, cIf, cSet, cAsg, cPar, cAug, cRaise, cStore, cPass, cWipe, wipeD, toS_ok, toS_exn, toS_stuck, Res.bd_ok, Res.bd_exn, Res.bd_stuck, Res.bdN_ok, Res.bdN_exn, Res.bdN_stuck,
  eVar, eC, eTup, eLst, eOp, eChain, eUn, eAnd, eOr, eNot, eIf, eRep, tTs, tAnd2, tOr2, tNot2, tTrue, eCall, eBi, eIsi, eMtL, eSl, oNo, oSo, lNil, lCons, iSeq, iRange1, iRange2, zAdd, zSub, zMul, zDiv, zMod, ofO, opInt, opIn, opNotIn, opEq, opNe, opIs, opIsnt, mk_t, mk_f,
  List.map_cons, List.map_nil, List.length_cons, List.length_nil, List.replicate, List.append_nil, List.nil_append, List.cons_append, List.getElem?_cons_zero, List.getElem?_cons_succ, List.getElem?_nil, List.set_cons_zero, List.set_cons_succ, List.set_nil, lm0, lm1, lm2, lm3, lm4, lm5, lm6, lm7, lm8, lm9, asg_nm, asg_tp, asgs_nil, asgs_cons, Option.bind_some, Option.bind_none, Option.map_some, Option.map_none,
  Nat.reduceSub, Nat.reduceAdd, Nat.zero_add, Nat.add_zero, Nat.sub_self, if_true, if_false, reduceIte, Bool.false_eq_true, Bool.true_eq_false, Bool.not_true, Bool.not_false, ix_tup, ix_fz, at0, at1, at2, eDNew, eDGet, eDGet2, eDIn, eDPop, cDPut, cAugS, cSub2, dic_ref, keyOf, reduceCtorEq])
local macro_rules | `(tactic| walk_at "fo") => `(tactic| try simp only [*, runB, cSeq, cNil, cRet, cRetN, cExpr, cIf, cSet, cAsg, cPar, cAug, cRaise, cStore, cPass, cWipe, wipeD, toS_ok, toS_exn, toS_stuck, Res.bd_ok, Res.bd_exn, Res.bd_stuck, Res.bdN_ok, Res.bdN_exn, Res.bdN_stuck,
  eVar, eC, eTup, eLst, eOp, eChain, eUn, eAnd, eOr, eNot, eIf, eRep, tTs, tAnd2, tOr2, tNot2, tTrue, eCall, eBi, eIsi, eMtL, eSl, oNo, oSo, lNil, lCons, iSeq, iRange1, iRange2, zAdd, zSub, zMul, zDiv, zMod, ofO, opInt, opIn, opNotIn, opEq, opNe, opIs, opIsnt, mk_t, mk_f,
  List.map_cons, List.map_nil, List.length_cons, List.length_nil, List.replicate, List.append_nil, List.nil_append, List.cons_append, List.getElem?_cons_zero, List.getElem?_cons_succ, List.getElem?_nil, List.set_cons_zero, List.set_cons_succ, List.set_nil, lm0, lm1, lm2, lm3, lm4, lm5, lm6, lm7, lm8, lm9, asg_nm, asg_tp, asgs_nil, asgs_cons, Option.bind_some, Option.bind_none, Option.map_some, Option.map_none,
  Nat.reduceSub, Nat.reduceAdd, Nat.zero_add, Nat.add_zero, Nat.sub_self, if_true, if_false, reduceIte, Bool.false_eq_true, Bool.true_eq_false, Bool.not_true, Bool.not_false, ix_tup, ix_fz, at0, at1, at2, eDNew, eDGet, eDGet2, eDIn, eDPop, cDPut, cAugS, cSub2, dic_ref, keyOf, reduceCtorEq, and_self, Bool.and_self, decide_true, decide_false, List.append_assoc, List.length_append, Nat.add_assoc, at_new, at_newk, add_fz, add_rf, add_tt, ix_ref, seq_ref, list_ref, seq_tup, seq_fz, list_fz, ix_tup, ix_fz, neg_int, app_ref, set_newk, set_new0, iZ, iEn, sl_tup, sl_fz, eLcV, len_tup, len_ref, len_fz, tuple_fz, tuple_ref, ty_non, ty_bl, ty_int, ty_str, ty_tup, ty_fz])
local macro_rules | `(tactic| walk_at "fg") => `(tactic| try simp only [*, runB, cSeq, cNil, cRet, cRetN, cExpr, cIf, cSet, cAsg, cPar, cAug, cRaise, cStore, cPass, cWipe, wipeD, toS_ok, toS_exn, toS_stuck, Res.bd_ok, Res.bd_exn, Res.bd_stuck, Res.bdN_ok, Res.bdN_exn, Res.bdN_stuck,
  eVar, eC, eTup, eLst, eOp, eChain, eUn, eAnd, eOr, eNot, eIf, eRep, tTs, tAnd2, tOr2, tNot2, tTrue, eCall, eBi, eIsi, eMtL, eSl, oNo, oSo, lNil, lCons, iSeq, iRange1, iRange2, zAdd, zSub, zMul, zDiv, zMod, ofO, opInt, opIn, opNotIn, opEq, opNe, opIs, opIsnt, mk_t, mk_f,
  List.map_cons, List.map_nil, List.length_cons, List.length_nil, List.replicate, List.append_nil, List.nil_append, List.cons_append, List.getElem?_cons_zero, List.getElem?_cons_succ, List.getElem?_nil, List.set_cons_zero, List.set_cons_succ, List.set_nil, lm0, lm1, lm2, lm3, lm4, lm5, lm6, lm7, lm8, lm9, asg_nm, asg_tp, asgs_nil, asgs_cons, Option.bind_some, Option.bind_none, Option.map_some, Option.map_none,
  Nat.reduceSub, Nat.reduceAdd, Nat.zero_add, Nat.add_zero, Nat.sub_self, if_true, if_false, reduceIte, Bool.false_eq_true, Bool.true_eq_false, Bool.not_true, Bool.not_false, ix_tup, ix_fz, at0, at1, at2, eDNew, eDGet, eDGet2, eDIn, eDPop, cDPut, cAugS, cSub2, dic_ref, keyOf, reduceCtorEq, and_self, Bool.and_self, decide_true, decide_false, List.append_assoc, List.length_append, Nat.add_assoc, at_new, at_newk, add_fz, add_rf, add_tt, ix_ref, seq_ref, list_ref, seq_tup, seq_fz, list_fz, ix_tup, ix_fz, neg_int, app_ref, set_newk, set_new0, iZ, iEn, sl_tup, sl_fz, eLcV, len_tup, len_ref, len_fz, tuple_fz, tuple_ref, ty_non, ty_bl, ty_int, ty_str, ty_tup, ty_fz])
local macro_rules | `(tactic| walk_at "fs") => `(tactic| try simp [runB, cSeq, cNil, cRet, cRetN, cExpr, cIf, cSet, cAsg, cPar, cAug, cRaise, cStore, cPass, cWipe, wipeD, toS_ok, toS_exn, toS_stuck, Res.bd_ok, Res.bd_exn, Res.bd_stuck, Res.bdN_ok, Res.bdN_exn, Res.bdN_stuck,
  eVar, eC, eTup, eLst, eOp, eChain, eUn, eAnd, eOr, eNot, eIf, eRep, tTs, tAnd2, tOr2, tNot2, tTrue, eCall, eBi, eIsi, eMtL, eSl, oNo, oSo, lNil, lCons, iSeq, iRange1, iRange2, zAdd, zSub, zMul, zDiv, zMod, ofO, opInt, opIn, opNotIn, opEq, opNe, opIs, opIsnt, mk_t, mk_f,
  List.map_cons, List.map_nil, List.length_cons, List.length_nil, List.replicate, List.append_nil, List.nil_append, List.cons_append, List.getElem?_cons_zero, List.getElem?_cons_succ, List.getElem?_nil, List.set_cons_zero, List.set_cons_succ, List.set_nil, lm0, lm1, lm2, lm3, lm4, lm5, lm6, lm7, lm8, lm9, asg_nm, asg_tp, asgs_nil, asgs_cons, Option.bind_some, Option.bind_none, Option.map_some, Option.map_none,
  Nat.reduceSub, Nat.reduceAdd, Nat.zero_add, Nat.add_zero, Nat.sub_self, if_true, if_false, reduceIte, Bool.false_eq_true, Bool.true_eq_false, Bool.not_true, Bool.not_false, ix_tup, ix_fz, at0, at1, at2, eDNew, eDGet, eDGet2, eDIn, eDPop, cDPut, cAugS, cSub2, dic_ref, keyOf, reduceCtorEq, and_self, Bool.and_self, decide_true, decide_false, List.append_assoc, List.length_append, Nat.add_assoc, at_new, at_newk, add_fz, add_rf, add_tt, ix_ref, seq_ref, list_ref, seq_tup, seq_fz, list_fz, ix_tup, ix_fz, neg_int, app_ref, set_newk, set_new0, iZ, iEn, sl_tup, sl_fz, eLcV, len_tup, len_ref, len_fz, tuple_fz, tuple_ref, ty_non, ty_bl, ty_int, ty_str, ty_tup, ty_fz, isT, eqD_int, at0, at1])
local macro_rules | `(tactic| walk_at "fh") => `(tactic| try simp [*, runB, cSeq, cNil, cRet, cRetN, cExpr, cIf, cSet, cAsg, cPar, cAug, cRaise, cStore, cPass, cWipe, wipeD, toS_ok, toS_exn, toS_stuck, Res.bd_ok, Res.bd_exn, Res.bd_stuck, Res.bdN_ok, Res.bdN_exn, Res.bdN_stuck,
  eVar, eC, eTup, eLst, eOp, eChain, eUn, eAnd, eOr, eNot, eIf, eRep, tTs, tAnd2, tOr2, tNot2, tTrue, eCall, eBi, eIsi, eMtL, eSl, oNo, oSo, lNil, lCons, iSeq, iRange1, iRange2, zAdd, zSub, zMul, zDiv, zMod, ofO, opInt, opIn, opNotIn, opEq, opNe, opIs, opIsnt, mk_t, mk_f,
  List.map_cons, List.map_nil, List.length_cons, List.length_nil, List.replicate, List.append_nil, List.nil_append, List.cons_append, List.getElem?_cons_zero, List.getElem?_cons_succ, List.getElem?_nil, List.set_cons_zero, List.set_cons_succ, List.set_nil, lm0, lm1, lm2, lm3, lm4, lm5, lm6, lm7, lm8, lm9, asg_nm, asg_tp, asgs_nil, asgs_cons, Option.bind_some, Option.bind_none, Option.map_some, Option.map_none,
  Nat.reduceSub, Nat.reduceAdd, Nat.zero_add, Nat.add_zero, Nat.sub_self, if_true, if_false, reduceIte, Bool.false_eq_true, Bool.true_eq_false, Bool.not_true, Bool.not_false, ix_tup, ix_fz, at0, at1, at2, eDNew, eDGet, eDGet2, eDIn, eDPop, cDPut, cAugS, cSub2, dic_ref, keyOf, reduceCtorEq, and_self, Bool.and_self, decide_true, decide_false, List.append_assoc, List.length_append, Nat.add_assoc, at_new, at_newk, add_fz, add_rf, add_tt, ix_ref, seq_ref, list_ref, seq_tup, seq_fz, list_fz, ix_tup, ix_fz, neg_int, app_ref, set_newk, set_new0, iZ, iEn, sl_tup, sl_fz, eLcV, len_tup, len_ref, len_fz, tuple_fz, tuple_ref, ty_non, ty_bl, ty_int, ty_str, ty_tup, ty_fz, isT, eqD_int, at0, at1])
/-- a comprehension whose turns change the store -/
theorem lcV_steps {it : Itf} {tg : Tg} {elt : DE} {ρ : Ev} (N : Nat) (T : Nat → Sto) (y : Nat → Dv) (hl : N ≤ lim) (hit : ∀ i, i < N → ∃ x ρ2, it (T i) i = some (some x) ∧ tg.asg x ρ = some ρ2 ∧ elt ρ2 (T i) = .ok (y i) (T (i + 1))) (hend : it (T N) N = some none) :
    lcV it tg tTrue elt ρ big 0 [] (T 0) = .ok (.fz ((List.range N).map y)) (T N) := by
  have key : ∀ (m i : Nat), i ≤ N → N - i < m → lcV it tg tTrue elt ρ m i ((List.range i).map y) (T i) = .ok (.fz ((List.range N).map y)) (T N) := by
    intro m
    induction m with
    | zero => intro i _ h; omega
    | succ m ih =>
      intro i hi hm
      unfold lcV
      by_cases e : i = N
      · subst e
        rw [hend]
      · obtain ⟨x, ρ2, e1, e2, e3⟩ := hit i (by omega)
        rw [e1]
        simp only [e2, tTrue, Res.bdN_ok, if_true, e3]
        rw [if_pos (by simp; omega)]
        have := ih (i + 1) (by omega) (by omega)
        rw [List.range_succ, List.map_append] at this
        exact this
  exact key big 0 (Nat.zero_le _) (by have := lim_big hl; omega)
/-- the pen after i draws; the draws -/
def penN (p : Pen) (m : Int) : Nat → Pen
  | 0 => p
  | k + 1 => (draw (penN p m k) m).2
def drawsN (p : Pen) (m : Int) (k : Nat) : List Int := (List.range k).map fun i => (draw (penN p m i) m).1
theorem penB.penN {p : Pen} {N : Nat} (h : penB p N) (m : Int) : ∀ k : Nat, penB (penN p m k) (N + k)
  | 0 => h
  | k + 1 => (penB.penN h m k).draw m
theorem drawsN_lt (p : Pen) {m : Int} (hm : 0 < m) (k : Nat) : ∀ v ∈ drawsN p m k, 0 ≤ v ∧ v < m := by
  intro v h
  obtain ⟨i, _, rfl⟩ := List.mem_map.mp h
  exact draw_lt _ hm
theorem set_ob {S : Sto} {n : Nat} {o : Ob} (h : S[n]? = some o) : S.set n o = S := by
  apply List.ext_getElem?
  intro j
  have hn := (List.getElem?_eq_some_iff.mp h).1
  by_cases hj : n = j
  · subst hj
    rw [List.getElem?_set_self hn, h]
  · rw [List.getElem?_set_ne hj]
theorem draws_run {S : Sto} {n : Nat} {p : Pen} {N k : Nat} {m : Int} (h : S[n]? = some p.ob) (hp : penB p N) (hN : N + k ≤ 2 ^ 200) (h0 : 0 < m) (h8 : m < 2 ^ 62) (hk : k ≤ lim) {tg : Tg} {elt : DE} {ρ : Ev}
    (he : ∀ (i : Nat) (S1 : Sto), ∃ ρ2, tg.asg (.int (0 + (i : Nat))) ρ = some ρ2 ∧ elt ρ2 S1 = r_law_draw [.ref n, .int m] S1) :
    lcV (itRange 0 k) tg tTrue elt ρ big 0 [] S = .ok (.fz ((drawsN p m k).map Dv.int)) (S.set n (penN p m k).ob) := by
  have hn := (List.getElem?_eq_some_iff.mp h).1
  have e := lcV_steps (it := itRange 0 k) (tg := tg) (elt := elt) (ρ := ρ) k (fun i => S.set n (penN p m i).ob) (fun i => .int (draw (penN p m i) m).1) hk (fun i hi => by
    obtain ⟨ρ2, e1, e2⟩ := he i (S.set n (penN p m i).ob)
    refine ⟨_, ρ2, by simp only [itRange, hi, if_true], e1, ?_⟩
    rw [e2, law_draw_run (p := penN p m i) (List.getElem?_set_self hn) (hp.penN m i) (by omega) h0 h8, List.set_set]
    rfl) (by simp [itRange])
  simp only [penN] at e
  rw [set_ob h] at e
  rw [e, drawsN, List.map_map]
  rfl
def difs : List Int → List Int
  | x :: y :: r => (y - x) :: difs (y :: r)
  | _ => []
theorem insI_len (n : Int) : ∀ l : List Int, (insI n l).length = l.length + 1
  | [] => rfl
  | m :: l => by
    unfold insI
    split
    · simp
    · simp [insI_len n l]
theorem sortI_len : ∀ l : List Int, (sortI l).length = l.length
  | [] => rfl
  | m :: l => by simp [sortI, insI_len, sortI_len l]
theorem cut1 {α : Type} (x : Dv) (l : List Dv) : cutD (x :: l) (some 1) none = l := by
  have := HT.sIx_nat (x :: l).length 0 1
  simp only [cutD, HT.sIx_none]
  rw [show (some (1 : Int)) = some ((1 : Nat) : Int) from rfl, this]
  have : min 1 (x :: l).length = 1 := by simp
  rw [this]
  simp
theorem zip_difs {α : Type} (g : Int → α) : ∀ (x : Int) (l : List Int), (((x :: l).zip l).map fun p => g (p.2 - p.1)) = (difs (x :: l)).map g
  | x, [] => rfl
  | x, y :: l => by
    have := zip_difs g y l
    simp only [List.zip_cons_cons, List.map_cons, difs] at this ⊢
    rw [this]
theorem difs_len : ∀ (x : Int) (l : List Int), (difs (x :: l)).length = l.length
  | _, [] => rfl
  | x, y :: l => by simp [difs, difs_len y l]
theorem difs_sum : ∀ (x : Int) (l : List Int) (z : Int), (difs (x :: (l ++ [z]))).sum = z - x
  | x, [], z => by simp [difs]
  | x, y :: l, z => by
    have := difs_sum y l z
    simp only [List.cons_append, difs, List.sum_cons, this]
    omega
theorem difs_nonneg : ∀ (l : List Int), l.Pairwise (· ≤ ·) → ∀ d ∈ difs l, 0 ≤ d
  | [], _, d, h => by simp [difs] at h
  | [_], _, d, h => by simp [difs] at h
  | x :: y :: l, hp, d, h => by
    rw [List.pairwise_cons] at hp
    simp only [difs, List.mem_cons] at h
    rcases h with rfl | h
    · have := hp.1 y (List.mem_cons_self ..)
      omega
    · exact difs_nonneg (y :: l) hp.2 d h
theorem sortI_mem {x : Int} {l : List Int} : x ∈ sortI l ↔ x ∈ l := (sortI_perm l).mem_iff
/-- the drawn chances, and the pen afterwards -/
structure Dr where
  qs : List Rat
  pen : Pen
def chF (p : Pen) : Dr :=
  let b := 1 + (draw p 30).1
  let p1 := (draw p 30).2
  let v := (draw p1 6).1
  let p2 := (draw p1 6).2
  ⟨(difs (0 :: (sortI (drawsN p2 (b + 1) v.toNat) ++ [b]))).map fun d : Int => (d : Rat) / (b : Rat), penN p2 (b + 1) v.toNat⟩
/-- numbers over one bottom that make it up are chances -/
theorem chances_over {b : Int} {ds : List Int} (hb : 0 < b) (h30 : b ≤ 30) (h0 : ∀ d ∈ ds, 0 ≤ d) (hs : ds.sum = b) (hl : 1 ≤ ds.length ∧ ds.length ≤ 6) : Chances (ds.map fun d : Int => (d : Rat) / (b : Rat)) := by
  have hne := ne_cast hb
  have hb0 : (0 : Rat) < (b : Rat) := by exact_mod_cast hb
  refine ⟨by simpa using hl, ?_, ?_, ?_⟩
  · intro q hq
    obtain ⟨d, hd, rfl⟩ := List.mem_map.mp hq
    have h1 : (0 : Rat) ≤ (d : Rat) := by exact_mod_cast h0 d hd
    rw [Rat.div_def]
    exact Rat.mul_nonneg h1 (Rat.le_of_lt (Rat.inv_pos.mpr hb0))
  · have key : ∀ ds : List Int, sumR (ds.map fun d : Int => (d : Rat) / (b : Rat)) = (ds.sum : Rat) / (b : Rat) := by
      intro ds
      induction ds with
      | nil => rw [List.map_nil, sumR_nil, List.sum_nil]; grind
      | cons d ds ih => rw [List.map_cons, sumR_cons, ih, List.sum_cons, Rat.intCast_add]; grind
    rw [key, hs]
    grind
  · have dv : ∀ d : Int, ((d : Rat) / (b : Rat)).den ∣ b.toNat := fun d => by
      have e := (quot_parts (a := d) hb).2
      have h1 : ((Int.gcd d b : Nat) : Int) ∣ b := Int.gcd_dvd_right ..
      have h2 : b = (((d : Rat) / (b : Rat)).den : Int) * (Int.gcd d b : Nat) := by
        rw [e]
        exact (Int.ediv_mul_cancel h1).symm
      refine ⟨Int.gcd d b, ?_⟩
      have h3 : ((b.toNat : Nat) : Int) = ((((d : Rat) / (b : Rat)).den * Int.gcd d b : Nat) : Int) := by
        rw [Int.natCast_mul, ← h2]
        omega
      exact_mod_cast h3
    have key : ∀ (qs : List Rat) (r : Nat), r ∣ b.toNat → (∀ q ∈ qs, q.den ∣ b.toNat) → qs.foldl (fun r q => Nat.lcm r q.den) r ∣ b.toNat := by
      intro qs
      induction qs with
      | nil => intro r h _; exact h
      | cons q qs ih =>
        intro r h h2
        exact ih _ (Nat.lcm_dvd h (h2 q (by simp))) fun p hp => h2 p (by simp [hp])
    have h1 : lcmD (ds.map fun d : Int => (d : Rat) / (b : Rat)) ∣ b.toNat := key _ 1 (Nat.one_dvd _) fun q hq => by
      obtain ⟨d, _, rfl⟩ := List.mem_map.mp hq
      exact dv d
    have := Nat.le_of_dvd (by omega) h1
    omega
theorem chF_chances (p : Pen) : Chances (chF p).qs := by
  simp only [chF]
  have hb := draw_lt p (m := 30) (by decide)
  generalize draw p 30 = q1 at *
  have hv := draw_lt q1.2 (m := 6) (by decide)
  generalize draw q1.2 6 = q2 at *
  have hr := drawsN_lt q2.2 (m := 1 + q1.1 + 1) (by omega) q2.1.toNat
  have hl : (drawsN q2.2 (1 + q1.1 + 1) q2.1.toNat).length = q2.1.toNat := by simp [drawsN]
  generalize drawsN q2.2 (1 + q1.1 + 1) q2.1.toNat = vs at *
  refine chances_over (by omega) (by omega) (difs_nonneg _ ?_) ?_ ?_
  · refine List.pairwise_cons.mpr ⟨fun a ha => ?_, List.pairwise_append.mpr ⟨sortI_sorted _, by simp, fun a ha c hc => ?_⟩⟩
    · rcases List.mem_append.mp ha with ha | ha
      · exact (hr a (sortI_mem.mp ha)).1
      · simp at ha
        omega
    · simp at hc
      have := (hr a (sortI_mem.mp ha)).2
      omega
  · rw [difs_sum]
    omega
  · simp only [difs_len, List.length_append, List.length_cons, List.length_nil, sortI_len, hl]
    omega
theorem chF_pen {p : Pen} {N : Nat} (h : penB p N) : penB (chF p).pen (N + 8) := by
  simp only [chF]
  have h1 := h.draw 30
  have h2 := h1.draw 6
  have hv := draw_lt (draw p 30).2 (m := 6) (by decide)
  have h3 := h2.penN (1 + (draw p 30).1 + 1) (draw (draw p 30).2 6).1.toNat
  exact h3.mono (by omega)
theorem chs_plain (qs : List Rat) : (chs qs).plain = true := by
  simp only [chs, Dv.plain]
  exact frs_plain qs
noncomputable def b_law_chances : DS :=
 (cSeq (cSet 1 (eOp (opAdd false) (eC (.int 1)) (eCall 2 r_law_draw (lCons (eVar 0) (lCons (eC (.int 30)) lNil)))))
 (cSeq (cSet 2 (eOp (opAdd false) (eC (.int 1)) (eCall 2 r_law_draw (lCons (eVar 0) (lCons (eC (.int 6)) lNil)))))
 (cSeq (cSet 3 (eBi (fSorted false) (lCons (eLcV (iRange1 (lCons (eOp opSub (eVar 2) (eC (.int 1))) lNil)) (.nm 5) tTrue (eCall 2 r_law_draw (lCons (eVar 0) (lCons (eOp (opAdd false) (eVar 1) (eC (.int 1))) lNil))) [5]) lNil)))
 (cSeq (cSet 4 (eOp (opAdd false) (eOp (opAdd false) (eLst false (lCons (eC (.int 0)) lNil)) (eVar 3)) (eLst false (lCons (eVar 1) lNil))))
 (cSeq (cRet (eBi fTuple (lCons (eLcV (iZ (lCons (eVar 4) (lCons (eSl false (eVar 4) (oSo (eC (.int 1))) oNo) lNil))) (.tp [(.nm 6), (.nm 7)]) tTrue (eCall 2 r_law_fraction (lCons (eOp opSub (eVar 7) (eVar 6)) (lCons (eVar 1) lNil))) [6, 7]) lNil)))
 cNil)))))
noncomputable def r_law_chances : Den := runF 8 b_law_chances
theorem law_chances_run {S : Sto} {n : Nat} {p : Pen} {N : Nat} (es : S[n]? = some p.ob) (hp : penB p N) (hN : N ≤ 2 ^ 190) : r_law_chances [.ref n] S = .ok (chs (chF p).qs) (S.set n (chF p).pen.ob) := by
  refine f_upd (ρ0 := [some (.ref n), none, none, none, none, none, none, none]) rfl ?_ (Kept.set (Kept.refl S) n rfl) (chs_plain _)
  have hn : n < S.length := (List.getElem?_eq_some_iff.mp es).1
  have hN2 : N + 100 ≤ 2 ^ 200 := by
    have : (2 : Nat) ^ 190 + 100 ≤ 2 ^ 200 := by decide
    generalize (2 : Nat) ^ 200 = x at *
    generalize (2 : Nat) ^ 190 = y at *
    omega
  rcases hq1 : draw p 30 with ⟨v1, p1⟩
  rcases hq2 : draw p1 6 with ⟨v, p2⟩
  have hp1 : penB p1 (N + 1) := by have := hp.draw 30; rwa [hq1] at this
  have hp2 : penB p2 (N + 2) := by have := hp1.draw 6; rwa [hq2] at this
  have hb := draw_lt p (m := 30) (by decide)
  have hv := draw_lt p1 (m := 6) (by decide)
  rw [hq1] at hb
  rw [hq2] at hv
  simp only at hb hv
  have d1 := law_draw_run es hp (by omega) (m := 30) (by decide) (by decide)
  rw [hq1] at d1
  have es1 : (S.set n p1.ob)[n]? = some p1.ob := List.getElem?_set_self hn
  have d2 := law_draw_run es1 hp1 (by omega) (m := 6) (by decide) (by decide)
  rw [List.set_set, hq2] at d2
  have es2 : (S.set n p2.ob)[n]? = some p2.ob := List.getElem?_set_self hn
  have vk : 1 + v - 1 = v := by omega
  have hvl : v.toNat ≤ lim := Nat.le_trans (by omega : v.toNat ≤ 6) (by decide)
  have d3 := draws_run (k := v.toNat) (m := 1 + v1 + 1) (tg := .nm 5) (elt := eCall 2 r_law_draw (lCons (eVar 0) (lCons (eOp (opAdd false) (eVar 1) (eC (.int 1))) lNil))) (ρ := [some (.ref n), some (.int (1 + v1)), some (.int (1 + v)), none, none, none, none, none]) es2 hp2 (by omega) (by omega) (by omega) hvl (fun i S1 => ⟨_, rfl, by
      walk_at "fc"⟩)
  rw [List.set_set] at d3
  simp only at d1 d2 d3
  have rg : rngB v = true := rngB_iff.mpr (by omega)
  have hch : chF p = ⟨(difs (0 :: (sortI (drawsN p2 (1 + v1 + 1) v.toNat) ++ [1 + v1]))).map fun d : Int => (d : Rat) / ((1 + v1 : Int) : Rat), penN p2 (1 + v1 + 1) v.toNat⟩ := by simp only [chF, hq1, hq2]
  rw [hch]
  have hl : (drawsN p2 (1 + v1 + 1) v.toNat).length = v.toNat := by simp [drawsN]
  generalize drawsN p2 (1 + v1 + 1) v.toNat = vs at *
  generalize penN p2 (1 + v1 + 1) v.toNat = p3 at *
  simp only
  have srt : ∀ S1 : Sto, fSorted false [.fz (vs.map Dv.int)] S1 = some (.fz ((sortI vs).map Dv.int), S1) := fun S1 => by
    have h64 : vs.length < 64 := by omega
    simp only [fSorted, listOf, intsOf_map, h64, if_true]
    rfl
  have hsl := sortI_len vs
  generalize sortI vs = ws at *
  have l2 : (1 : Nat) + (ws.map Dv.int).length ≤ lim := Nat.le_trans (by simp; omega : _ ≤ 10) (by decide)
  have l3 : (Dv.int 0 :: ws.map Dv.int).length + 1 ≤ lim := Nat.le_trans (by simp; omega : _ ≤ 10) (by decide)
  generalize hT : S.set n p3.ob = T at *
  have lc := lcV_map (it := itZip (.fz ((0 :: (ws ++ [1 + v1])).map Dv.int)) (.fz ((ws ++ [1 + v1]).map Dv.int))) (tg := .tp [.nm 6, .nm 7]) (elt := eCall 2 r_law_fraction (lCons (eOp opSub (eVar 7) (eVar 6)) (lCons (eVar 1) lNil)))
    (ρ := [some (.ref n), some (.int (1 + v1)), some (.int (1 + v)), some (.fz (ws.map Dv.int)), some (.fz ((0 :: (ws ++ [1 + v1])).map Dv.int)), none, none, none]) (S := T)
    ((0 :: (ws ++ [1 + v1])).zip (ws ++ [1 + v1])) (fun q : Int × Int => .tup [.int q.1, .int q.2]) (fun q => fr (((q.2 - q.1 : Int) : Rat) / ((1 + v1 : Int) : Rat))) (goes_zip (enc := Dv.int) (enc' := Dv.int) rfl rfl) (Nat.le_trans (by simp; omega : _ ≤ 10) (by decide)) fun q hq => ⟨_, rfl, by
      walk_at "fc"
      rw [law_fraction_run (by omega) (by
        have : (1 + v1).natAbs < 2 ^ 5 := by omega
        exact Nat.lt_of_lt_of_le this (Nat.pow_le_pow_right (by decide) (by decide)))]⟩
  rw [zip_difs (fun d : Int => fr ((d : Rat) / ((1 + v1 : Int) : Rat)))] at lc
  have add1 : ∀ S1 : Sto, opAdd false (.fz [.int 0]) (.fz (ws.map Dv.int)) S1 = some (.fz (.int 0 :: ws.map Dv.int), S1) := fun S1 => by
    rw [add_fz, if_pos (by simpa using l2)]
    rfl
  have add2 : ∀ S1 : Sto, opAdd false (.fz (.int 0 :: ws.map Dv.int)) (.fz [.int (1 + v1)]) S1 = some (.fz ((0 :: (ws ++ [1 + v1])).map Dv.int), S1) := fun S1 => by
    rw [add_fz, if_pos (by simpa using l3)]
    simp [mk]
  have cutE : ∀ S1 : Sto, slD false (.fz ((0 :: (ws ++ [1 + v1])).map Dv.int)) (some 1) none S1 = some (.fz ((ws ++ [1 + v1]).map Dv.int), S1) := fun S1 => by
    rw [sl_fz, List.map_cons, cut1 (α := Unit)]
    rfl
  obtain ⟨E, hE⟩ : ∃ E, E = (0 :: (ws ++ [1 + v1])).map Dv.int := ⟨_, rfl⟩
  rw [← hE] at lc
  simp only [← hE] at add2 cutE
  unfold b_law_chances
  refine seq_go (set_go (d := .int (1 + v1)) (S1 := S.set n p1.ob) ?_) (seq_go (set_go (d := .int (1 + v)) (S1 := S.set n p2.ob) ?_) (seq_go (set_go (d := .fz (ws.map Dv.int)) (S1 := T) ?_) (seq_go (set_go (d := .fz E) (S1 := T) ?_) (seq_rt (ret_go ?_)))))
  · walk_at "fc"
    rw [d1]
    walk_at "fc"
  · walk_at "fc"
    rw [d2]
    walk_at "fc"
  · walk_at "fc"
    simp only [eLcV, vk]
    walk_at "fc"
    rw [vk, rg]
    walk_at "fc"
    rw [d3]
    walk_at "fc"
    rw [srt]
  · walk_at "fc"
    rw [add1]
    walk_at "fc"
    rw [add2]
  · walk_at "fc"
    simp only [eLcV, iZ]
    walk_at "fc"
    rw [cutE]
    walk_at "fc"
    simp only [seq_fz]
    walk_at "fc"
    rw [lc]
    walk_at "fc"
    rw [tuple_fz]
    walk_at "fc"
    simp only [chs, List.map_map]
    rfl
end Fc

set_option exponentiation.threshold 256
set_option maxHeartbeats 4000000
set_option maxHeartbeats 4000000
/-! FcRev: x[::-1] of a list or a tuple. -/
namespace Fc
open PySem PySem.Spec PyProof.Rows L2
section
variable {prog : Program} {w : World} {A : Around} {E : Value → Shared → Prop} {s : Shared}
theorem adjust_rev (n : Nat) : Builtin.Slice.sliceAdjust none none (-1) (n : Int) = ((n : Int) - 1, -1) := by
  unfold Builtin.Slice.sliceAdjust
  simp
theorem places_rev (n : Nat) : Builtin.Slice.slicePlaces ((n : Int) - 1) (-1) (-1) = n := by
  unfold Builtin.Slice.slicePlaces
  simp
  split <;> omega
theorem sliceApplied_rev {sl : Addr} {vs : Value} {n : Nat} {Q : Int × Int × Nat → Shared → Prop} (hs : s.heap.IsSliceOf sl .none .none vs) (ps : IsPart vs (some (-1))) (h : Q ((n : Int) - 1, -1, n) s) :
    wpAny (model prog w) A (Builtin.Slice.sliceApplied (.ref sl) (pure (n : Int))) Q E s := by
  obtain ⟨u, rfl⟩ : ∃ u, vs = .int (-1) u := by
    cases ps
    exact ⟨_, rfl⟩
  obtain ⟨os, hos, hcs, hds⟩ := id hs
  unfold Builtin.Slice.sliceApplied Builtin.Slice.sliceFields
  refine wpAny_bind (wpAny_bind (wpAny_field hos hds (x := .none) rfl (wpAny_bind (wpAny_field hos hds (x := .none) rfl (wpAny_bind (wpAny_field hos hds (x := .int (-1) u) rfl (wpAny_pure ?_)))))))
  refine wpAny_bind (slicePart_int ?_)
  show wpAny _ _ (if ((-1 : Int) == 0) = true then _ else _) _ _ s
  rw [if_neg (by decide)]
  refine wpAny_bind (slicePart_none (wpAny_bind (slicePart_none (wpAny_bind (wpAny_pure ?_)))))
  show wpAny _ _ (match Builtin.Slice.sliceAdjust none none (-1) (n : Int) with | (lo, hi) => pure (lo, (-1 : Int), Builtin.Slice.slicePlaces lo hi (-1))) _ _ s
  rw [adjust_rev n]
  show wpAny _ _ (pure ((n : Int) - 1, (-1 : Int), Builtin.Slice.slicePlaces ((n : Int) - 1) (-1) (-1))) _ _ s
  rw [places_rev n]
  exact wpAny_pure h
theorem fm_congr {α β : Type} {f g : α → Option β} : ∀ {l : List α}, (∀ x ∈ l, f x = g x) → l.filterMap f = l.filterMap g
  | [], _ => rfl
  | x :: l, h => by
    rw [List.filterMap_cons, List.filterMap_cons, h x (by simp), fm_congr fun y hy => h y (by simp [hy])]
theorem pick_rev (xs : Array Value) : ((List.range xs.size).filterMap fun (k : Nat) => xs[(((xs.size : Int) - 1) + (k : Int) * -1).toNat]?).toArray = xs.toList.reverse.toArray := by
  congr 1
  apply List.ext_getElem?
  intro i
  have e : ((List.range xs.size).filterMap fun (k : Nat) => xs[(((xs.size : Int) - 1) + (k : Int) * -1).toNat]?) = (List.range xs.size).filterMap fun k => xs.toList[xs.size - 1 - k]? := by
    refine fm_congr fun k hk => ?_
    have : (((xs.size : Int) - 1) + (k : Int) * -1).toNat = xs.size - 1 - k := by omega
    rw [this, Array.getElem?_toList]
  rw [e]
  have e2 : ((List.range xs.size).filterMap fun k => xs.toList[xs.size - 1 - k]?) = xs.toList.reverse := by
    have h1 : xs.toList.reverse = (List.range xs.size).map fun k => (xs.toList[xs.size - 1 - k]?).getD .none := by
      apply List.ext_getElem?
      intro j
      rw [List.getElem?_map]
      by_cases hj : j < xs.size
      · rw [List.getElem?_range hj, List.getElem?_reverse (by simpa using hj)]
        simp only [Array.length_toList, Option.map_some]
        have : xs.size - 1 - j < xs.toList.length := by simp; omega
        rw [List.getElem?_eq_getElem this]
        rfl
      · rw [List.getElem?_eq_none (by simp; omega), List.getElem?_eq_none (by simp; omega)]
        rfl
    rw [h1, ← List.filterMap_eq_map]
    refine fm_congr fun k hk => ?_
    have hk := List.mem_range.mp hk
    have : xs.size - 1 - k < xs.toList.length := by simp; omega
    simp only [Function.comp_apply, List.getElem?_eq_getElem this]
    rfl
  rw [e2]
theorem getItem_tuple_rev {t sl : Addr} {items : Array Value} {vs : Value} {Q : Value → Shared → Prop} (ht : IsTup s.heap t items) (hs : s.heap.IsSliceOf sl .none .none vs) (ps : IsPart vs (some (-1)))
    (h : Q (.ref s.heap.objs.size) { s with heap := s.heap.push { cls := .type "tuple", data := .seq items.toList.reverse.toArray } })
    (hsz : items.size ≤ sizeLine) : wpAny (model prog w) A (getItem (.ref t) (.ref sl)) Q E s := by
  have hdrop : sizeOk (.seq items.toList.reverse.toArray) := by
    show items.toList.reverse.toArray.size ≤ sizeLine
    rw [List.size_toArray, List.length_reverse, Array.length_toList]
    exact hsz
  obtain ⟨os, hos, hcs, hds⟩ := id hs
  have hTs : s.TypeIs (.ref sl) "slice" := ⟨os, hos, hcs⟩
  unfold getItem
  try with_reducible refine wpAny_holding ?_
  first | refine wpAny_bind (wpAny_pure ?_) | skip
  refine wpAny_bind (wpAny_sequenceKey ht.typeIs (by decide) ?_)
  refine wpAny_bind (wpAny_callSpecial?_slot (name := Str.ofString "__getitem__") ht.typeIs PyProof.Rows.slot_tuple_getitem
    (wpAny_call_entry PyProof.Rows.slot_tuple_getitem ht.typeIs entry_tuple_getitem ?_ (args_tuple_getitem _ _)))
  show wpAny _ _ (Builtin.Tuple.tupleItemsOf (.ref t) >>= _) _ _ s
  refine wpAny_bind (tupleItemsOf_ ht ?_)
  refine wpAny_bind (wpAny_typeOf hTs ?_)
  rw [if_pos (by decide)]
  refine wpAny_bind (sliceApplied_rev hs ps ?_)
  have hno : ¬ ((((items.size : Int) - 1) == 0 && (-1 : Int) == 1 && items.size == items.size) = true) := by
    simp
  show wpAny _ _ (if (((items.size : Int) - 1) == 0 && (-1 : Int) == 1 && items.size == items.size) = true then _ else _) _ _ s
  rw [if_neg hno, pick_rev items]
  first
    | exact wpAny_bind (m := Builtin.Tuple.tupleExact _) (wpAny_newObj_type (wpAny_pure ⟨_, rfl, wpAny_pure h⟩) hdrop)
    | exact wpAny_bind (m := Builtin.Tuple.tupleExact _) (wpAny_newObj_type (wpAny_bind (wpAny_pure (wpAny_pure ⟨_, rfl, wpAny_pure h⟩))) hdrop)
    | exact wpAny_bind (wpAny_bind (m := Builtin.Tuple.tupleExact _) (wpAny_newObj_type (wpAny_pure (wpAny_pure ⟨_, rfl, wpAny_pure h⟩)) hdrop))
    | exact wpAny_bind (wpAny_bind (m := Builtin.Tuple.tupleExact _) (wpAny_newObj_type (wpAny_pure ⟨_, rfl, wpAny_pure h⟩) hdrop))
end
section
variable {X : Cx}
def tRevT (K : PySem.W.Frag) (te : TE) : TE := fun σ H Q => te σ H fun x H1 => ∃ a xs, x = .ref a ∧ ((SqL K H1 a xs ∧ ∀ p, H1 p = none → Q (.ref p) (upd H1 p (.lst xs.reverse))) ∨ (SqT K H1 a xs ∧ ∀ p, H1 p = none → Q (.ref p) (upd H1 p (.tup xs.reverse))))
theorem pe_revT {e : Expr} {te : TE} {k : Nat} {p1 p2 p3 pos : Pos} (he : PE X e te) : PE X (.Subscript e (.Slice none none (some (.UnaryOp .USub (.Constant (.int 1) k p1) p2)) p3) pos) (tRevT X.K te) := by
  refine ⟨fun pins s σ H Q I h => ?_⟩
  refine Subscript_ (thn (he.run pins s σ H _ I h) fun v s1 ⟨x, H1, I1, r1, q1⟩ => ?_)
  obtain ⟨a, xs, ex, q⟩ := q1
  subst ex
  cases r1
  have hst : PO X (some (.UnaryOp .USub (.Constant (.int 1) k p1) p2)) (tPart (tUn (rU fun i => .int (-i)) (tC (.int 1)))) := po_some (pe_un un_neg pe_int)
  refine wpAny_Slice (thn (po_none.run pins s1 σ H1 (fun o H2 => o = none ∧ H2 = H1) I1 ⟨rfl, rfl⟩) fun vl s2 ⟨l, H2, I2, pl, el, e2⟩ => ?_)
  subst el e2
  refine thn (po_none.run pins s2 σ H2 (fun o H3 => o = none ∧ H3 = H2) I2 ⟨rfl, rfl⟩) fun vu s3 ⟨u, H3, I3, pu, eu, e3⟩ => ?_
  subst eu e3
  refine thn (hst.run pins s3 σ H3 (fun o H4 => o = some (-1) ∧ H4 = H3) I3 ⟨1, rfl, -1, rfl, rfl, rfl⟩) fun vs s4 ⟨o, H4, I4, ps, eo, e4⟩ => ?_
  subst eo e4
  have I5 : Inv X pins σ H4 { s4 with heap := s4.heap.push { cls := .type "slice", data := .fields #[vl, vu, vs] } } := I4.kept (t' := s4.toks) fun b ob q => Heap.get?_push_of_some _ q
  cases pl
  cases pu
  rcases q with ⟨hx, q⟩ | ⟨hx, q⟩
  · obtain ⟨its, r, ht, hz⟩ := I5.list hx
    have hlen := r.length
    show wpAny (model X.prog X.w) X.A (subscriptTail e (.Slice none none (some (.UnaryOp .USub (.Constant (.int 1) k p1) p2)) p3) (.ref a) (.ref s4.heap.objs.size)) (EP X pins σ Q) X.xe { s4 with heap := s4.heap.push { cls := .type "slice", data := .fields #[.none, .none, vs] } }
    refine tail_any (ops := [.ref a, .ref s4.heap.objs.size]) ht.isList.typeIs (PySem.slot_list_getitem.lookup) ?_ (by with_unfolding_all rfl)
    refine wpAny_getItem_list_slice ht.isList (Heap.IsSliceOf.new _ .none .none vs) .none .none ps (by decide) ?_ (by rw [List.size_toArray]; omega)
    rw [PySem.W.krv_pick]
    refine ⟨.ref _, _, I5.laid (t' := s4.toks) (o := .lst xs.reverse) (fun b ob q => Heap.get?_push_of_some _ q) (Nat.le_refl _) ?_, rfl, q _ (I5.hok.fresh (Nat.le_refl _))⟩
    exact ⟨by rw [List.length_reverse]; exact hz, _, 0, r.reverse, Heap.get?_push_size _ rfl⟩
  · obtain ⟨its, r, ht, hz⟩ := I5.tuple hx
    have hlen := r.length
    show wpAny (model X.prog X.w) X.A (subscriptTail e (.Slice none none (some (.UnaryOp .USub (.Constant (.int 1) k p1) p2)) p3) (.ref a) (.ref s4.heap.objs.size)) (EP X pins σ Q) X.xe { s4 with heap := s4.heap.push { cls := .type "slice", data := .fields #[.none, .none, vs] } }
    refine tail_any (ops := [.ref a, .ref s4.heap.objs.size]) ht.typeIs (PyProof.Rows.slot_tuple_getitem.lookup) ?_ (by with_unfolding_all rfl)
    refine getItem_tuple_rev ht (Heap.IsSliceOf.new _ .none .none vs) ps ?_ (by rw [List.size_toArray]; omega)
    refine ⟨.ref _, _, I5.laid (t' := s4.toks) (o := .tup xs.reverse) (fun b ob q => Heap.get?_push_of_some _ q) (Nat.le_refl _) ?_, rfl, q _ (I5.hok.fresh (Nat.le_refl _))⟩
    exact ⟨by rw [List.length_reverse]; exact hz, _, r.reverse, IsTup.new _ _⟩
end
def revD (m : Bool) (x : Dv) (S : Sto) : Option (Dv × Sto) := match x with
  | .tup ds => some (.tup ds.reverse, S)
  | d => match listOf S d with
    | some ds => some (mk m ds.reverse S)
    | none => none
def eRev (m : Bool) (f : DE) : DE := fun ρ S => (f ρ S).bd fun d S1 => ofO (revD m d S1)
theorem rev_VR {K : PySem.W.Frag} {H : Hp} {μ : Mu} : ∀ {ds : List Dv} {vs : List V}, VRs K H μ ds vs → VRs K H μ ds.reverse vs.reverse := by
  intro ds
  induction ds with
  | nil => intro vs h; rw [VRs_nil.mp h]; exact VRs_nil.mpr rfl
  | cons d ds ih =>
    intro vs h
    obtain ⟨v, t, rfl, h1, h2⟩ := VRs_cons.mp h
    rw [List.reverse_cons, List.reverse_cons]
    exact (ih h2).append (VRs_cons.mpr ⟨v, [], rfl, h1, VRs_nil.mpr rfl⟩)
theorem se_rev {X : Cx} {C : Nat → Addr} {W : WX} (m : Bool) {e : Expr} {f : DE} {k : Nat} {p1 p2 p3 pos : Pos} (he : SE X C W e f) : SE X C W (.Subscript e (.Slice none none (some (.UnaryOp .USub (.Constant (.int 1) k p1) p2)) p3) pos) (eRev m f) := by
  refine ⟨pe_imp (pe_revT he.pe) fun σ H Q q => ?_⟩
  obtain ⟨μ, ρ, S, rl, q⟩ := q
  refine ⟨μ, ρ, S, rl, (tR.bd q).imp fun v H1 q1 => ?_⟩
  obtain ⟨μ1, S1, d, a1, sr, vr, q⟩ := q1
  have q : tR X.K C W0 (PV X.K) (ofO (revD m d S1)) μ1 [] H1 Q := tR.ofO q
  cases e1 : listOf S1 d with
  | some ds =>
    have e2 : revD m d S1 = some (mk m ds.reverse S1) := by
      cases d with
      | tup _ => cases e1
      | _ => simp only [revD, e1]
    obtain ⟨a, vs, rfl, h1, h2⟩ := listOf_sq sr e1 vr
    rw [e2] at q
    exact ⟨a, vs, rfl, .inl ⟨h1, new_mk sr (rev_VR h2) q⟩⟩
  | none =>
    cases d with
    | tup ds =>
      obtain ⟨a, vs, rfl, h1, h2⟩ := VR_tup.mp vr
      exact ⟨a, vs, rfl, .inr ⟨h1, fun p hp => new_tup sr (rev_VR h2) q p hp⟩⟩
    | _ =>
      simp only [revD, e1] at q
      exact q.elim
end Fc

set_option exponentiation.threshold 256
set_option maxHeartbeats 4000000
set_option maxHeartbeats 4000000
/-! ChE: digits, how many best ways. -/
namespace Fc
open PySem L2
local macro_rules | `(tactic| walk_at "fc") => `(tactic| try simp only [runB, cSeq, cNil, cRet, cRetN, cExpr, cIf, cSet, cAsg, cPar, cAug, cRaise, cStore, cPass, cWipe, wipeD, toS_ok, toS_exn, toS_stuck, Res.bd_ok, Res.bd_exn, Res.bd_stuck, Res.bdN_ok, Res.bdN_exn, Res.bdN_stuck,
  eVar, eC, eTup, eLst, eOp, eChain, eUn, eAnd, eOr, eNot, eIf, eRep, tTs, tAnd2, tOr2, tNot2, tTrue, eCall, eBi, eIsi, eMtL, eSl, oNo, oSo, lNil, lCons, iSeq, iRange1, iRange2, zAdd, zSub, zMul, zDiv, zMod, ofO, opInt, opIn, opNotIn, opEq, opNe, opIs, opIsnt, mk_t, mk_f,
  List.map_cons, List.map_nil, List.length_cons, List.length_nil, List.replicate, List.append_nil, List.nil_append, List.cons_append, List.getElem?_cons_zero, List.getElem?_cons_succ, List.getElem?_nil, List.set_cons_zero, List.set_cons_succ, List.set_nil, lm0, lm1, lm2, lm3, lm4, lm5, lm6, lm7, lm8, lm9, asg_nm, asg_tp, asgs_nil, asgs_cons, Option.bind_some, Option.bind_none, Option.map_some, Option.map_none,
  Nat.reduceSub, Nat.reduceAdd, Nat.zero_add, Nat.add_zero, Nat.sub_self, if_true, if_false, reduceIte, Bool.false_eq_true, Bool.true_eq_false, Bool.not_true, Bool.not_false, ix_tup, ix_fz, at0, at1, at2, eDNew, eDGet, eDGet2, eDIn, eDPop, cDPut, cAugS, cSub2, dic_ref, keyOf, reduceCtorEq])
local macro_rules | `(tactic| walk_at "fo") => `(tactic| try simp only [*, runB, cSeq, cNil, cRet, cRetN, cExpr, cIf, cSet, cAsg, cPar, cAug, cRaise, cStore, cPass, cWipe, wipeD, toS_ok, toS_exn, toS_stuck, Res.bd_ok, Res.bd_exn, Res.bd_stuck, Res.bdN_ok, Res.bdN_exn, Res.bdN_stuck,
  eVar, eC, eTup, eLst, eOp, eChain, eUn, eAnd, eOr, eNot, eIf, eRep, tTs, tAnd2, tOr2, tNot2, tTrue, eCall, eBi, eIsi, eMtL, eSl, oNo, oSo, lNil, lCons, iSeq, iRange1, iRange2, zAdd, zSub, zMul, zDiv, zMod, ofO, opInt, opIn, opNotIn, opEq, opNe, opIs, opIsnt, mk_t, mk_f,
  List.map_cons, List.map_nil, List.length_cons, List.length_nil, List.replicate, List.append_nil, List.nil_append, List.cons_append, List.getElem?_cons_zero, List.getElem?_cons_succ, List.getElem?_nil, List.set_cons_zero, List.set_cons_succ, List.set_nil, lm0, lm1, lm2, lm3, lm4, lm5, lm6, lm7, lm8, lm9, asg_nm, asg_tp, asgs_nil, asgs_cons, Option.bind_some, Option.bind_none, Option.map_some, Option.map_none,
  Nat.reduceSub, Nat.reduceAdd, Nat.zero_add, Nat.add_zero, Nat.sub_self, if_true, if_false, reduceIte, Bool.false_eq_true, Bool.true_eq_false, Bool.not_true, Bool.not_false, ix_tup, ix_fz, at0, at1, at2, eDNew, eDGet, eDGet2, eDIn, eDPop, cDPut, cAugS, cSub2, dic_ref, keyOf, reduceCtorEq, and_self, Bool.and_self, decide_true, decide_false, List.append_assoc, List.length_append, Nat.add_assoc, at_new, at_newk, add_fz, add_rf, add_tt, ix_ref, seq_ref, list_ref, seq_tup, seq_fz, list_fz, ix_tup, ix_fz, neg_int, app_ref, set_newk, set_new0, iZ, iEn, sl_tup, sl_fz, eLcV, len_tup, len_ref, len_fz, tuple_fz, tuple_ref, ty_non, ty_bl, ty_int, ty_str, ty_tup, ty_fz])
local macro_rules | `(tactic| walk_at "fg") => `(tactic| try simp only [*, runB, cSeq, cNil, cRet, cRetN, cExpr, cIf, cSet, cAsg, cPar, cAug, cRaise, cStore, cPass, cWipe, wipeD, toS_ok, toS_exn, toS_stuck, Res.bd_ok, Res.bd_exn, Res.bd_stuck, Res.bdN_ok, Res.bdN_exn, Res.bdN_stuck,
  eVar, eC, eTup, eLst, eOp, eChain, eUn, eAnd, eOr, eNot, eIf, eRep, tTs, tAnd2, tOr2, tNot2, tTrue, eCall, eBi, eIsi, eMtL, eSl, oNo, oSo, lNil, lCons, iSeq, iRange1, iRange2, zAdd, zSub, zMul, zDiv, zMod, ofO, opInt, opIn, opNotIn, opEq, opNe, opIs, opIsnt, mk_t, mk_f,
  List.map_cons, List.map_nil, List.length_cons, List.length_nil, List.replicate, List.append_nil, List.nil_append, List.cons_append, List.getElem?_cons_zero, List.getElem?_cons_succ, List.getElem?_nil, List.set_cons_zero, List.set_cons_succ, List.set_nil, lm0, lm1, lm2, lm3, lm4, lm5, lm6, lm7, lm8, lm9, asg_nm, asg_tp, asgs_nil, asgs_cons, Option.bind_some, Option.bind_none, Option.map_some, Option.map_none,
  Nat.reduceSub, Nat.reduceAdd, Nat.zero_add, Nat.add_zero, Nat.sub_self, if_true, if_false, reduceIte, Bool.false_eq_true, Bool.true_eq_false, Bool.not_true, Bool.not_false, ix_tup, ix_fz, at0, at1, at2, eDNew, eDGet, eDGet2, eDIn, eDPop, cDPut, cAugS, cSub2, dic_ref, keyOf, reduceCtorEq, and_self, Bool.and_self, decide_true, decide_false, List.append_assoc, List.length_append, Nat.add_assoc, at_new, at_newk, add_fz, add_rf, add_tt, ix_ref, seq_ref, list_ref, seq_tup, seq_fz, list_fz, ix_tup, ix_fz, neg_int, app_ref, set_newk, set_new0, iZ, iEn, sl_tup, sl_fz, eLcV, len_tup, len_ref, len_fz, tuple_fz, tuple_ref, ty_non, ty_bl, ty_int, ty_str, ty_tup, ty_fz])
local macro_rules | `(tactic| walk_at "fs") => `(tactic| try simp [runB, cSeq, cNil, cRet, cRetN, cExpr, cIf, cSet, cAsg, cPar, cAug, cRaise, cStore, cPass, cWipe, wipeD, toS_ok, toS_exn, toS_stuck, Res.bd_ok, Res.bd_exn, Res.bd_stuck, Res.bdN_ok, Res.bdN_exn, Res.bdN_stuck,
  eVar, eC, eTup, eLst, eOp, eChain, eUn, eAnd, eOr, eNot, eIf, eRep, tTs, tAnd2, tOr2, tNot2, tTrue, eCall, eBi, eIsi, eMtL, eSl, oNo, oSo, lNil, lCons, iSeq, iRange1, iRange2, zAdd, zSub, zMul, zDiv, zMod, ofO, opInt, opIn, opNotIn, opEq, opNe, opIs, opIsnt, mk_t, mk_f,
  List.map_cons, List.map_nil, List.length_cons, List.length_nil, List.replicate, List.append_nil, List.nil_append, List.cons_append, List.getElem?_cons_zero, List.getElem?_cons_succ, List.getElem?_nil, List.set_cons_zero, List.set_cons_succ, List.set_nil, lm0, lm1, lm2, lm3, lm4, lm5, lm6, lm7, lm8, lm9, asg_nm, asg_tp, asgs_nil, asgs_cons, Option.bind_some, Option.bind_none, Option.map_some, Option.map_none,
  Nat.reduceSub, Nat.reduceAdd, Nat.zero_add, Nat.add_zero, Nat.sub_self, if_true, if_false, reduceIte, Bool.false_eq_true, Bool.true_eq_false, Bool.not_true, Bool.not_false, ix_tup, ix_fz, at0, at1, at2, eDNew, eDGet, eDGet2, eDIn, eDPop, cDPut, cAugS, cSub2, dic_ref, keyOf, reduceCtorEq, and_self, Bool.and_self, decide_true, decide_false, List.append_assoc, List.length_append, Nat.add_assoc, at_new, at_newk, add_fz, add_rf, add_tt, ix_ref, seq_ref, list_ref, seq_tup, seq_fz, list_fz, ix_tup, ix_fz, neg_int, app_ref, set_newk, set_new0, iZ, iEn, sl_tup, sl_fz, eLcV, len_tup, len_ref, len_fz, tuple_fz, tuple_ref, ty_non, ty_bl, ty_int, ty_str, ty_tup, ty_fz, isT, eqD_int, at0, at1])
local macro_rules | `(tactic| walk_at "fh") => `(tactic| try simp [*, runB, cSeq, cNil, cRet, cRetN, cExpr, cIf, cSet, cAsg, cPar, cAug, cRaise, cStore, cPass, cWipe, wipeD, toS_ok, toS_exn, toS_stuck, Res.bd_ok, Res.bd_exn, Res.bd_stuck, Res.bdN_ok, Res.bdN_exn, Res.bdN_stuck,
  eVar, eC, eTup, eLst, eOp, eChain, eUn, eAnd, eOr, eNot, eIf, eRep, tTs, tAnd2, tOr2, tNot2, tTrue, eCall, eBi, eIsi, eMtL, eSl, oNo, oSo, lNil, lCons, iSeq, iRange1, iRange2, zAdd, zSub, zMul, zDiv, zMod, ofO, opInt, opIn, opNotIn, opEq, opNe, opIs, opIsnt, mk_t, mk_f,
  List.map_cons, List.map_nil, List.length_cons, List.length_nil, List.replicate, List.append_nil, List.nil_append, List.cons_append, List.getElem?_cons_zero, List.getElem?_cons_succ, List.getElem?_nil, List.set_cons_zero, List.set_cons_succ, List.set_nil, lm0, lm1, lm2, lm3, lm4, lm5, lm6, lm7, lm8, lm9, asg_nm, asg_tp, asgs_nil, asgs_cons, Option.bind_some, Option.bind_none, Option.map_some, Option.map_none,
  Nat.reduceSub, Nat.reduceAdd, Nat.zero_add, Nat.add_zero, Nat.sub_self, if_true, if_false, reduceIte, Bool.false_eq_true, Bool.true_eq_false, Bool.not_true, Bool.not_false, ix_tup, ix_fz, at0, at1, at2, eDNew, eDGet, eDGet2, eDIn, eDPop, cDPut, cAugS, cSub2, dic_ref, keyOf, reduceCtorEq, and_self, Bool.and_self, decide_true, decide_false, List.append_assoc, List.length_append, Nat.add_assoc, at_new, at_newk, add_fz, add_rf, add_tt, ix_ref, seq_ref, list_ref, seq_tup, seq_fz, list_fz, ix_tup, ix_fz, neg_int, app_ref, set_newk, set_new0, iZ, iEn, sl_tup, sl_fz, eLcV, len_tup, len_ref, len_fz, tuple_fz, tuple_ref, ty_non, ty_bl, ty_int, ty_str, ty_tup, ty_fz, isT, eqD_int, at0, at1])
def dgt (s : Int) (k : Nat) (q : Rat) : Int := if k = 0 then flo s 0 q else flo s k q - s * flo s (k - 1) q
theorem dgt_bd {s : Int} {k : Nat} {qs : List Rat} {q : Rat} (h : Chances qs) (hq : q ∈ qs) (hs : 2 ≤ s ∧ s ≤ 6) : 0 ≤ dgt s k q ∧ dgt s k q ≤ 5 := by
  have n := h.num_le hq
  have d0 := den_pos q
  unfold dgt
  split
  · unfold flo
    rw [Int.pow_zero, Int.one_mul]
    refine ⟨Int.ediv_nonneg n.1 (by omega), ?_⟩
    have : q.num / (q.den : Int) ≤ 1 := by
      have := Int.ediv_le_ediv d0 n.2
      rwa [Int.ediv_self (by omega)] at this
    omega
  · rename_i hk
    obtain ⟨j, rfl⟩ : ∃ j, k = j + 1 := ⟨k - 1, by omega⟩
    simp only [Nat.add_sub_cancel]
    unfold flo
    have e1 : s ^ (j + 1) * q.num = s * (s ^ j * q.num) := by rw [Int.pow_succ]; grind
    rw [e1]
    generalize s ^ j * q.num = N
    generalize (q.den : Int) = D at *
    have e2 := Int.emod_add_mul_ediv N D
    have r1 := Int.emod_nonneg N (by omega : D ≠ 0)
    have r2 := Int.emod_lt_of_pos N d0
    have e3 : s * N = s * (N % D) + s * (N / D) * D := by
      conv => lhs; rw [← e2]
      grind
    rw [e3, Int.add_mul_ediv_right _ _ (by omega)]
    have r3 : 0 ≤ s * (N % D) := Int.mul_nonneg (by omega) r1
    have r4 : s * (N % D) < s * D := Int.mul_lt_mul_of_pos_left r2 (by omega)
    have r5 := Int.ediv_nonneg r3 (by omega : 0 ≤ D)
    have r6 : s * (N % D) / D < s := Int.ediv_lt_of_lt_mul d0 r4
    omega
noncomputable def b_digits_at : DS :=
 (cSeq (cSet 3 (eCall 3 r_floors (lCons (eVar 0) (lCons (eVar 1) (lCons (eVar 2) lNil)))))
 (cSeq (cIf (tTs (eOp opEq (eVar 2) (eC (.int 0))))
 (cSeq (cRet (eBi fTuple (lCons (eVar 3) lNil)))
 cNil)
 cNil)
 (cSeq (cRet (eBi fTuple (lCons (eLcV (iZ (lCons (eVar 3) (lCons (eCall 3 r_floors (lCons (eVar 0) (lCons (eVar 1) (lCons (eOp opSub (eVar 2) (eC (.int 1))) lNil)))) lNil))) (.tp [(.nm 4), (.nm 5)]) tTrue (eOp opSub (eVar 4) (eOp (opMul false) (eVar 1) (eVar 5))) [4, 5]) lNil)))
 cNil)))
noncomputable def r_digits_at : Den := runF 6 b_digits_at
theorem flo_bd {s : Int} {k : Nat} {qs : List Rat} {q : Rat} (h : Chances qs) (hq : q ∈ qs) (hs : 2 ≤ s ∧ s ≤ 6) (hk : k ≤ 1000) : (flo s k q).natAbs < 2 ^ 4000 := by
  unfold flo
  have b1 := pow_bd (sides_abs hs) k
  have b2 := (h.bd hq).1
  have b3 := abs_mul b1 b2
  exact Nat.lt_of_le_of_lt (natAbs_ediv_le _ _) (Nat.lt_of_lt_of_le b3 (Nat.pow_le_pow_right (by decide) (by omega)))
theorem digits_at_run {qs : List Rat} {s : Int} {k : Nat} (h : Chances qs) (hs : 2 ≤ s ∧ s ≤ 6) (hk : k ≤ 1000) (S : Sto) : r_digits_at [chs qs, .int s, .int (k : Nat)] S = .ok (tupI (qs.map (dgt s k))) S := by
  refine f_val0 (ρ0 := [some (chs qs), some (.int s), some (.int (k : Nat)), none, none, none]) rfl ?_ (tupI_plain _)
  unfold b_digits_at
  refine seq_go (set_go (d := .fz (qs.map fun q => .int (flo s k q))) (S1 := S) ?_) ?_
  · walk_at "fc"
    rw [floors_run h.lim h.sm (sides_abs' hs) hk]
  · by_cases h0 : k = 0
    · subst h0
      refine seq_rt (if_t (S1 := S) ?_ (seq_rt (ret_go ?_)))
      · walk_at "fc"
        rw [eqD_int]
        walk_at "fc"
        rfl
      · walk_at "fc"
        rw [tuple_fz]
        walk_at "fc"
        simp only [tupI, List.map_map]
        congr 3
    · refine seq_go (if_f (S1 := S) ?_ nil_go) (seq_rt (ret_go ?_))
      · walk_at "fc"
        rw [eqD_int]
        have : ¬ ((k : Int) = 0) := by omega
        simp [this, h0]
      · have e1 : (k : Int) - 1 = ((k - 1 : Nat) : Int) := by omega
        have hz : ∀ S1 : Sto, (qs.map fun q => Dv.int (flo s k q)) = qs.map (fun q => Dv.int (flo s k q)) := fun _ => rfl
        have lc := lcV_map (it := itZip (.fz (qs.map fun q => .int (flo s k q))) (.fz (qs.map fun q => .int (flo s (k - 1) q)))) (tg := .tp [.nm 4, .nm 5]) (elt := eOp opSub (eVar 4) (eOp (opMul false) (eVar 1) (eVar 5)))
          (ρ := [some (chs qs), some (.int s), some (.int (k : Nat)), some (.fz (qs.map fun q => .int (flo s k q))), none, none]) (S := S) (qs.zip qs) (fun p : Rat × Rat => .tup [.int (flo s k p.1), .int (flo s (k - 1) p.2)]) (fun p => .int (dgt s k p.1)) (goes_zip (enc := fun q => Dv.int (flo s k q)) (enc' := fun q => Dv.int (flo s (k - 1) q)) rfl rfl) (by simpa using h.lim) fun p hp => ⟨_, rfl, by
            have hpe : p.1 = p.2 ∧ p.1 ∈ qs := by
              have z : qs.zip qs = qs.map fun x => (x, x) := by
                rw [List.zip_eq_zipWith]
                induction qs with
                | nil => rfl
                | cons x l _ => simp [List.zipWith_self]
              rw [z] at hp
              obtain ⟨x, hx, rfl⟩ := List.mem_map.mp hp
              exact ⟨rfl, hx⟩
            rw [← hpe.1]
            have m1 : mulOk s (flo s (k - 1) p.1) = true := mulOk_of (sides_abs hs) (flo_bd h hpe.2 hs (by omega)) (by decide) (by decide) (by decide)
            walk_at "fc"
            rw [zMul m1]
            walk_at "fc"
            simp only [dgt, h0, if_false]⟩
        have e2 : ((qs.zip qs).map fun p => Dv.int (dgt s k p.1)) = qs.map fun q => .int (dgt s k q) := by
          have z : qs.zip qs = qs.map fun x => (x, x) := by
            rw [List.zip_eq_zipWith]
            simp [List.zipWith_self]
          rw [z, List.map_map]
          rfl
        rw [e2] at lc
        walk_at "fc"
        simp only [eLcV, iZ]
        walk_at "fc"
        rw [e1, floors_run h.lim h.sm (sides_abs' hs) (by omega)]
        walk_at "fc"
        simp only [seq_fz]
        walk_at "fc"
        rw [lc]
        walk_at "fc"
        rw [tuple_fz]
        simp [tupI]
noncomputable def b_digits : DS :=
 (cSeq (cExpr (eCall 1 r_check_chances (lCons (eVar 0) lNil)))
 (cSeq (cExpr (eCall 1 r_check_sides (lCons (eVar 1) lNil)))
 (cSeq (cExpr (eCall 2 r_check_throws (lCons (eVar 2) (lCons (eC (.int 60)) lNil))))
 (cSeq (cRet (eCall 3 r_digits_at (lCons (eVar 0) (lCons (eVar 1) (lCons (eVar 2) lNil)))))
 cNil))))
noncomputable def r_digits : Den := runF 3 b_digits
theorem digits_run {qs : List Rat} {s : Int} {k : Nat} (h : Chances qs) (hs : 2 ≤ s ∧ s ≤ 6) (hk : k ≤ 60) (S : Sto) : r_digits [chs qs, .int s, .int (k : Nat)] S = .ok (tupI (qs.map (dgt s k))) S := by
  refine f_val0 rfl ?_ (tupI_plain _)
  unfold b_digits
  walk_at "fc"
  rw [check_chances_ok (h.okC S) (isCh_chs h)]
  walk_at "fc"
  rw [check_sides_ok hs]
  walk_at "fc"
  rw [check_throws_ok (by omega)]
  walk_at "fc"
  rw [digits_at_run h hs (by omega)]
  walk_at "fc"
noncomputable def b_least_open : DS :=
 (cSeq (cExpr (eCall 1 r_check_chances (lCons (eVar 0) lNil)))
 (cSeq (cExpr (eCall 1 r_check_sides (lCons (eVar 1) lNil)))
 (cSeq (cExpr (eCall 2 r_check_throws (lCons (eVar 2) (lCons (eC (.int 60)) lNil))))
 (cSeq (cRet (eCall 3 r_open_at_least (lCons (eVar 0) (lCons (eVar 1) (lCons (eVar 2) lNil)))))
 cNil))))
noncomputable def r_least_open : Den := runF 3 b_least_open
theorem least_open_run {qs : List Rat} {s : Int} {k : Nat} (h : Chances qs) (hs : 2 ≤ s ∧ s ≤ 6) (hk : k ≤ 60) (S : Sto) : r_least_open [chs qs, .int s, .int (k : Nat)] S = .ok (.int (opn s qs k)) S := by
  refine f_val0 rfl ?_ rfl
  unfold b_least_open
  walk_at "fc"
  rw [check_chances_ok (h.okC S) (isCh_chs h)]
  walk_at "fc"
  rw [check_sides_ok hs]
  walk_at "fc"
  rw [check_throws_ok (by omega)]
  walk_at "fc"
  rw [open_run h.lim h.sm (sides_abs' hs) (by omega)]
  walk_at "fc"
theorem small_mulX {i j : Int} (h1 : 0 ≤ i) (h2 : i < 2 ^ 40) (h3 : 0 ≤ j) (h4 : j < 2 ^ 40) : mulOk i j = true := mulOk_of (a := 40) (b := 40) (by omega) (by omega) (by decide) (by decide) (by decide)
/-! ### arrangements -/
def arr1 (left : Int) (r : Int) (n : Nat) : Int := (List.range n).foldl (fun (r : Int) (p : Nat) => r * (left - (p : Int)) / ((p : Int) + 1)) r
def arrS (t : Int × Int) (g : Int) : Int × Int := (arr1 t.2 t.1 g.toNat, t.2 - g)
def arrF (many : Int) (gs : List Int) : Int := (gs.foldl arrS (1, many)).1
theorem arr1_bd {left r : Int} {b : Nat} (hl : left.natAbs < 2 ^ 10) (hr : r.natAbs < 2 ^ b) : ∀ n : Nat, n ≤ 1000 → (arr1 left r n).natAbs < 2 ^ (b + 11 * n)
  | 0, _ => by simpa [arr1] using hr
  | n + 1, h => by
    have ih := arr1_bd hl hr n (by omega)
    unfold arr1 at ih ⊢
    rw [List.range_succ, List.foldl_append]
    simp only [List.foldl_cons, List.foldl_nil]
    have h1 : (left - (n : Int)).natAbs < 2 ^ 11 := by omega
    have h2 := abs_mul ih h1
    have h3 : ((n : Int) + 1) = ((n + 1 : Nat) : Int) := rfl
    rw [h3]
    refine Nat.lt_of_le_of_lt (natAbs_ediv_le _ _) (Nat.lt_of_lt_of_le h2 (Nat.pow_le_pow_right (by decide) (by omega)))
noncomputable def b_arrangements_L1 : DS :=
 (cSeq (cSet 2 (eOp opDiv (eOp (opMul false) (eVar 2) (eOp opSub (eVar 3) (eVar 5))) (eOp (opAdd false) (eVar 5) (eC (.int 1)))))
 (cWipe [5]))
noncomputable def b_arrangements_L2 : DS :=
 (cSeq (cFor (iRange1 (lCons (eVar 4) lNil)) (.nm 5) b_arrangements_L1)
 (cSeq (cSet 3 (eOp opSub (eVar 3) (eVar 4)))
 (cWipe [4, 5])))
noncomputable def b_arrangements : DS :=
 (cSeq (cSet 2 (eC (.int 1)))
 (cSeq (cSet 3 (eVar 0))
 (cSeq (cFor (iSeq (eVar 1)) (.nm 4) b_arrangements_L2)
 (cSeq (cRet (eVar 2))
 cNil))))
noncomputable def r_arrangements : Den := runF 6 b_arrangements
theorem arrangements_run {many : Int} {gs : List Int} (hm : many.natAbs ≤ 100) (hg : ∀ g ∈ gs, 0 ≤ g ∧ g ≤ 50) (hl : gs.length ≤ 6) (S : Sto) : r_arrangements [.int many, tupI gs] S = .ok (.int (arrF many gs)) S ∧ (arrF many gs).natAbs < 2 ^ 3400 := by
  let E : Int × Int → Ev := fun t => [some (.int many), some (tupI gs), some (.int t.1), some (.int t.2), none, none]
  have lp := for_pure (it := itSeq (tupI gs)) (tg := .nm 4) (b := b_arrangements_L2) (S := S) gs Dv.int E arrS (fun pre t => t.1.natAbs < 2 ^ (1 + 550 * pre.length) ∧ t.2.natAbs ≤ 100 + 50 * pre.length) (1, many) (goes_tup gs Dv.int) (Nat.le_trans hl (by decide)) ⟨by simp, by simpa using hm⟩ (by
    rintro pre g post ⟨r, left⟩ e ⟨h1, h2⟩
    simp only at h1 h2
    have hpl : pre.length ≤ 5 := by
      have := congrArg List.length e
      simp at this
      omega
    have hgg := hg g (by rw [e]; simp)
    obtain ⟨n, rfl⟩ : ∃ n : Nat, g = (n : Int) := ⟨g.toNat, by omega⟩
    have hlb : left.natAbs < 2 ^ 10 := by omega
    have b1 := arr1_bd hlb h1 n (by omega)
    refine ⟨⟨?_, ?_⟩, _, rfl, ?_⟩
    · simp only [arrS, Int.toNat_natCast, List.length_append, List.length_cons, List.length_nil]
      exact Nat.lt_of_lt_of_le b1 (Nat.pow_le_pow_right (by decide) (by omega))
    · simp only [arrS, List.length_append, List.length_cons, List.length_nil]
      omega
    · have lp2 := (for_pure (it := itRange 0 n) (tg := .nm 5) (b := b_arrangements_L1) (S := S) (List.range n) (fun i => .int (0 + (i : Nat))) (fun t : Int => [some (.int many), some (tupI gs), some (.int t), some (.int left), some (.int (n : Nat)), none]) (fun (r : Int) (p : Nat) => r * (left - (p : Int)) / ((p : Int) + 1)) (fun pre t => pre = List.range pre.length ∧ t = arr1 left r pre.length) r (goes_range 0 n) (by simp; exact Nat.le_trans (by omega : n ≤ 50) (by decide)) ⟨by simp, by simp [arr1]⟩ (by
        rintro pre2 p post2 t e2 ⟨e3, rfl⟩
        have hl2 := congrArg List.length e2
        simp at hl2
        have hp : p = pre2.length := by
          have h1 : (List.range n)[pre2.length]? = some p := by rw [e2]; simp
          rw [List.getElem?_range (by omega)] at h1
          exact (Option.some.inj h1).symm
        have b3 := arr1_bd hlb h1 pre2.length (by omega)
        have m1 : mulOk (arr1 left r pre2.length) (left - (p : Int)) = true := mulOk_of b3 (by omega : (left - (p : Int)).natAbs < 2 ^ 11) (by omega) (by decide) (by omega)
        have d1 : divOk ((p : Int) + 1) = true := divOk_of (a := 11) (by omega) (by omega) (by decide) (by decide)
        refine ⟨⟨?_, ?_⟩, _, rfl, ?_⟩
        · rw [List.length_append, List.length_cons, List.length_nil, Nat.zero_add, List.range_succ, ← e3, hp]
        · rw [List.length_append, List.length_cons, List.length_nil, Nat.zero_add]
          conv => rhs; unfold arr1
          rw [List.range_succ, List.foldl_append, hp]
          rfl
        · rw [Int.zero_add]
          unfold b_arrangements_L1
          walk_at "fc"
          rw [zMul m1]
          walk_at "fc"
          rw [zDiv d1]
          walk_at "fc")).1
      have e5 : (List.range n).foldl (fun (r : Int) (p : Nat) => r * (left - (p : Int)) / ((p : Int) + 1)) r = arr1 left r n := rfl
      rw [e5] at lp2
      unfold b_arrangements_L2
      refine seq_go (for_go (it := itRange 0 n) (S1 := S) ?_ lp2) ?_
      · simp only [E]
        walk_at "fc"
        rw [rngB_iff.mpr (by omega)]
        walk_at "fc"
        rfl
      · simp only [E, arrS]
        walk_at "fc"
        rfl)
  obtain ⟨l1, b1, b2⟩ := lp
  refine ⟨?_, Nat.lt_of_lt_of_le b1 (Nat.pow_le_pow_right (by decide) (by omega))⟩
  refine f_val0 rfl ?_ rfl
  unfold b_arrangements
  refine seq_go (set_go (d := .int 1) rfl) (seq_go (set_go (d := .int many) rfl) (seq_go (for_go (it := itSeq (tupI gs)) (S1 := S) ?_ l1) (seq_rt (ret_go rfl))))
  walk_at "fc"
  rw [tupI, seq_tup]
/-! ### how many best ways -/
def hmb (s : Int) (qs : List Rat) (k : Nat) : Int := (List.range k).foldl (fun r i => r * arrF (s * opn s qs i) (qs.map (dgt s (i + 1)))) 1
noncomputable def b_how_many_best_L1 : DS :=
 (cSeq (cSet 5 (eOp (opMul false) (eVar 1) (eCall 3 r_open_at_least (lCons (eVar 0) (lCons (eVar 1) (lCons (eOp opSub (eVar 4) (eC (.int 1))) lNil))))))
 (cSeq (cSet 3 (eOp (opMul false) (eVar 3) (eCall 2 r_arrangements (lCons (eVar 5) (lCons (eCall 3 r_digits_at (lCons (eVar 0) (lCons (eVar 1) (lCons (eVar 4) lNil)))) lNil)))))
 (cWipe [4, 5])))
noncomputable def b_how_many_best : DS :=
 (cSeq (cExpr (eCall 1 r_check_chances (lCons (eVar 0) lNil)))
 (cSeq (cExpr (eCall 1 r_check_sides (lCons (eVar 1) lNil)))
 (cSeq (cExpr (eCall 2 r_check_throws (lCons (eVar 2) (lCons (eC (.int 60)) lNil))))
 (cSeq (cSet 3 (eC (.int 1)))
 (cSeq (cFor (iRange2 (lCons (eC (.int 1)) (lCons (eOp (opAdd false) (eVar 2) (eC (.int 1))) lNil))) (.nm 4) b_how_many_best_L1)
 (cSeq (cRet (eVar 3))
 cNil))))))
noncomputable def r_how_many_best : Den := runF 6 b_how_many_best
theorem how_many_best_run {qs : List Rat} {s : Int} {k : Nat} (h : Chances qs) (hs : 2 ≤ s ∧ s ≤ 6) (hk : k ≤ 60) (S : Sto) : r_how_many_best [chs qs, .int s, .int (k : Nat)] S = .ok (.int (hmb s qs k)) S := by
  have lp := (for_pure (it := itRange 1 k) (tg := .nm 4) (b := b_how_many_best_L1) (S := S) (List.range k) (fun i => .int (1 + (i : Nat))) (fun t : Int => [some (chs qs), some (.int s), some (.int (k : Nat)), some (.int t), none, none]) (fun r i => r * arrF (s * opn s qs i) (qs.map (dgt s (i + 1)))) (fun pre t => t.natAbs < 2 ^ (1 + 3400 * pre.length)) 1 (goes_range 1 k) (by simp; exact Nat.le_trans hk (by decide)) (by decide) (by
    intro pre i post t e ht
    have hl := congrArg List.length e
    simp at hl
    have hi : i < k := by
      have : i ∈ List.range k := by rw [e]; simp
      exact List.mem_range.mp this
    obtain ⟨_, o1, o2⟩ := opn_rst (s := s) (k := i) h
    have hm0 : 0 ≤ s * opn s qs i := Int.mul_nonneg (by omega) o1
    have hm1 : s * opn s qs i ≤ 6 * 6 := Int.mul_le_mul hs.2 o2 o1 (by decide)
    obtain ⟨ar, ab⟩ := arrangements_run (many := s * opn s qs i) (gs := qs.map (dgt s (i + 1))) (by omega) (fun g hg => by
      obtain ⟨q, hq, rfl⟩ := List.mem_map.mp hg
      have := dgt_bd (k := i + 1) h hq hs
      omega) (by simpa using h.many.2) S
    have m0 : mulOk s (opn s qs i) = true := small_mulX (by omega) (by omega) o1 (by omega)
    have m1 : mulOk t (arrF (s * opn s qs i) (qs.map (dgt s (i + 1)))) = true := mulOk_of ht ab (by omega) (by decide) (by omega)
    have nb := abs_mul ht ab
    refine ⟨?_, _, rfl, ?_⟩
    · rw [List.length_append, List.length_cons, List.length_nil]
      exact Nat.lt_of_lt_of_le nb (Nat.pow_le_pow_right (by decide) (by omega))
    · unfold b_how_many_best_L1
      have e1 : (1 : Int) + (i : Nat) - 1 = ((i : Nat) : Int) := by omega
      have e2 : (1 : Int) + (i : Nat) = ((i + 1 : Nat) : Int) := by omega
      walk_at "fc"
      rw [e1, open_run h.lim h.sm (sides_abs' hs) (by omega)]
      walk_at "fc"
      rw [zMul m0]
      walk_at "fc"
      rw [e2, digits_at_run h hs (by omega)]
      walk_at "fc"
      rw [ar]
      walk_at "fc"
      rw [zMul m1]
      walk_at "fc")).1
  refine f_val0 (ρ0 := [some (chs qs), some (.int s), some (.int (k : Nat)), none, none, none]) rfl ?_ rfl
  unfold b_how_many_best
  refine seq_go (expr_go (d := .non) (S1 := S) ?_) (seq_go (expr_go (d := .non) (S1 := S) ?_) (seq_go (expr_go (d := .non) (S1 := S) ?_) (seq_go (set_go (d := .int 1) (S1 := S) rfl) (seq_go (for_go (it := itRange 1 k) (S1 := S) ?_ lp) (seq_rt (ret_go rfl))))))
  · walk_at "fc"
    rw [check_chances_ok (h.okC S) (isCh_chs h)]
  · walk_at "fc"
    rw [check_sides_ok hs]
  · walk_at "fc"
    rw [check_throws_ok (by omega)]
  · walk_at "fc"
    have r1 : rngB 1 = true := rngB_iff.mpr (by omega)
    have r2 : rngB ((k : Int) + 1) = true := rngB_iff.mpr (by omega)
    simp only [r1, r2, Bool.and_self, if_true]
    congr 2
    omega
end Fc

set_option exponentiation.threshold 256
set_option maxHeartbeats 4000000
set_option maxHeartbeats 4000000
/-! LawK06: chances by hand. -/
namespace Fc
open PySem L2
local macro_rules | `(tactic| walk_at "fc") => `(tactic| try simp only [runB, cSeq, cNil, cRet, cRetN, cExpr, cIf, cSet, cAsg, cPar, cAug, cRaise, cStore, cPass, cWipe, wipeD, toS_ok, toS_exn, toS_stuck, Res.bd_ok, Res.bd_exn, Res.bd_stuck, Res.bdN_ok, Res.bdN_exn, Res.bdN_stuck,
  eVar, eC, eTup, eLst, eOp, eChain, eUn, eAnd, eOr, eNot, eIf, eRep, tTs, tAnd2, tOr2, tNot2, tTrue, eCall, eBi, eIsi, eMtL, eSl, oNo, oSo, lNil, lCons, iSeq, iRange1, iRange2, zAdd, zSub, zMul, zDiv, zMod, ofO, opInt, opIn, opNotIn, opEq, opNe, opIs, opIsnt, mk_t, mk_f,
  List.map_cons, List.map_nil, List.length_cons, List.length_nil, List.replicate, List.append_nil, List.nil_append, List.cons_append, List.getElem?_cons_zero, List.getElem?_cons_succ, List.getElem?_nil, List.set_cons_zero, List.set_cons_succ, List.set_nil, lm0, lm1, lm2, lm3, lm4, lm5, lm6, lm7, lm8, lm9, asg_nm, asg_tp, asgs_nil, asgs_cons, Option.bind_some, Option.bind_none, Option.map_some, Option.map_none,
  Nat.reduceSub, Nat.reduceAdd, Nat.zero_add, Nat.add_zero, Nat.sub_self, if_true, if_false, reduceIte, Bool.false_eq_true, Bool.true_eq_false, Bool.not_true, Bool.not_false, ix_tup, ix_fz, at0, at1, at2, eDNew, eDGet, eDGet2, eDIn, eDPop, cDPut, cAugS, cSub2, dic_ref, keyOf, reduceCtorEq])
local macro_rules | `(tactic| walk_at "fo") => `(tactic| try simp only [*, runB, cSeq, cNil, cRet, cRetN, cExpr, cIf, cSet, cAsg, cPar, cAug, cRaise, cStore, cPass, cWipe, wipeD, toS_ok, toS_exn, toS_stuck, Res.bd_ok, Res.bd_exn, Res.bd_stuck, Res.bdN_ok, Res.bdN_exn, Res.bdN_stuck,
  eVar, eC, eTup, eLst, eOp, eChain, eUn, eAnd, eOr, eNot, eIf, eRep, tTs, tAnd2, tOr2, tNot2, tTrue, eCall, eBi, eIsi, eMtL, eSl, oNo, oSo, lNil, lCons, iSeq, iRange1, iRange2, zAdd, zSub, zMul, zDiv, zMod, ofO, opInt, opIn, opNotIn, opEq, opNe, opIs, opIsnt, mk_t, mk_f,
  List.map_cons, List.map_nil, List.length_cons, List.length_nil, List.replicate, List.append_nil, List.nil_append, List.cons_append, List.getElem?_cons_zero, List.getElem?_cons_succ, List.getElem?_nil, List.set_cons_zero, List.set_cons_succ, List.set_nil, lm0, lm1, lm2, lm3, lm4, lm5, lm6, lm7, lm8, lm9, asg_nm, asg_tp, asgs_nil, asgs_cons, Option.bind_some, Option.bind_none, Option.map_some, Option.map_none,
  Nat.reduceSub, Nat.reduceAdd, Nat.zero_add, Nat.add_zero, Nat.sub_self, if_true, if_false, reduceIte, Bool.false_eq_true, Bool.true_eq_false, Bool.not_true, Bool.not_false, ix_tup, ix_fz, at0, at1, at2, eDNew, eDGet, eDGet2, eDIn, eDPop, cDPut, cAugS, cSub2, dic_ref, keyOf, reduceCtorEq, and_self, Bool.and_self, decide_true, decide_false, List.append_assoc, List.length_append, Nat.add_assoc, at_new, at_newk, add_fz, add_rf, add_tt, ix_ref, seq_ref, list_ref, seq_tup, seq_fz, list_fz, ix_tup, ix_fz, neg_int, app_ref, set_newk, set_new0, iZ, iEn, sl_tup, sl_fz, eLcV, len_tup, len_ref, len_fz, tuple_fz, tuple_ref, ty_non, ty_bl, ty_int, ty_str, ty_tup, ty_fz])
local macro_rules | `(tactic| walk_at "fg") => `(tactic| try simp only [*, runB, cSeq, cNil, cRet, cRetN, cExpr, cIf, cSet, cAsg, cPar, cAug, cRaise, cStore, cPass, cWipe, wipeD, toS_ok, toS_exn, toS_stuck, Res.bd_ok, Res.bd_exn, Res.bd_stuck, Res.bdN_ok, Res.bdN_exn, Res.bdN_stuck,
  eVar, eC, eTup, eLst, eOp, eChain, eUn, eAnd, eOr, eNot, eIf, eRep, tTs, tAnd2, tOr2, tNot2, tTrue, eCall, eBi, eIsi, eMtL, eSl, oNo, oSo, lNil, lCons, iSeq, iRange1, iRange2, zAdd, zSub, zMul, zDiv, zMod, ofO, opInt, opIn, opNotIn, opEq, opNe, opIs, opIsnt, mk_t, mk_f,
  List.map_cons, List.map_nil, List.length_cons, List.length_nil, List.replicate, List.append_nil, List.nil_append, List.cons_append, List.getElem?_cons_zero, List.getElem?_cons_succ, List.getElem?_nil, List.set_cons_zero, List.set_cons_succ, List.set_nil, lm0, lm1, lm2, lm3, lm4, lm5, lm6, lm7, lm8, lm9, asg_nm, asg_tp, asgs_nil, asgs_cons, Option.bind_some, Option.bind_none, Option.map_some, Option.map_none,
  Nat.reduceSub, Nat.reduceAdd, Nat.zero_add, Nat.add_zero, Nat.sub_self, if_true, if_false, reduceIte, Bool.false_eq_true, Bool.true_eq_false, Bool.not_true, Bool.not_false, ix_tup, ix_fz, at0, at1, at2, eDNew, eDGet, eDGet2, eDIn, eDPop, cDPut, cAugS, cSub2, dic_ref, keyOf, reduceCtorEq, and_self, Bool.and_self, decide_true, decide_false, List.append_assoc, List.length_append, Nat.add_assoc, at_new, at_newk, add_fz, add_rf, add_tt, ix_ref, seq_ref, list_ref, seq_tup, seq_fz, list_fz, ix_tup, ix_fz, neg_int, app_ref, set_newk, set_new0, iZ, iEn, sl_tup, sl_fz, eLcV, len_tup, len_ref, len_fz, tuple_fz, tuple_ref, ty_non, ty_bl, ty_int, ty_str, ty_tup, ty_fz])
local macro_rules | `(tactic| walk_at "fs") => `(tactic| try simp [runB, cSeq, cNil, cRet, cRetN, cExpr, cIf, cSet, cAsg, cPar, cAug, cRaise, cStore, cPass, cWipe, wipeD, toS_ok, toS_exn, toS_stuck, Res.bd_ok, Res.bd_exn, Res.bd_stuck, Res.bdN_ok, Res.bdN_exn, Res.bdN_stuck,
  eVar, eC, eTup, eLst, eOp, eChain, eUn, eAnd, eOr, eNot, eIf, eRep, tTs, tAnd2, tOr2, tNot2, tTrue, eCall, eBi, eIsi, eMtL, eSl, oNo, oSo, lNil, lCons, iSeq, iRange1, iRange2, zAdd, zSub, zMul, zDiv, zMod, ofO, opInt, opIn, opNotIn, opEq, opNe, opIs, opIsnt, mk_t, mk_f,
  List.map_cons, List.map_nil, List.length_cons, List.length_nil, List.replicate, List.append_nil, List.nil_append, List.cons_append, List.getElem?_cons_zero, List.getElem?_cons_succ, List.getElem?_nil, List.set_cons_zero, List.set_cons_succ, List.set_nil, lm0, lm1, lm2, lm3, lm4, lm5, lm6, lm7, lm8, lm9, asg_nm, asg_tp, asgs_nil, asgs_cons, Option.bind_some, Option.bind_none, Option.map_some, Option.map_none,
  Nat.reduceSub, Nat.reduceAdd, Nat.zero_add, Nat.add_zero, Nat.sub_self, if_true, if_false, reduceIte, Bool.false_eq_true, Bool.true_eq_false, Bool.not_true, Bool.not_false, ix_tup, ix_fz, at0, at1, at2, eDNew, eDGet, eDGet2, eDIn, eDPop, cDPut, cAugS, cSub2, dic_ref, keyOf, reduceCtorEq, and_self, Bool.and_self, decide_true, decide_false, List.append_assoc, List.length_append, Nat.add_assoc, at_new, at_newk, add_fz, add_rf, add_tt, ix_ref, seq_ref, list_ref, seq_tup, seq_fz, list_fz, ix_tup, ix_fz, neg_int, app_ref, set_newk, set_new0, iZ, iEn, sl_tup, sl_fz, eLcV, len_tup, len_ref, len_fz, tuple_fz, tuple_ref, ty_non, ty_bl, ty_int, ty_str, ty_tup, ty_fz, isT, eqD_int, at0, at1])
local macro_rules | `(tactic| walk_at "fh") => `(tactic| try simp [*, runB, cSeq, cNil, cRet, cRetN, cExpr, cIf, cSet, cAsg, cPar, cAug, cRaise, cStore, cPass, cWipe, wipeD, toS_ok, toS_exn, toS_stuck, Res.bd_ok, Res.bd_exn, Res.bd_stuck, Res.bdN_ok, Res.bdN_exn, Res.bdN_stuck,
  eVar, eC, eTup, eLst, eOp, eChain, eUn, eAnd, eOr, eNot, eIf, eRep, tTs, tAnd2, tOr2, tNot2, tTrue, eCall, eBi, eIsi, eMtL, eSl, oNo, oSo, lNil, lCons, iSeq, iRange1, iRange2, zAdd, zSub, zMul, zDiv, zMod, ofO, opInt, opIn, opNotIn, opEq, opNe, opIs, opIsnt, mk_t, mk_f,
  List.map_cons, List.map_nil, List.length_cons, List.length_nil, List.replicate, List.append_nil, List.nil_append, List.cons_append, List.getElem?_cons_zero, List.getElem?_cons_succ, List.getElem?_nil, List.set_cons_zero, List.set_cons_succ, List.set_nil, lm0, lm1, lm2, lm3, lm4, lm5, lm6, lm7, lm8, lm9, asg_nm, asg_tp, asgs_nil, asgs_cons, Option.bind_some, Option.bind_none, Option.map_some, Option.map_none,
  Nat.reduceSub, Nat.reduceAdd, Nat.zero_add, Nat.add_zero, Nat.sub_self, if_true, if_false, reduceIte, Bool.false_eq_true, Bool.true_eq_false, Bool.not_true, Bool.not_false, ix_tup, ix_fz, at0, at1, at2, eDNew, eDGet, eDGet2, eDIn, eDPop, cDPut, cAugS, cSub2, dic_ref, keyOf, reduceCtorEq, and_self, Bool.and_self, decide_true, decide_false, List.append_assoc, List.length_append, Nat.add_assoc, at_new, at_newk, add_fz, add_rf, add_tt, ix_ref, seq_ref, list_ref, seq_tup, seq_fz, list_fz, ix_tup, ix_fz, neg_int, app_ref, set_newk, set_new0, iZ, iEn, sl_tup, sl_fz, eLcV, len_tup, len_ref, len_fz, tuple_fz, tuple_ref, ty_non, ty_bl, ty_int, ty_str, ty_tup, ty_fz, isT, eqD_int, at0, at1])
/-- the least of one and the number of cells, at most three -/
theorem laps_run {ns : List Dv} : ∃ M : Nat, 1 ≤ M ∧ M ≤ 3 ∧ ∀ (S : Sto) (ρ : Ev), ρ[0]? = some (some (.fz ns)) → iRange1 (lCons (eBi fMax2 (lCons (eC (.int 1)) (lCons (eBi fMin2 (lCons (eBi fLen (lCons (eVar 0) lNil)) (lCons (eC (.int 3)) lNil))) lNil))) lNil) ρ S = .ok (itRange 0 M) S := by
  obtain ⟨M, hM, h1, h3⟩ : ∃ M : Int, M = (if (if (3 : Int) < (ns.length : Int) then 3 else (ns.length : Int)) > 1 then (if (3 : Int) < (ns.length : Int) then 3 else (ns.length : Int)) else 1) ∧ 1 ≤ M ∧ M ≤ 3 := ⟨_, rfl, by split <;> omega, by split <;> split <;> omega⟩
  refine ⟨M.toNat, by omega, by omega, fun S ρ h => ?_⟩
  walk_at "fc"
  rw [h]
  walk_at "fc"
  rw [len_fz]
  walk_at "fc"
  simp only [fMin2]
  walk_at "fc"
  simp only [fMax2]
  walk_at "fc"
  rw [← hM, rngB_iff.mpr (by omega)]
  walk_at "fc"
theorem eqD_tupI (l m : List Int) (S : Sto) : eqD (tupI l) (tupI m) S = some (decide (l = m)) := by
  have h1 := flat_py (tupI_flat l) S
  have h2 := flat_py (tupI_flat m) S
  have e : eqD (tupI l) (tupI m) S = (match (tupI l).py S, (tupI m).py S with
    | some p, some q => if SeqAt.shaped p && SeqAt.shaped q then some (PyData.eqv p q) else none
    | _, _ => none) := rfl
  rw [e, h1, h2]
  simp only [shaped_tup, Bool.and_self, if_true, eqv_tupI]
theorem eqD_tups (l m : List (List Int)) (S : Sto) : eqD (.fz (l.map tupI)) (.fz (m.map tupI)) S = some (decide (l = m)) := by
  have f : ∀ l : List (List Int), (Dv.fz (l.map tupI)).py S = some (.list (l.map fun l => .tuple (l.map .int))) := fun l => flat_py (by
    simp only [Dv.flat, flats_map (f := tupI) (g := fun l => PyData.tuple (l.map .int)) l (fun l _ => tupI_flat l), Option.map_some]) S
  have key : ∀ l m : List (List Int), PyData.eqvAll (l.map fun l => .tuple (l.map .int)) (m.map fun l => .tuple (l.map .int)) = decide (l = m) := by
    intro l
    induction l with
    | nil => intro m; cases m <;> simp [PyData.eqvAll]
    | cons x l ih =>
      intro m
      cases m with
      | nil => simp [PyData.eqvAll]
      | cons y m =>
        simp only [List.map_cons, PyData.eqvAll, ih, eqv_tupI]
        by_cases h : x = y <;> simp [h]
  have e : ∀ x y : List Dv, eqD (.fz x) (.fz y) S = (match (Dv.fz x).py S, (Dv.fz y).py S with
    | some p, some q => if SeqAt.shaped p && SeqAt.shaped q then some (PyData.eqv p q) else none
    | _, _ => none) := fun _ _ => rfl
  rw [e, f, f]
  simp only [shaped_seen, Bool.and_self, if_true]
  simp only [PyData.eqv, key]
theorem shaped_ints (l : List Int) : SeqAt.shaped (.list (l.map .int)) = true := by
  have h1 : ∀ l : List Int, PyData.canLayAll0 (l.map .int) = true := by
    intro l
    induction l with
    | nil => rfl
    | cons x l ih => simp [PyData.canLayAll0, PyData.canLay0, ih]
  have h2 := depthAll_le (c := 1) (l.map PyData.int) (fun x hx => by
    obtain ⟨i, _, rfl⟩ := List.mem_map.mp hx
    simp [PyData.depth])
  have hd : (PyData.list (l.map .int)).depth ≤ 64 := by
    simp only [PyData.depth]
    omega
  simp [SeqAt.shaped, PyData.canLay0, h1, hd]
theorem eqD_ints (l m : List Int) (S : Sto) : eqD (.fz (l.map Dv.int)) (.fz (m.map Dv.int)) S = some (decide (l = m)) := by
  have f : ∀ l : List Int, (Dv.fz (l.map Dv.int)).py S = some (.list (l.map .int)) := fun l => flat_py (by
    simp only [Dv.flat, flats_int, Option.map_some]) S
  have e : ∀ x y : List Dv, eqD (.fz x) (.fz y) S = (match (Dv.fz x).py S, (Dv.fz y).py S with
    | some p, some q => if SeqAt.shaped p && SeqAt.shaped q then some (PyData.eqv p q) else none
    | _, _ => none) := fun _ _ => rfl
  rw [e, f, f]
  simp only [shaped_ints, Bool.and_self, if_true]
  simp only [PyData.eqv, eqvAll_ints]
/-! ### the chances -/
def q13 : Rat := ⟨1, 3, by decide, by decide⟩
def q23 : Rat := ⟨2, 3, by decide, by decide⟩
def q16 : Rat := ⟨1, 6, by decide, by decide⟩
def q12 : Rat := ⟨1, 2, by decide, by decide⟩
def q1 : Rat := ⟨1, 1, by decide, by decide⟩
def q0 : Rat := ⟨0, 1, by decide, by decide⟩
theorem chances_dec {qs : List Rat} (h : (decide (1 ≤ qs.length ∧ qs.length ≤ 6) && qs.all (fun q => decide (0 ≤ q.num)) && decide (sumR qs = 1) && decide (lcmD qs ≤ 30)) = true) : Chances qs := by
  simp only [Bool.and_eq_true, decide_eq_true_eq, List.all_eq_true] at h
  exact ⟨h.1.1.1, fun q hq => Rat.num_nonneg.mp (h.1.1.2 q hq), h.1.2, h.2⟩
def thA : List Rat := [q13, q23]
def thB : List Rat := [q23, q13]
theorem th_A : Chances thA := chances_dec (by decide +kernel)
theorem th_B : Chances thB := chances_dec (by decide +kernel)
def six : List Rat := [q16, q16, q16, q16, q16, q16]
theorem six_ok : Chances six := chances_dec (by decide +kernel)
/-! comprehensions over numbers of throws -/
section
variable {qs : List Rat} {s : Int} {ρ : Ev} {S : Sto}
theorem open_lc (h : Chances qs) (hs : 2 ≤ s ∧ s ≤ 6) {it : Itf} {i j : Nat} (xs : List Nat) {enc : Nat → Dv} (hit : Goes it S xs enc) (he : ∀ x ∈ xs, enc x = .int (x : Nat) ∧ x ≤ 60) (hl : xs.length ≤ 1000) (hi : ∀ d : Dv, (ρ.set j (some d))[i]? = some (some (chs qs))) (hj : j < ρ.length) :
    lcV it (.nm j) tTrue (eCall 3 r_least_open (lCons (eVar i) (lCons (eC (.int s)) (lCons (eVar j) lNil)))) ρ big 0 [] S = .ok (.fz ((xs.map (opn s qs)).map Dv.int)) S := by
  have lc := lcV_map (it := it) (tg := .nm j) (elt := eCall 3 r_least_open (lCons (eVar i) (lCons (eC (.int s)) (lCons (eVar j) lNil)))) (ρ := ρ) (S := S) xs enc (fun k => .int (opn s qs k)) hit (Nat.le_trans hl (by decide)) fun x hx => ⟨_, asg_nm _ _ _, by
    have hjj : (ρ.set j (some (enc x)))[j]? = some (some (enc x)) := List.getElem?_set_self hj
    walk_at "fc"
    rw [hi]
    walk_at "fc"
    rw [hjj]
    walk_at "fc"
    rw [(he x hx).1, least_open_run h hs (he x hx).2]⟩
  rw [lc, List.map_map]
  rfl
theorem best_lc (h : Chances qs) (hs : 2 ≤ s ∧ s ≤ 6) {it : Itf} {i j : Nat} (xs : List Nat) {enc : Nat → Dv} (hit : Goes it S xs enc) (he : ∀ x ∈ xs, enc x = .int (x : Nat) ∧ x ≤ 60) (hl : xs.length ≤ 1000) (hi : ∀ d : Dv, (ρ.set j (some d))[i]? = some (some (chs qs))) (hj : j < ρ.length) :
    lcV it (.nm j) tTrue (eCall 3 r_how_many_best (lCons (eVar i) (lCons (eC (.int s)) (lCons (eVar j) lNil)))) ρ big 0 [] S = .ok (.fz ((xs.map (hmb s qs)).map Dv.int)) S := by
  have lc := lcV_map (it := it) (tg := .nm j) (elt := eCall 3 r_how_many_best (lCons (eVar i) (lCons (eC (.int s)) (lCons (eVar j) lNil)))) (ρ := ρ) (S := S) xs enc (fun k => .int (hmb s qs k)) hit (Nat.le_trans hl (by decide)) fun x hx => ⟨_, asg_nm _ _ _, by
    have hjj : (ρ.set j (some (enc x)))[j]? = some (some (enc x)) := List.getElem?_set_self hj
    walk_at "fc"
    rw [hi]
    walk_at "fc"
    rw [hjj]
    walk_at "fc"
    rw [(he x hx).1, how_many_best_run h hs (he x hx).2]⟩
  rw [lc, List.map_map]
  rfl
theorem dig_lc (h : Chances qs) (hs : 2 ≤ s ∧ s ≤ 6) {it : Itf} {i j : Nat} (xs : List Nat) {enc : Nat → Dv} (hit : Goes it S xs enc) (he : ∀ x ∈ xs, enc x = .int (x : Nat) ∧ x ≤ 60) (hl : xs.length ≤ 1000) (hi : ∀ d : Dv, (ρ.set j (some d))[i]? = some (some (chs qs))) (hj : j < ρ.length) :
    lcV it (.nm j) tTrue (eCall 3 r_digits (lCons (eVar i) (lCons (eC (.int s)) (lCons (eVar j) lNil)))) ρ big 0 [] S = .ok (.fz ((xs.map fun k => qs.map (dgt s k)).map tupI)) S := by
  have lc := lcV_map (it := it) (tg := .nm j) (elt := eCall 3 r_digits (lCons (eVar i) (lCons (eC (.int s)) (lCons (eVar j) lNil)))) (ρ := ρ) (S := S) xs enc (fun k => tupI (qs.map (dgt s k))) hit (Nat.le_trans hl (by decide)) fun x hx => ⟨_, asg_nm _ _ _, by
    have hjj : (ρ.set j (some (enc x)))[j]? = some (some (enc x)) := List.getElem?_set_self hj
    walk_at "fc"
    rw [hi]
    walk_at "fc"
    rw [hjj]
    walk_at "fc"
    rw [(he x hx).1, digits_run h hs (he x hx).2]⟩
  rw [lc, List.map_map]
  rfl
end
theorem rng_enc (n : Nat) (hn : n ≤ 61) : ∀ x ∈ List.range n, Dv.int (0 + (x : Nat)) = .int (x : Nat) ∧ x ≤ 60 := fun x hx => ⟨by rw [Int.zero_add], by have := List.mem_range.mp hx; omega⟩
def rowsT : List (List Int) := [[0, 0], [0, 1], [1, 0], [0, 1], [1, 0]]
theorem rev_tupI (l : List Int) (S : Sto) : revD false (tupI l) S = some (tupI l.reverse, S) := by
  simp [revD, tupI]
noncomputable def b_law_thirds_right : DS :=
 (cSeq (cSet 1 (eOp opIx (eLst false (lCons (eTup (lCons (eTup (lCons (eC (.int 1)) (lCons (eC (.int 3)) lNil))) (lCons (eTup (lCons (eC (.int 2)) (lCons (eC (.int 3)) lNil))) lNil))) (lCons (eTup (lCons (eTup (lCons (eC (.int 2)) (lCons (eC (.int 3)) lNil))) (lCons (eTup (lCons (eC (.int 1)) (lCons (eC (.int 3)) lNil))) lNil))) lNil))) (eVar 0)))
 (cSeq (cSet 2 (eLst false (lCons (eTup (lCons (eC (.int 0)) (lCons (eC (.int 0)) lNil))) (lCons (eTup (lCons (eC (.int 0)) (lCons (eC (.int 1)) lNil))) (lCons (eTup (lCons (eC (.int 1)) (lCons (eC (.int 0)) lNil))) (lCons (eTup (lCons (eC (.int 0)) (lCons (eC (.int 1)) lNil))) (lCons (eTup (lCons (eC (.int 1)) (lCons (eC (.int 0)) lNil))) lNil)))))))
 (cSeq (cIf (tTs (eOp opNe (eLcV (iRange1 (lCons (eC (.int 5)) lNil)) (.nm 3) tTrue (eCall 3 r_digits (lCons (eVar 1) (lCons (eC (.int 2)) (lCons (eVar 3) lNil)))) [3]) (eLcV (iSeq (eVar 2)) (.nm 4) tTrue (eIf (tTs (eOp opEq (eVar 0) (eC (.int 0)))) (eVar 4) (eRev false (eVar 4))) [4])))
 (cSeq (cRet (eC (.bl false)))
 cNil)
 cNil)
 (cSeq (cIf (tTs (eOp opNe (eLcV (iRange1 (lCons (eC (.int 4)) lNil)) (.nm 5) tTrue (eCall 3 r_least_open (lCons (eVar 1) (lCons (eC (.int 2)) (lCons (eVar 5) lNil)))) [5]) (eLst false (lCons (eC (.int 1)) (lCons (eC (.int 1)) (lCons (eC (.int 1)) (lCons (eC (.int 1)) lNil)))))))
 (cSeq (cRet (eC (.bl false)))
 cNil)
 cNil)
 (cSeq (cIf (tTs (eOp opNe (eLcV (iRange1 (lCons (eC (.int 4)) lNil)) (.nm 5) tTrue (eCall 3 r_how_many_best (lCons (eVar 1) (lCons (eC (.int 2)) (lCons (eVar 5) lNil)))) [5]) (eLst false (lCons (eC (.int 1)) (lCons (eC (.int 2)) (lCons (eC (.int 4)) (lCons (eC (.int 8)) lNil)))))))
 (cSeq (cRet (eC (.bl false)))
 cNil)
 cNil)
 (cSeq (cIf (tOr2 (tTs (eOp opNe (eCall 2 r_least_expected (lCons (eVar 1) (lCons (eC (.int 2)) lNil))) (eTup (lCons (eC (.int 2)) (lCons (eC (.int 1)) lNil))))) (tTs (eOp opNe (eCall 2 r_least_expected (lCons (eVar 1) (lCons (eC (.int 3)) lNil))) (eTup (lCons (eC (.int 1)) (lCons (eC (.int 1)) lNil))))))
 (cSeq (cRet (eC (.bl false)))
 cNil)
 cNil)
 (cSeq (cRet (eOp opEq (eLcV (iSeq (eTup (lCons (eC (.int 0)) (lCons (eC (.int 1)) (lCons (eC (.int 9)) lNil))))) (.nm 5) tTrue (eCall 3 r_how_many_best (lCons (eVar 1) (lCons (eC (.int 3)) (lCons (eVar 5) lNil)))) [5]) (eLst false (lCons (eC (.int 1)) (lCons (eC (.int 3)) (lCons (eC (.int 3)) lNil))))))
 cNil)))))))
noncomputable def r_law_thirds_right : Den := runF 6 b_law_thirds_right
theorem thirds_run (t : Bool) (S : Sto) : r_law_thirds_right [.int (if t then 1 else 0)] S = .ok (.bl true) S := by
  obtain ⟨qs, hqs⟩ : ∃ qs, qs = if t then thB else thA := ⟨_, rfl⟩
  have h : Chances qs := by
    rw [hqs]
    cases t
    · exact th_A
    · exact th_B
  have s2 : (2 : Int) ≤ 2 ∧ (2 : Int) ≤ 6 := by decide
  have s3 : (2 : Int) ≤ 3 ∧ (3 : Int) ≤ 6 := by decide
  have f1 : ((List.range 5).map fun k => qs.map (dgt 2 k)) = rowsT.map (fun r => if t then r.reverse else r) := by
    rw [hqs]
    cases t <;> decide +kernel
  have f2 : (List.range 4).map (opn 2 qs) = [1, 1, 1, 1] := by
    rw [hqs]
    cases t <;> decide +kernel
  have f3 : (List.range 4).map (hmb 2 qs) = [1, 2, 4, 8] := by
    rw [hqs]
    cases t <;> decide +kernel
  have f4 : lexp 2 qs = 2 := by
    rw [hqs]
    cases t <;> decide +kernel
  have f5 : lexp 3 qs = 1 := by
    rw [hqs]
    cases t <;> decide +kernel
  have f6 : [0, 1, 9].map (hmb 3 qs) = [1, 3, 3] := by
    rw [hqs]
    cases t <;> decide +kernel
  obtain ⟨v, hv⟩ : ∃ v : Int, v = if t then 1 else 0 := ⟨_, rfl⟩
  rw [← hv]
  let ρ1 : Ev := [some (.int v), some (chs qs), some (.fz (rowsT.map tupI)), none, none, none]
  have lc1 := dig_lc (ρ := ρ1) (S := S) h s2 (i := 1) (j := 3) (List.range 5) (goes_range 0 5) (rng_enc 5 (by decide)) (by decide) (fun _ => rfl) (by simp [ρ1])
  have lc2 := open_lc (ρ := ρ1) (S := S) h s2 (i := 1) (j := 5) (List.range 4) (goes_range 0 4) (rng_enc 4 (by decide)) (by decide) (fun _ => rfl) (by simp [ρ1])
  have lc3 := best_lc (ρ := ρ1) (S := S) h s2 (i := 1) (j := 5) (List.range 4) (goes_range 0 4) (rng_enc 4 (by decide)) (by decide) (fun _ => rfl) (by simp [ρ1])
  have lc4 := best_lc (ρ := ρ1) (S := S) h s3 (i := 1) (j := 5) [0, 1, 9] (goes_tup [0, 1, 9] fun k : Nat => Dv.int (k : Nat)) (by simp) (by decide) (fun _ => rfl) (by simp [ρ1])
  have lc0 := lcV_map (it := itSeq (.fz (rowsT.map tupI))) (tg := .nm 4) (elt := eIf (tTs (eOp opEq (eVar 0) (eC (.int 0)))) (eVar 4) (eRev false (eVar 4))) (ρ := ρ1) (S := S) rowsT tupI (fun r => tupI (if t then r.reverse else r)) (goes_fz rowsT tupI) (by decide) fun r _ => ⟨_, rfl, by
    simp only [ρ1]
    cases t
    · simp only [Bool.false_eq_true, if_false] at hv ⊢
      subst hv
      simp only [eIf]
      walk_at "fc"
      rw [eqD_int]
      walk_at "fc"
      simp
    · simp only [if_true] at hv ⊢
      subst hv
      simp only [eIf, eRev]
      walk_at "fc"
      rw [eqD_int]
      walk_at "fc"
      simp [rev_tupI]⟩
  rw [f1] at lc1
  rw [f2] at lc2
  rw [f3] at lc3
  rw [f6] at lc4
  rw [show (rowsT.map fun r => tupI (if t then r.reverse else r)) = (rowsT.map fun r => if t then r.reverse else r).map tupI from by rw [List.map_map]; rfl] at lc0
  have r5 : rngB 5 = true := rngB_iff.mpr (by omega)
  have r4 : rngB 4 = true := rngB_iff.mpr (by omega)
  refine f_val0 (ρ0 := [some (.int v), none, none, none, none, none]) rfl ?_ rfl
  unfold b_law_thirds_right
  refine seq_go (set_go (d := chs qs) (S1 := S) ?_) (seq_go (set_go (d := .fz (rowsT.map tupI)) (S1 := S) ?_) (seq_go (ρ1 := ρ1) (if_f (S1 := S) ?_ nil_go) (seq_go (ρ1 := ρ1) (if_f (S1 := S) ?_ nil_go) (seq_go (ρ1 := ρ1) (if_f (S1 := S) ?_ nil_go) (seq_go (ρ1 := ρ1) (if_f (S1 := S) ?_ nil_go) (seq_rt (ret_go ?_)))))))
  · rw [hqs, hv]
    cases t
    · walk_at "fc"
      rfl
    · walk_at "fc"
      rfl
  · walk_at "fc"
    rfl
  · walk_at "fc"
    simp only [eLcV]
    walk_at "fc"
    rw [r5]
    walk_at "fc"
    rw [show (5 : Int).toNat = 5 from rfl, lc1]
    walk_at "fc"
    rw [seq_fz]
    walk_at "fc"
    rw [lc0]
    walk_at "fc"
    rw [eqD_tups]
    walk_at "fc"
    simp
  · simp only [ρ1] at lc2 ⊢
    walk_at "fc"
    simp only [eLcV]
    walk_at "fc"
    rw [r4]
    walk_at "fc"
    rw [show (4 : Int).toNat = 4 from rfl, lc2]
    walk_at "fc"
    rw [show [Dv.int 1, .int 1, .int 1, .int 1] = ([1, 1, 1, 1] : List Int).map Dv.int from rfl, eqD_ints]
    walk_at "fc"
    simp
  · simp only [ρ1] at lc3 ⊢
    walk_at "fc"
    simp only [eLcV]
    walk_at "fc"
    rw [r4]
    walk_at "fc"
    rw [show (4 : Int).toNat = 4 from rfl, lc3]
    walk_at "fc"
    rw [show [Dv.int 1, .int 2, .int 4, .int 8] = ([1, 2, 4, 8] : List Int).map Dv.int from rfl, eqD_ints]
    walk_at "fc"
    simp
  · simp only [ρ1]
    walk_at "fc"
    rw [least_expected_run h s2, f4]
    walk_at "fc"
    rw [show Dv.tup [.int 2, .int 1] = fr 2 from rfl, eqD_fr]
    walk_at "fc"
    simp only [decide_true]
    walk_at "fc"
    rw [least_expected_run h s3, f5]
    walk_at "fc"
    rw [show Dv.tup [.int 1, .int 1] = fr 1 from rfl, eqD_fr]
    walk_at "fc"
    simp
  · simp only [ρ1] at lc4 ⊢
    walk_at "fc"
    simp only [eLcV]
    walk_at "fc"
    rw [seq_tup]
    walk_at "fc"
    rw [show itSeq (.tup [.int 0, .int 1, .int 9]) = itSeq (.tup ([0, 1, 9].map fun k : Nat => Dv.int (k : Nat))) from rfl, lc4]
    walk_at "fc"
    rw [show [Dv.int 1, .int 3, .int 3] = ([1, 3, 3] : List Int).map Dv.int from rfl, eqD_ints]
    walk_at "fc"
    simp
noncomputable def b_law_six_right : DS :=
 (cSeq (cSet 0 (eOp (opMul false) (eTup (lCons (eTup (lCons (eC (.int 1)) (lCons (eC (.int 6)) lNil))) lNil)) (eC (.int 6))))
 (cSeq (cIf (tTs (eOp opNe (eLcV (iRange1 (lCons (eC (.int 6)) lNil)) (.nm 1) tTrue (eCall 3 r_least_open (lCons (eVar 0) (lCons (eC (.int 2)) (lCons (eVar 1) lNil)))) [1]) (eLst false (lCons (eC (.int 1)) (lCons (eC (.int 2)) (lCons (eC (.int 4)) (lCons (eC (.int 2)) (lCons (eC (.int 4)) (lCons (eC (.int 2)) lNil)))))))))
 (cSeq (cRet (eC (.bl false)))
 cNil)
 cNil)
 (cSeq (cIf (tOr2 (tTs (eOp opNe (eCall 2 r_least_expected (lCons (eVar 0) (lCons (eC (.int 2)) lNil))) (eTup (lCons (eC (.int 11)) (lCons (eC (.int 3)) lNil))))) (tTs (eOp opNe (eCall 2 r_least_expected (lCons (eVar 0) (lCons (eC (.int 6)) lNil))) (eTup (lCons (eC (.int 1)) (lCons (eC (.int 1)) lNil))))))
 (cSeq (cRet (eC (.bl false)))
 cNil)
 cNil)
 (cSeq (cRet (eAnd (eOp opEq (eCall 3 r_how_many_best (lCons (eVar 0) (lCons (eC (.int 6)) (lCons (eC (.int 1)) lNil)))) (eC (.int 720))) (eOp opEq (eCall 3 r_digits (lCons (eVar 0) (lCons (eC (.int 2)) (lCons (eC (.int 3)) lNil)))) (eTup (lCons (eC (.int 1)) (lCons (eC (.int 1)) (lCons (eC (.int 1)) (lCons (eC (.int 1)) (lCons (eC (.int 1)) (lCons (eC (.int 1)) lNil))))))))))
 cNil))))
noncomputable def r_law_six_right : Den := runF 2 b_law_six_right
theorem eqD_fr' (p : Rat) (a b : Int) {q : Rat} (h : Dv.tup [.int a, .int b] = fr q) (S : Sto) : eqD (fr p) (.tup [.int a, .int b]) S = some (decide (p = q)) := by rw [h, eqD_fr]
theorem six_run (S : Sto) : r_law_six_right [] S = .ok (.bl true) S := by
  have h := six_ok
  have s2 : (2 : Int) ≤ 2 ∧ (2 : Int) ≤ 6 := by decide
  have s6 : (2 : Int) ≤ 6 ∧ (6 : Int) ≤ 6 := by decide
  have f2 : (List.range 6).map (opn 2 six) = [1, 2, 4, 2, 4, 2] := by decide +kernel
  have f4 : lexp 2 six = mkRat 11 3 := by decide +kernel
  have f5 : lexp 6 six = 1 := by decide +kernel
  have f6 : hmb 6 six 1 = 720 := by decide +kernel
  have f7 : six.map (dgt 2 3) = [1, 1, 1, 1, 1, 1] := by decide +kernel
  have r6 : rngB 6 = true := rngB_iff.mpr (by omega)
  have lc2 := open_lc (ρ := [some (chs six), none]) (S := S) h s2 (i := 0) (j := 1) (List.range 6) (goes_range 0 6) (rng_enc 6 (by decide)) (by decide) (fun _ => rfl) (by simp)
  rw [f2] at lc2
  refine f_val0 (ρ0 := [none, none]) rfl ?_ rfl
  unfold b_law_six_right
  refine seq_go (set_go (d := chs six) (S1 := S) ?_) (seq_go (if_f (S1 := S) ?_ nil_go) (seq_go (if_f (S1 := S) ?_ nil_go) (seq_rt (ret_go ?_))))
  · walk_at "fc"
    rfl
  · walk_at "fc"
    simp only [eLcV]
    walk_at "fc"
    rw [r6]
    walk_at "fc"
    rw [show (6 : Int).toNat = 6 from rfl, lc2]
    walk_at "fc"
    rw [show [Dv.int 1, .int 2, .int 4, .int 2, .int 4, .int 2] = ([1, 2, 4, 2, 4, 2] : List Int).map Dv.int from rfl, eqD_ints]
    walk_at "fc"
    simp
  · walk_at "fc"
    rw [least_expected_run h s2, f4]
    walk_at "fc"
    rw [eqD_fr' (q := mkRat 11 3) _ _ _ (by rw [fr]; congr 3 <;> decide +kernel)]
    walk_at "fc"
    simp only [decide_true]
    walk_at "fc"
    rw [least_expected_run h s6, f5]
    walk_at "fc"
    rw [show Dv.tup [.int 1, .int 1] = fr 1 from rfl, eqD_fr]
    walk_at "fc"
    simp
  · walk_at "fc"
    rw [show (.int 1 : Dv) = .int ((1 : Nat) : Int) from rfl, how_many_best_run h s6 (by decide), f6]
    walk_at "fc"
    rw [eqD_int]
    walk_at "fc"
    simp only [decide_true]
    walk_at "fc"
    rw [show (.int 3 : Dv) = .int ((3 : Nat) : Int) from rfl, digits_run h s2 (by decide), f7]
    walk_at "fc"
    rw [show Dv.tup [.int ((1 : Nat) : Int), .int ((1 : Nat) : Int), .int ((1 : Nat) : Int), .int ((1 : Nat) : Int), .int ((1 : Nat) : Int), .int ((1 : Nat) : Int)] = tupI [1, 1, 1, 1, 1, 1] from rfl, eqD_tupI]
    walk_at "fc"
    simp
noncomputable def b_law_sure_right_L1 : DS :=
 (cSeq (cSet 1 (eLcV (iSeq (eTup (lCons (eC (.int 0)) (lCons (eC (.int 1)) (lCons (eC (.int 60)) lNil))))) (.nm 3) tTrue (eCall 3 r_least_open (lCons (eVar 0) (lCons (eC (.int 4)) (lCons (eVar 3) lNil)))) [3]))
 (cSeq (cIf (tOr2 (tTs (eOp opNe (eVar 1) (eLst false (lCons (eC (.int 0)) (lCons (eC (.int 0)) (lCons (eC (.int 0)) lNil)))))) (tOr2 (tTs (eOp opNe (eCall 2 r_least_expected (lCons (eVar 0) (lCons (eC (.int 4)) lNil))) (eTup (lCons (eC (.int 0)) (lCons (eC (.int 1)) lNil))))) (tTs (eOp opNe (eCall 3 r_how_many_best (lCons (eVar 0) (lCons (eC (.int 4)) (lCons (eC (.int 5)) lNil)))) (eC (.int 1))))))
 (cSeq (cRet (eC (.bl false)))
 cNil)
 cNil)
 (cSeq (cIf (tOr2 (tTs (eOp opNe (eCall 3 r_digits (lCons (eVar 0) (lCons (eC (.int 4)) (lCons (eC (.int 0)) lNil)))) (eBi fTuple (lCons (eLcV (iSeq (eVar 0)) (.tp [(.nm 4), (.nm 5)]) tTrue (eVar 4) [4, 5]) lNil)))) (tTs (eOp opIsnt (eCall 1 r_is_chances (lCons (eVar 0) lNil)) (eC (.bl true)))))
 (cSeq (cRet (eC (.bl false)))
 cNil)
 cNil)
 (cWipe [0, 1]))))
noncomputable def b_law_sure_right : DS :=
 (cSeq (cFor (iSeq (eTup (lCons (eTup (lCons (eTup (lCons (eC (.int 1)) (lCons (eC (.int 1)) lNil))) lNil)) (lCons (eTup (lCons (eTup (lCons (eC (.int 0)) (lCons (eC (.int 1)) lNil))) (lCons (eTup (lCons (eC (.int 1)) (lCons (eC (.int 1)) lNil))) lNil))) (lCons (eTup (lCons (eTup (lCons (eC (.int 1)) (lCons (eC (.int 1)) lNil))) (lCons (eTup (lCons (eC (.int 0)) (lCons (eC (.int 1)) lNil))) (lCons (eTup (lCons (eC (.int 0)) (lCons (eC (.int 1)) lNil))) lNil)))) lNil))))) (.nm 0) b_law_sure_right_L1)
 (cSeq (cSet 2 (eTup (lCons (eTup (lCons (eC (.int 1)) (lCons (eC (.int 2)) lNil))) (lCons (eTup (lCons (eC (.int 0)) (lCons (eC (.int 1)) lNil))) (lCons (eTup (lCons (eC (.int 1)) (lCons (eC (.int 2)) lNil))) lNil)))))
 (cSeq (cIf (tOr2 (tTs (eOp opNe (eCall 3 r_digits (lCons (eVar 2) (lCons (eC (.int 2)) (lCons (eC (.int 1)) lNil)))) (eTup (lCons (eC (.int 1)) (lCons (eC (.int 0)) (lCons (eC (.int 1)) lNil)))))) (tTs (eOp opNe (eCall 3 r_digits (lCons (eVar 2) (lCons (eC (.int 2)) (lCons (eC (.int 2)) lNil)))) (eTup (lCons (eC (.int 0)) (lCons (eC (.int 0)) (lCons (eC (.int 0)) lNil)))))))
 (cSeq (cRet (eC (.bl false)))
 cNil)
 cNil)
 (cSeq (cRet (eAnd (eOp opEq (eCall 2 r_least_expected (lCons (eVar 2) (lCons (eC (.int 2)) lNil))) (eTup (lCons (eC (.int 1)) (lCons (eC (.int 1)) lNil)))) (eOp opEq (eCall 2 r_least_expected (lCons (eVar 2) (lCons (eC (.int 3)) lNil))) (eTup (lCons (eC (.int 3)) (lCons (eC (.int 2)) lNil))))))
 cNil))))
noncomputable def r_law_sure_right : Den := runF 6 b_law_sure_right
def sures : List (List Rat) := [[q1], [q0, q1], [q1, q0, q0]]
def halves : List Rat := [q12, q0, q12]
theorem halves_ok : Chances halves := chances_dec (by decide +kernel)
theorem sures_ok : ∀ qs ∈ sures, Chances qs := by
  intro qs h
  simp only [sures, List.mem_cons, List.not_mem_nil, or_false] at h
  rcases h with rfl | rfl | rfl <;> exact chances_dec (by decide +kernel)
theorem sures_facts : ∀ qs ∈ sures, [0, 1, 60].map (opn 4 qs) = [0, 0, 0] ∧ lexp 4 qs = 0 ∧ hmb 4 qs 5 = 1 ∧ qs.map (dgt 4 0) = qs.map (·.num) := by decide +kernel
theorem sure_run (S : Sto) : r_law_sure_right [] S = .ok (.bl true) S := by
  have s4 : (2 : Int) ≤ 4 ∧ (4 : Int) ≤ 6 := by decide
  have s2 : (2 : Int) ≤ 2 ∧ (2 : Int) ≤ 6 := by decide
  have s3 : (2 : Int) ≤ 3 ∧ (3 : Int) ≤ 6 := by decide
  have loop := for_same (it := itSeq (.tup (sures.map chs))) (tg := .nm 0) (b := b_law_sure_right_L1) (ρ := [none, none, none, none, none, none]) (S := S) sures chs (goes_tup sures chs) (by decide) (by
    intro qs hq
    have h := sures_ok qs hq
    obtain ⟨f1, f2, f3, f4⟩ := sures_facts qs hq
    have lc := open_lc (ρ := [some (chs qs), none, none, none, none, none]) (S := S) h s4 (i := 0) (j := 3) [0, 1, 60] (goes_tup [0, 1, 60] fun k : Nat => Dv.int (k : Nat)) (by simp) (by decide) (fun _ => rfl) (by simp)
    obtain ⟨told, ht⟩ : ∃ told, told = Dv.fz (([0, 0, 0] : List Int).map Dv.int) := ⟨_, rfl⟩
    have lc2 := lcV_map (it := itSeq (chs qs)) (tg := .tp [.nm 4, .nm 5]) (elt := eVar 4) (ρ := [some (chs qs), some told, none, none, none, none]) (S := S) qs fr (fun q => .int q.num) (goes_tup qs fr) h.lim fun q hq => ⟨_, rfl, rfl⟩
    rw [f1, ← ht] at lc
    refine ⟨_, rfl, ?_⟩
    unfold b_law_sure_right_L1
    refine seq_go (set_go (d := told) (S1 := S) ?_) (seq_go (if_f (S1 := S) ?_ nil_go) (seq_go (if_f (S1 := S) ?_ nil_go) ?_))
    · walk_at "fc"
      simp only [eLcV]
      walk_at "fc"
      rw [seq_tup]
      walk_at "fc"
      rw [show itSeq (.tup [.int 0, .int 1, .int 60]) = itSeq (.tup ([0, 1, 60].map fun k : Nat => Dv.int (k : Nat))) from rfl, lc]
    · walk_at "fc"
      rw [show [Dv.int 0, .int 0, .int 0] = ([0, 0, 0] : List Int).map Dv.int from rfl, ht, eqD_ints]
      walk_at "fc"
      simp only [decide_true]
      walk_at "fc"
      rw [least_expected_run h s4, f2]
      walk_at "fc"
      rw [show Dv.tup [.int 0, .int 1] = fr 0 from rfl, eqD_fr]
      walk_at "fc"
      simp only [decide_true]
      walk_at "fc"
      rw [show (.int 5 : Dv) = .int ((5 : Nat) : Int) from rfl, how_many_best_run h s4 (by decide), f3]
      walk_at "fc"
      rw [eqD_int]
      walk_at "fc"
      simp
    · walk_at "fc"
      rw [show (.int 0 : Dv) = .int ((0 : Nat) : Int) from rfl, digits_run h s4 (by decide), f4]
      walk_at "fc"
      simp only [eLcV]
      walk_at "fc"
      rw [show seqOf S (chs qs) = some (qs.map fr) from rfl]
      walk_at "fc"
      rw [lc2]
      walk_at "fc"
      rw [tuple_fz]
      walk_at "fc"
      rw [show (Dv.tup (qs.map fun q => .int q.num)) = tupI (qs.map (·.num)) from by rw [tupI, List.map_map]; rfl, eqD_tupI]
      walk_at "fc"
      simp only [decide_true]
      walk_at "fc"
      rw [is_chances_run (h.okC S), isCh_chs h]
      walk_at "fc"
      simp [isD]
    · walk_at "fc")
  have h := halves_ok
  have g1 : halves.map (dgt 2 1) = [1, 0, 1] := by decide +kernel
  have g2 : halves.map (dgt 2 2) = [0, 0, 0] := by decide +kernel
  have g3 : lexp 2 halves = 1 := by decide +kernel
  have g4 : lexp 3 halves = mkRat 3 2 := by decide +kernel
  refine f_val0 (ρ0 := [none, none, none, none, none, none]) rfl ?_ rfl
  unfold b_law_sure_right
  refine seq_go (for_go (it := itSeq (.tup (sures.map chs))) (S1 := S) ?_ loop) (seq_go (set_go (d := chs halves) (S1 := S) ?_) (seq_go (if_f (S1 := S) ?_ nil_go) (seq_rt (ret_go ?_))))
  · walk_at "fc"
    rfl
  · walk_at "fc"
    rfl
  · walk_at "fc"
    rw [show (.int 1 : Dv) = .int ((1 : Nat) : Int) from rfl, digits_run h s2 (by decide), g1]
    walk_at "fc"
    rw [show Dv.tup [.int ((1 : Nat) : Int), .int 0, .int ((1 : Nat) : Int)] = tupI [1, 0, 1] from rfl, eqD_tupI]
    walk_at "fc"
    simp only [decide_true]
    walk_at "fc"
    rw [show r_digits [chs halves, .int 2, .int 2] S = r_digits [chs halves, .int 2, .int ((2 : Nat) : Int)] S from rfl, digits_run h s2 (by decide), g2]
    walk_at "fc"
    rw [show Dv.tup [.int 0, .int 0, .int 0] = tupI [0, 0, 0] from rfl, eqD_tupI]
    walk_at "fc"
    simp
  · walk_at "fc"
    rw [least_expected_run h s2, g3]
    walk_at "fc"
    rw [show Dv.tup [.int 1, .int 1] = fr 1 from rfl, eqD_fr]
    walk_at "fc"
    simp only [decide_true]
    walk_at "fc"
    rw [least_expected_run h s3, g4]
    walk_at "fc"
    rw [eqD_fr' (q := mkRat 3 2) _ _ _ (by rw [fr]; congr 3 <;> decide +kernel)]
    walk_at "fc"
    simp
noncomputable def b_law_L1 : DS :=
 (cSeq (cIf (tNot2 (tTs (eCall 1 r_law_thirds_right (lCons (eCall 2 r_law_draw (lCons (eCall 1 r_law_pen (lCons (eCall 2 r_law_cell_at (lCons (eVar 0) (lCons (eVar 1) lNil))) lNil)) (lCons (eC (.int 2)) lNil))) lNil))))
 (cSeq (cRet (eC (.bl false)))
 cNil)
 cNil)
 (cWipe [1]))
noncomputable def b_law : DS :=
 (cSeq (cFor (iRange1 (lCons (eBi fMax2 (lCons (eC (.int 1)) (lCons (eBi fMin2 (lCons (eBi fLen (lCons (eVar 0) lNil)) (lCons (eC (.int 3)) lNil))) lNil))) lNil)) (.nm 1) b_law_L1)
 (cSeq (cRet (eAnd (fun _ S => r_law_six_right [] S) (fun _ S => r_law_sure_right [] S)))
 cNil))
noncomputable def r_law : Den := runF 2 b_law
theorem k06_cell {S : Sto} {ns : List Int} {k : Nat} : ∃ p2 : Pen, b_law_L1 [some (.fz (ns.map Dv.int)), some (.int (k : Nat))] S = .ok (.nx [some (.fz (ns.map Dv.int)), none]) (S ++ [p2.ob]) := by
  have hp := penB0 (ns[k]?.getD 0)
  have e2 : r_law_draw [.ref S.length, .int 2] (S ++ [(pen0 (ns[k]?.getD 0)).ob]) = .ok (.int (draw (pen0 (ns[k]?.getD 0)) 2).1) (S ++ [(draw (pen0 (ns[k]?.getD 0)) 2).2.ob]) := by
    rw [law_draw_run (p := pen0 (ns[k]?.getD 0)) (by simp) hp (by decide) (by decide) (by decide)]
    simp
  have hv := draw_lt (pen0 (ns[k]?.getD 0)) (m := 2) (by decide)
  refine ⟨(draw (pen0 (ns[k]?.getD 0)) 2).2, ?_⟩
  generalize (draw (pen0 (ns[k]?.getD 0)) 2).2 = p2 at *
  generalize (draw (pen0 (ns[k]?.getD 0)) 2).1 = v at *
  have e3 : r_law_thirds_right [.int v] (S ++ [p2.ob]) = .ok (.bl true) (S ++ [p2.ob]) := by
    rcases (by omega : v = 0 ∨ v = 1) with rfl | rfl
    · exact thirds_run false _
    · exact thirds_run true _
  unfold b_law_L1
  refine seq_go (if_f (S1 := S ++ [p2.ob]) ?_ nil_go) ?_
  · walk_at "fc"
    rw [law_cell_at_run _ _ (by simp [Dv.plain])]
    walk_at "fc"
    have : (ns.map Dv.int)[k]?.getD (.int 0) = .int (ns[k]?.getD 0) := by
      rw [List.getElem?_map]
      cases ns[k]? <;> rfl
    rw [this, law_pen_run]
    walk_at "fc"
    rw [e2]
    walk_at "fc"
    rw [e3]
    walk_at "fc"
  · walk_at "fc"
theorem says_law : Says r_law := by
  intro ns hl _
  refine ⟨[], ?_⟩
  obtain ⟨M, h1, h3, hit⟩ := laps_run (ns := ns.map Dv.int)
  have key : ∃ o S', forL (itRange 0 M) (.nm 1) b_law_L1 big 0 [some (.fz (ns.map Dv.int)), none] [] = .ok o S' ∧ o = .nx [some (.fz (ns.map Dv.int)), none] := by
    refine forL_run (N := M) (fun j ρ S1 => ρ = [some (.fz (ns.map Dv.int)), none]) _ ?_ ?_ big 0 _ _ (Nat.zero_le _) ?_ rfl
    · rintro j ρ S1 hj rfl
      obtain ⟨p2, e⟩ := k06_cell (S := S1) (ns := ns) (k := j)
      rw [← Int.zero_add (j : Int)] at e
      exact ⟨_, _, by simp only [itRange, hj, if_true], rfl, _, _, e, rfl⟩
    · rintro ρ S1 rfl
      exact ⟨by simp [itRange], rfl⟩
    · rw [big_eq]
      omega
  obtain ⟨o, S', e, rfl⟩ := key
  refine f_val (G := S') rfl ?_ rfl
  unfold b_law
  refine seq_go (for_go (it := itRange 0 M) (S1 := []) (hit _ _ rfl) e) (seq_rt (ret_go ?_))
  walk_at "fc"
  rw [six_run]
  walk_at "fc"
  rw [sure_run]
end Fc

set_option exponentiation.threshold 256
set_option maxHeartbeats 4000000
set_option maxHeartbeats 4000000
/-! FcHook: what the top has written, by one kernel run. -/
namespace Fc
open PySem L2
/-- the errors, by number -/
def excNm : Nat → Str
  | 0 => "SidesError" | 1 => "ThrowsError" | 2 => "ChancesError" | 3 => "OutcomeError" | 4 => "TableError" | 5 => "WordError" | 6 => "SidesDifferError" | 7 => "SideError" | 8 => "DecidedError" | 9 => "NothingThrownError" | 10 => "TextError" | 11 => "ChoiceError" | _ => "ValueError"
def excA (K : PySem.W.Frag) (n : Nat) : Addr := He.ga K (excNm n)
theorem clsA_ga (K : PySem.W.Frag) (c : Nat) : clsA K c = He.ga K (clsNm c) := rfl
def mA (x m : Str) (K : PySem.W.Frag) : Addr := He.ma K (He.ga K x) m
def gA (x : Str) (K : PySem.W.Frag) : Addr := He.ga K x
/-- the getter of the property f of the class x -/
def pA (x f : Str) (K : PySem.W.Frag) : Addr := match PySem.W.recIn K (mA x f K) "property" with
  | some (.ref g :: _) => g
  | _ => 0
abbrev FaX := PySem.W.Frag → Bool
def faProp (x f : Str) : FaX := fun K => He.eqO (PySem.W.findIn K (.ref (He.ga K x)) f) (some (some (.ref (mA x f K)))) && (He.eqO (PySem.W.specialIn K (.ref (mA x f K)) "__get__") (some (some (.builtin "property.__get__"))) && (decide (PySem.W.takesIn K (.ref (mA x f K)) = some true) &&
  (match PySem.W.recIn K (mA x f K) "property" with
  | some (.ref g :: _) => true
  | _ => false)))
theorem prop_ok {K : PySem.W.Frag} {x f : Str} (h : faProp x f K = true) : PropOf K (He.ga K x) f (mA x f K) (pA x f K) := by
  unfold faProp at h
  obtain ⟨h1, h⟩ := He.ba h
  obtain ⟨h2, h⟩ := He.ba h
  obtain ⟨h3, h4⟩ := He.ba h
  refine ⟨He.eqO_ok h1, He.eqO_ok h2, of_decide_eq_true h3, ?_⟩
  unfold pA
  split at h4
  · rename_i g rest e
    rw [e]
    exact ⟨rest, rfl⟩
  · cases h4
def faA (f : He.Fa) : FaX := fun K => f.ok K
def faTup (x : Str) (i j : Int) : FaX := fun K => match PySem.W.nsIn K mainGlobals x with
  | some (some (.ref a)) => (match K.lookup a with
    | some ⟨.type c, _, .seq its _, _⟩ => decide (c = "tuple") && (match its.toList with
      | [.int k _, .int l _] => decide (k = i) && decide (l = j)
      | _ => false)
    | _ => false)
  | _ => false
theorem tup_ok {K : PySem.W.Frag} {h : Heap} {mg : Str → Option Value} (X : K.In h) (G : h.Ns mainGlobals mg) {x : Str} {i j : Int} (c : faTup x i j K = true) : GC K mg x (.tup [.int i, .int j]) := by
  unfold faTup at c
  split at c
  · rename_i a e1
    split at c
    · rename_i cl dd its n sl e2
      obtain ⟨h1, h2⟩ := He.ba c
      have h1 := of_decide_eq_true h1
      subst h1
      split at h2
      · rename_i k t l u e3
        obtain ⟨h3, h4⟩ := He.ba h2
        have h3 := of_decide_eq_true h3
        have h4 := of_decide_eq_true h4
        subst h3 h4
        have e4 : its = #[.int k t, .int l u] := by
          apply Array.toList_inj.mp
          rw [e3]
        subst e4
        exact gc_fr (PySem.W.mg_of X G e1) e2
      · cases h2
    · cases c
  · cases c
theorem int_ok' {K : PySem.W.Frag} {h : Heap} {mg : Str → Option Value} (X : K.In h) (G : h.Ns mainGlobals mg) {x : Str} {i : Int} (c : faA (.int x i) K = true) : GC K mg x (.int i) := by
  obtain ⟨t, e⟩ := He.int_ok X G c
  exact gc_int e
theorem str_ok' {K : PySem.W.Frag} {h : Heap} {mg : Str → Option Value} (X : K.In h) (G : h.Ns mainGlobals mg) {x z : Str} (c : faA (.str x z) K = true) : GC K mg x (.str z) := by
  obtain ⟨t, e⟩ := He.str_ok X G c
  exact gc_str e
/-- an own error: its class, its name -/
theorem exc_ok' {K : PySem.W.Frag} {h : Heap} {mg : Str → Option Value} (X : K.In h) (G : h.Ns mainGlobals mg) {n : Nat} {x : Str} (hn : excNm n = x) (c1 : faA (.glo x) K = true) (c : faA (.exc x) K = true) : XC K mg x (excA K n) := by
  subst hn
  obtain ⟨h1, h2, h3, h4⟩ := He.exc_ok c
  exact ⟨He.glo_ok X G c1, h2, h3, h4, h1⟩
/-! ### defs -/
structure DfX where
  at_ : PySem.W.Frag → Addr
  name : Str
  qual : Str
  st : Stmt
def DfX.val (d : DfX) : He.FnV := some (d.name, d.qual, defArgs d.st, .stmts (defBody d.st), defScope d.st, mainGlobals, [], .none, builtinsNs)
def DfX.look (K : PySem.W.Frag) (d : DfX) : He.FnV := match K.lookup (d.at_ K) with
  | some ⟨_, _, .func fd, _⟩ => some (fd.name, fd.qualname, fd.params, fd.body, fd.scope, fd.globals, fd.closure, fd.defaults, fd.builtins)
  | _ => none
def DfX.ok (K : PySem.W.Frag) (d : DfX) : Bool := PySem.W.keepIn K (.ref (d.at_ K)) && (match K.lookup (d.at_ K) with
  | some ⟨_, _, .func fd, _⟩ => PySem.W.codeIn K fd.code d.qual
  | _ => false)
theorem DfX.fun_ {K : PySem.W.Frag} {d : DfX} (e : d.look K = d.val) (c : d.ok K = true) : ∃ fd, Fun K d.name d.qual d.st (d.at_ K) fd := by
  obtain ⟨kp, c2⟩ := He.ba c
  unfold DfX.look at e
  cases q : K.lookup (d.at_ K) with
  | none =>
    rw [q] at c2
    cases c2
  | some o =>
    obtain ⟨oc, od, dt, osl⟩ := o
    rw [q] at c2 e
    cases dt with
    | func fd =>
      obtain ⟨n1, n2, n3, n4, n5, n6, n7, n8, n9, n10, n11, n12, n13, n14, n15⟩ := fd
      have e2 : (some (n1, n2, n3, n4, n5, n6, n7, n8, n15) : He.FnV) = some (d.name, d.qual, defArgs d.st, .stmts (defBody d.st), defScope d.st, mainGlobals, [], .none, builtinsNs) := e
      simp only [Option.some.injEq, Prod.mk.injEq] at e2
      obtain ⟨h1, h2, h3, h4, h5, h6, h7, h8, h9⟩ := e2
      subst h1 h2 h3 h4 h5 h6 h7 h8 h9
      exact ⟨_, ⟨oc, od, n9, n10, n11, n12, n13, n14, osl, rfl, q, c2⟩, kp⟩
    | _ => cases c2
abbrev AlX : Type := Bool × List He.FnV
def obsX (fa : List FaX) (fn : List DfX) (K : PySem.W.Frag) : AlX := ((fa.all fun f => f K) && fn.all fun d => d.ok K, fn.map fun d => d.look K)
def valX (fn : List DfX) : AlX := (true, fn.map DfX.val)
def SaysX (fa : List FaX) (fn : List DfX) (K : PySem.W.Frag) : Prop := obsX fa fn K = valX fn
def refsX (o : Obj) : List Addr := He.refsO o ++ (match o.dict with
  | some d => [d]
  | none => [])
def growX (g : Addr → Option Obj) (as : List Addr) : List Addr := (as ++ as.flatMap fun a => match g a with
  | some o => refsX o
  | none => []).eraseDups
def asX (g : Addr → Option Obj) : Nat → List Addr
  | 0 => [mainGlobals]
  | n + 1 => growX g (asX g n)
def obsXG (n : Nat) (fa : List FaX) (fn : List DfX) (g : Addr → Option Obj) : AlX := obsX fa fn (He.frG g (asX g n))
def hookX (n : Nat) (fa : List FaX) (fn : List DfX) : PySem.W.Hook where
  α := AlX
  obs := fun s => obsXG n fa fn s.heap.get?
  val := fun _ => valX fn
  says := fun _ h => ∃ K : PySem.W.Frag, K.In h ∧ SaysX fa fn K
  of := fun _ _ e => ⟨_, He.frG_in, e⟩
  keeps := fun _ _ _ ⟨K, hK, c⟩ k => ⟨K, PySem.W.Frag.In.keeps hK k, c⟩
theorem obsXG_eq {n : Nat} {fa : List FaX} {fn : List DfX} {g : Addr → Option Obj} {s : Shared} (h : ∀ a, g a = s.heap.get? a) : obsXG n fa fn g = (hookX n fa fn).obs s := by
  have e : g = s.heap.get? := funext h
  rw [e] <;> rfl
section
variable {fa : List FaX} {fn : List DfX} {K : PySem.W.Frag}
theorem SaysX.fact (c : SaysX fa fn K) (i : Nat) {f : FaX} (h : fa[i]? = some f := by rfl) : f K = true := by
  have c1 := (He.ba (show ((fa.all fun f => f K) && fn.all fun d => d.ok K) = true from congrArg (fun z : AlX => z.1) c)).1
  exact List.all_eq_true.mp c1 f (List.mem_of_getElem? h)
theorem SaysX.def_ (c : SaysX fa fn K) (i : Nat) {d : DfX} (h : fn[i]? = some d := by rfl) : ∃ fd, Fun K d.name d.qual d.st (d.at_ K) fd := by
  have c2 := (He.ba (show ((fa.all fun f => f K) && fn.all fun d => d.ok K) = true from congrArg (fun z : AlX => z.1) c)).2
  have e : fn.map (fun d => d.look K) = fn.map DfX.val := congrArg (fun z : AlX => z.2) c
  have e2 : (fn.map fun d => d.look K)[i]? = (fn.map DfX.val)[i]? := by rw [e]
  rw [List.getElem?_map, List.getElem?_map, h] at e2
  exact DfX.fun_ (Option.some.inj e2) (List.all_eq_true.mp c2 d (List.mem_of_getElem? h))
end
/-- from the head's run to the law -/
theorem walk_denX {l : PySem.W.OpenLaw} {q : Program} {loose : List Str} {XP : (Str → Option Value) → Heap → Prop} {d : DefRec} {k n : Nat} {den : Den} {fa : List FaX} {fn : List DfX}
    (hn : l.most = some 63) (hdf : d.params.defaults = []) (hname : d.name = "law") (hr : Room k callerA)
    (F : ∀ (w : World) (mg : Str → Option Value) (h : Heap) (K : PySem.W.Frag), K.In h → h.Ns mainGlobals mg → SaysX fa fn K → ∃ C, ∀ base : Heap, K.In base → base.Ns mainGlobals mg → Df l.prog w K mg base C "law" 1 k den)
    (hden : Says den) : PySem.W.WalkO q loose XP (hookX n fa fn).says l.row.toRowW d [] (fun f vs => PySem.call f vs) := by
  refine Att.attach_callB hn hdf fun w s0 s1 mg mb fa' o pm cd doc a vs ns G Y ho hd hcd hmg hobj hints hlen hbits hg => ?_
  obtain ⟨K, inK, sx⟩ := Y
  obtain ⟨C, hD⟩ := F w mg _ K inK G.T.g sx
  rw [hname] at hmg
  exact law_code inK G.T.g G.T.b G.T.builtins G.T.nolimit hg hobj hints (Nat.le_trans hlen (by decide)) hr hD hmg (hden ns hlen fun n hn => Nat.le_trans (log2_bits n) (hbits n hn))
/-- a def of the module -/
theorem df_at {P : Program} {w : World} {K : PySem.W.Frag} {mg : Str → Option Value} {base : Heap} {C : Nat → Addr} {x : Str} {n k : Nat} {den : Den} {f : Addr} (hm : mg x = some (.ref f)) (kp : PySem.W.keepIn K (.ref f) = true) (F : At P w K mg base C f n k den) : Df P w K mg base C x n k den := by
  obtain ⟨fd, ps, h1, h2, h3⟩ := F.ex
  exact ⟨f, fd, ps, hm, kp, h1, h2, h3⟩
end Fc

set_option maxHeartbeats 0
namespace Fc
open PySem L2
abbrev top (i : Nat) : Stmt := PySem.Challenge.pw_flipchoice_k06_chances_by_hand.main.body.getD i (.Pass ⟨0, 0, 0, 0⟩)
abbrev D_law_cell_at : Stmt := top 38
abbrev N_law_cell_at : List Str := ["_law_script", "_law_k"]
theorem sc_law_cell_at : FnScope N_law_cell_at ["_law_script", "_law_k"] (defScope D_law_cell_at) := ⟨rfl, rfl, rfl, by decide +kernel, rfl, by decide +kernel, by decide +kernel⟩
abbrev D_law_pen : Stmt := top 39
abbrev N_law_pen : List Str := ["_law_cell"]
theorem sc_law_pen : FnScope N_law_pen ["_law_cell"] (defScope D_law_pen) := ⟨rfl, rfl, rfl, by decide +kernel, rfl, by decide +kernel, by decide +kernel⟩
abbrev D_law_draw : Stmt := top 40
abbrev N_law_draw : List Str := ["_law_pen_here", "_law_many", "_law_found", "_law_mixed"]
theorem sc_law_draw : FnScope N_law_draw ["_law_pen_here", "_law_many"] (defScope D_law_draw) := ⟨rfl, rfl, rfl, by decide +kernel, rfl, by decide +kernel, by decide +kernel⟩
abbrev D_is_integer : Stmt := top 8
abbrev N_is_integer : List Str := ["value"]
theorem sc_is_integer : FnScope N_is_integer ["value"] (defScope D_is_integer) := ⟨rfl, rfl, rfl, by decide +kernel, rfl, by decide +kernel, by decide +kernel⟩
abbrev D_greatest_divisor : Stmt := top 10
abbrev N_greatest_divisor : List Str := ["one", "other"]
theorem sc_greatest_divisor : FnScope N_greatest_divisor ["one", "other"] (defScope D_greatest_divisor) := ⟨rfl, rfl, rfl, by decide +kernel, rfl, by decide +kernel, by decide +kernel⟩
abbrev D_is_fraction : Stmt := top 12
abbrev N_is_fraction : List Str := ["value"]
theorem sc_is_fraction : FnScope N_is_fraction ["value"] (defScope D_is_fraction) := ⟨rfl, rfl, rfl, by decide +kernel, rfl, by decide +kernel, by decide +kernel⟩
abbrev D_ratio : Stmt := top 11
abbrev N_ratio : List Str := ["top", "bottom", "divisor"]
theorem sc_ratio : FnScope N_ratio ["top", "bottom"] (defScope D_ratio) := ⟨rfl, rfl, rfl, by decide +kernel, rfl, by decide +kernel, by decide +kernel⟩
abbrev D_plus : Stmt := top 13
abbrev N_plus : List Str := ["one", "other"]
theorem sc_plus : FnScope N_plus ["one", "other"] (defScope D_plus) := ⟨rfl, rfl, rfl, by decide +kernel, rfl, by decide +kernel, by decide +kernel⟩
abbrev D_added : Stmt := top 14
abbrev N_added : List Str := ["values", "result", "value"]
theorem sc_added : FnScope N_added ["values"] (defScope D_added) := ⟨rfl, rfl, rfl, by decide +kernel, rfl, by decide +kernel, by decide +kernel⟩
abbrev D_common_bottom : Stmt := top 16
abbrev N_common_bottom : List Str := ["values", "result", "top", "bottom"]
theorem sc_common_bottom : FnScope N_common_bottom ["values"] (defScope D_common_bottom) := ⟨rfl, rfl, rfl, by decide +kernel, rfl, by decide +kernel, by decide +kernel⟩
abbrev D_is_chances : Stmt := top 23
abbrev N_is_chances : List Str := ["value", "chance"]
theorem sc_is_chances : FnScope N_is_chances ["value"] (defScope D_is_chances) := ⟨rfl, rfl, rfl, by decide +kernel, rfl, by decide +kernel, by decide +kernel⟩
abbrev D_check_chances : Stmt := top 24
abbrev N_check_chances : List Str := ["value"]
theorem sc_check_chances : FnScope N_check_chances ["value"] (defScope D_check_chances) := ⟨rfl, rfl, rfl, by decide +kernel, rfl, by decide +kernel, by decide +kernel⟩
abbrev D_is_between : Stmt := top 9
abbrev N_is_between : List Str := ["value", "low", "high"]
theorem sc_is_between : FnScope N_is_between ["value", "low", "high"] (defScope D_is_between) := ⟨rfl, rfl, rfl, by decide +kernel, rfl, by decide +kernel, by decide +kernel⟩
abbrev D_check_sides : Stmt := top 25
abbrev N_check_sides : List Str := ["value"]
theorem sc_check_sides : FnScope N_check_sides ["value"] (defScope D_check_sides) := ⟨rfl, rfl, rfl, by decide +kernel, rfl, by decide +kernel, by decide +kernel⟩
abbrev D_check_throws : Stmt := top 26
abbrev N_check_throws : List Str := ["value", "most"]
theorem sc_check_throws : FnScope N_check_throws ["value", "most"] (defScope D_check_throws) := ⟨rfl, rfl, rfl, by decide +kernel, rfl, by decide +kernel, by decide +kernel⟩
abbrev D_power : Stmt := top 15
abbrev N_power : List Str := ["base", "exponent", "result", "turn"]
theorem sc_power : FnScope N_power ["base", "exponent"] (defScope D_power) := ⟨rfl, rfl, rfl, by decide +kernel, rfl, by decide +kernel, by decide +kernel⟩
abbrev D_floors : Stmt := top 27
abbrev N_floors : List Str := ["chances", "sides", "throws", "scale", "top", "bottom"]
theorem sc_floors : FnScope N_floors ["chances", "sides", "throws"] (defScope D_floors) := ⟨rfl, rfl, rfl, by decide +kernel, rfl, by decide +kernel, by decide +kernel⟩
abbrev D_digits_at : Stmt := top 29
abbrev N_digits_at : List Str := ["chances", "sides", "place", "later", "own", "before"]
theorem sc_digits_at : FnScope N_digits_at ["chances", "sides", "place"] (defScope D_digits_at) := ⟨rfl, rfl, rfl, by decide +kernel, rfl, by decide +kernel, by decide +kernel⟩
abbrev D_digits : Stmt := top 30
abbrev N_digits : List Str := ["chances", "sides", "place"]
theorem sc_digits : FnScope N_digits ["chances", "sides", "place"] (defScope D_digits) := ⟨rfl, rfl, rfl, by decide +kernel, rfl, by decide +kernel, by decide +kernel⟩
abbrev D_open_at_least : Stmt := top 28
abbrev N_open_at_least : List Str := ["chances", "sides", "throws"]
theorem sc_open_at_least : FnScope N_open_at_least ["chances", "sides", "throws"] (defScope D_open_at_least) := ⟨rfl, rfl, rfl, by decide +kernel, rfl, by decide +kernel, by decide +kernel⟩
abbrev D_least_open : Stmt := top 31
abbrev N_least_open : List Str := ["chances", "sides", "throws"]
theorem sc_least_open : FnScope N_least_open ["chances", "sides", "throws"] (defScope D_least_open) := ⟨rfl, rfl, rfl, by decide +kernel, rfl, by decide +kernel, by decide +kernel⟩
abbrev D_arrangements : Stmt := top 32
abbrev N_arrangements : List Str := ["many", "groups", "result", "left", "size", "place"]
theorem sc_arrangements : FnScope N_arrangements ["many", "groups"] (defScope D_arrangements) := ⟨rfl, rfl, rfl, by decide +kernel, rfl, by decide +kernel, by decide +kernel⟩
abbrev D_how_many_best : Stmt := top 33
abbrev N_how_many_best : List Str := ["chances", "sides", "throws", "result", "place", "children"]
theorem sc_how_many_best : FnScope N_how_many_best ["chances", "sides", "throws"] (defScope D_how_many_best) := ⟨rfl, rfl, rfl, by decide +kernel, rfl, by decide +kernel, by decide +kernel⟩
abbrev D_rests : Stmt := top 34
abbrev N_rests : List Str := ["chances", "sides", "throws", "bottom", "scale", "top", "own"]
theorem sc_rests : FnScope N_rests ["chances", "sides", "throws"] (defScope D_rests) := ⟨rfl, rfl, rfl, by decide +kernel, rfl, by decide +kernel, by decide +kernel⟩
abbrev D_course : Stmt := top 35
abbrev N_course : List Str := ["chances", "sides", "seen", "own"]
theorem sc_course : FnScope N_course ["chances", "sides"] (defScope D_course) := ⟨rfl, rfl, rfl, by decide +kernel, rfl, by decide +kernel, by decide +kernel⟩
abbrev D_least_expected : Stmt := top 36
abbrev N_least_expected : List Str := ["chances", "sides", "seen", "back", "opens", "first", "throws", "again", "scale"]
theorem sc_least_expected : FnScope N_least_expected ["chances", "sides"] (defScope D_least_expected) := ⟨rfl, rfl, rfl, by decide +kernel, rfl, by decide +kernel, by decide +kernel⟩
abbrev D_law_thirds_right : Stmt := top 41
abbrev N_law_thirds_right : List Str := ["_law_turn", "_law_chances", "_law_rows", "_law_place", "_law_row", "_law_throws"]
theorem sc_law_thirds_right : FnScope N_law_thirds_right ["_law_turn"] (defScope D_law_thirds_right) := ⟨rfl, rfl, rfl, by decide +kernel, rfl, by decide +kernel, by decide +kernel⟩
abbrev D_law_six_right : Stmt := top 42
abbrev N_law_six_right : List Str := ["_law_chances", "_law_throws"]
theorem sc_law_six_right : FnScope N_law_six_right [] (defScope D_law_six_right) := ⟨rfl, rfl, rfl, by decide +kernel, rfl, by decide +kernel, by decide +kernel⟩
abbrev D_law_sure_right : Stmt := top 43
abbrev N_law_sure_right : List Str := ["_law_chances", "_law_told", "_law_halves", "_law_throws", "_law_top", "_law_bottom"]
theorem sc_law_sure_right : FnScope N_law_sure_right [] (defScope D_law_sure_right) := ⟨rfl, rfl, rfl, by decide +kernel, rfl, by decide +kernel, by decide +kernel⟩
abbrev D_law : Stmt := top 44
abbrev N_law : List Str := ["_law_script", "_law_k"]
theorem sc_law : FnScope N_law ["_law_script"] (defScope D_law) := ⟨rfl, rfl, rfl, by decide +kernel, rfl, by decide +kernel, by decide +kernel⟩
structure Txt (K : PySem.W.Frag) (mg : Str → Option Value) (C : Nat → Addr) : Prop where
  n_abs : mg "abs" = none
  n_all : mg "all" = none
  n_bool : mg "bool" = none
  n_int : mg "int" = none
  n_isinstance : mg "isinstance" = none
  n_len : mg "len" = none
  n_max : mg "max" = none
  n_min : mg "min" = none
  n_range : mg "range" = none
  n_sum : mg "sum" = none
  n_tuple : mg "tuple" = none
  n_zip : mg "zip" = none
  g_LEAST_SIDES : GC K mg "LEAST_SIDES" (.int 2)
  g_MOST_BOTTOM : GC K mg "MOST_BOTTOM" (.int 30)
  g_MOST_OUTCOMES : GC K mg "MOST_OUTCOMES" (.int 6)
  g_MOST_SIDES : GC K mg "MOST_SIDES" (.int 6)
  g_MOST_THROWS : GC K mg "MOST_THROWS" (.int 60)
  g_ONE : GC K mg "ONE" (.tup [.int 1, .int 1])
  g_ZERO : GC K mg "ZERO" (.tup [.int 0, .int 1])
  x_ChancesError : XC K mg "ChancesError" (C 2)
  x_SidesError : XC K mg "SidesError" (C 0)
  x_ThrowsError : XC K mg "ThrowsError" (C 1)
  d_law_cell_at : Fact K mg "_law_cell_at" D_law_cell_at
  d_law_pen : Fact K mg "_law_pen" D_law_pen
  d_law_draw : Fact K mg "_law_draw" D_law_draw
  d_is_integer : Fact K mg "is_integer" D_is_integer
  d_greatest_divisor : Fact K mg "greatest_divisor" D_greatest_divisor
  d_is_fraction : Fact K mg "is_fraction" D_is_fraction
  d_ratio : Fact K mg "ratio" D_ratio
  d_plus : Fact K mg "plus" D_plus
  d_added : Fact K mg "added" D_added
  d_common_bottom : Fact K mg "common_bottom" D_common_bottom
  d_is_chances : Fact K mg "is_chances" D_is_chances
  d_check_chances : Fact K mg "check_chances" D_check_chances
  d_is_between : Fact K mg "is_between" D_is_between
  d_check_sides : Fact K mg "check_sides" D_check_sides
  d_check_throws : Fact K mg "check_throws" D_check_throws
  d_power : Fact K mg "power" D_power
  d_floors : Fact K mg "floors" D_floors
  d_digits_at : Fact K mg "digits_at" D_digits_at
  d_digits : Fact K mg "digits" D_digits
  d_open_at_least : Fact K mg "open_at_least" D_open_at_least
  d_least_open : Fact K mg "least_open" D_least_open
  d_arrangements : Fact K mg "arrangements" D_arrangements
  d_how_many_best : Fact K mg "how_many_best" D_how_many_best
  d_rests : Fact K mg "rests" D_rests
  d_course : Fact K mg "course" D_course
  d_least_expected : Fact K mg "least_expected" D_least_expected
  d_law_thirds_right : Fact K mg "_law_thirds_right" D_law_thirds_right
  d_law_six_right : Fact K mg "_law_six_right" D_law_six_right
  d_law_sure_right : Fact K mg "_law_sure_right" D_law_sure_right
  d_law : Fact K mg "law" D_law
section
variable {P : Program} {w : World} {K : PySem.W.Frag} {mg : Str → Option Value} {base : Heap} {C : Nat → Addr}
theorem ok_law_cell_at (T : Txt K mg C)  : Df P w K mg base C "_law_cell_at" 2 1 r_law_cell_at :=
 (df_of (k := 0) T.d_law_cell_at sc_law_cell_at (fun _ _ _ _ _ _ us hl => match us, hl with | [_, _], _ => rfl) fun f cdv A outer s H E c =>
 (ss_cons (ss_if (st_cmp ops_lt (se_name 1) (se_bi cas_len T.n_len PySem.boot_len (sl_cons (se_name 0) sl_nil)))
 (ss_cons (ss_ret (se_ix (se_name 0) (se_name 1)))
 ss_nil)
 ss_nil)
 (ss_cons (ss_ret se_int)
 ss_nil))).tidy
theorem ok_law_pen (T : Txt K mg C)  : Df P w K mg base C "_law_pen" 1 1 r_law_pen :=
 (df_of (k := 0) T.d_law_pen sc_law_pen (fun _ _ _ _ _ _ us hl => match us, hl with | [_], _ => rfl) fun f cdv A outer s H E c =>
 (ss_cons (ss_ret (se_lst true (sl_cons (se_bi (cas_max2 c.calm) T.n_max PyProof.Rows.boot_max (sl_cons se_int (sl_cons (se_op ops_sub (se_name 0) (se_op ops_pow se_int se_int)) sl_nil))) (sl_cons (se_op (ops_add false) (se_op ops_mod (se_name 0) se_int) se_int) (sl_cons se_int sl_nil)))))
 ss_nil))
theorem ok_law_draw (T : Txt K mg C)  : Df P w K mg base C "_law_draw" 2 1 r_law_draw :=
 (df_of (k := 0) T.d_law_draw sc_law_draw (fun _ _ _ _ _ _ us hl => match us, hl with | [_, _], _ => rfl) fun f cdv A outer s H E c =>
 (ss_cons (ss_if (st_cmp ops_gt (se_ix (se_name 0) se_int) se_int)
 (ss_cons (ss_set 2 c.nd (se_op ops_mod (se_ix (se_name 0) se_int) (se_name 1)))
 (ss_cons (ss_store (se_op ops_div (se_ix (se_name 0) se_int) (se_name 1)) (se_name 0) se_int)
 (ss_cons (ss_ret (se_name 2))
 ss_nil)))
 ss_nil)
 (ss_cons (ss_store (se_op (ops_add false) (se_ix (se_name 0) se_int) se_int) (se_name 0) se_int)
 (ss_cons (ss_store (se_op ops_mod (se_op (ops_add false) (se_op (ops_add false) (se_op (ops_mul false) (se_ix (se_name 0) se_int) se_int) (se_op (ops_mul false) se_int (se_ix (se_name 0) se_int))) se_int) se_int) (se_name 0) se_int)
 (ss_cons (ss_set 3 c.nd (se_op ops_mod (se_op (ops_add false) (se_op (ops_add false) (se_op (ops_mul false) (se_ix (se_name 0) se_int) (se_ix (se_name 0) se_int)) (se_op (ops_mul false) se_int (se_ix (se_name 0) se_int))) se_int) se_int))
 (ss_cons (ss_set 3 c.nd (se_op ops_mod (se_op (ops_add false) (se_op (ops_mul false) (se_name 3) (se_name 3)) (se_op (ops_mul false) se_int (se_name 3))) se_int))
 (ss_cons (ss_ret (se_op ops_mod (se_op ops_div (se_name 3) se_int) (se_name 1)))
 ss_nil))))))).tidy
theorem ok_is_integer (T : Txt K mg C)  : Df P w K mg base C "is_integer" 1 1 r_is_integer :=
 (df_of (k := 0) T.d_is_integer sc_is_integer (fun _ _ _ _ _ _ us hl => match us, hl with | [_], _ => rfl) fun f cdv A outer s H E c =>
 (ss_cons (ss_ret (se_and (se_isi .int (se_name 0) T.n_isinstance T.n_int) (se_one (se_not (se_isi .bl (se_name 0) T.n_isinstance T.n_bool)))))
 ss_nil)).tidy
theorem ok_greatest_divisor (T : Txt K mg C)  : Df P w K mg base C "greatest_divisor" 2 1 r_greatest_divisor :=
 (df_of (k := 0) T.d_greatest_divisor sc_greatest_divisor (fun _ _ _ _ _ _ us hl => match us, hl with | [_, _], _ => rfl) fun f cdv A outer s H E c =>
 (ss_cons (ss_par 0 1 c.calm c.nd (sl_cons (se_bi cas_abs T.n_abs PyProof.Rows.boot_abs (sl_cons (se_name 0) sl_nil)) (sl_cons (se_bi cas_abs T.n_abs PyProof.Rows.boot_abs (sl_cons (se_name 1) sl_nil)) sl_nil)))
 (ss_cons (ss_while (cb := b_greatest_divisor_L1) c (st_cmp ops_gt (se_name 1) se_int)
 (ss_cons (ss_par 0 1 c.calm c.nd (sl_cons (se_name 1) (sl_cons (se_op ops_mod (se_name 0) (se_name 1)) sl_nil)))
 ss_nil))
 (ss_cons (ss_ret (se_name 0))
 ss_nil)))).tidy
theorem ok_is_fraction (T : Txt K mg C) (G_is_integer : Df P w K mg base C "is_integer" 1 1 r_is_integer) (G_greatest_divisor : Df P w K mg base C "greatest_divisor" 2 1 r_greatest_divisor) : Df P w K mg base C "is_fraction" 1 2 r_is_fraction :=
 (df_of (k := 1) T.d_is_fraction sc_is_fraction (fun _ _ _ _ _ _ us hl => match us, hl with | [_], _ => rfl) fun f cdv A outer s H E c =>
 (ss_cons (ss_if (st_of (sw_or (st_not (st_val (se_isi .tup (se_name 0) T.n_isinstance T.n_tuple))) (sw_or1 (st_cmp (ops_ne c.h64) (se_bi cas_len T.n_len PySem.boot_len (sl_cons (se_name 0) sl_nil)) se_int))))
 (ss_cons (ss_ret se_bl)
 ss_nil)
 ss_nil)
 (ss_cons (ss_if (st_of (sw_or (st_not (st_val (se_call c G_is_integer (sl_cons (se_ix (se_name 0) se_int) sl_nil)))) (sw_or (st_not (st_val (se_call c G_is_integer (sl_cons (se_ix (se_name 0) se_int) sl_nil)))) (sw_or1 (st_cmp ops_lt (se_ix (se_name 0) se_int) se_int)))))
 (ss_cons (ss_ret se_bl)
 ss_nil)
 ss_nil)
 (ss_cons (ss_ret (se_cmp (ops_eq c.h64) (se_call c G_greatest_divisor (sl_cons (se_ix (se_name 0) se_int) (sl_cons (se_ix (se_name 0) se_int) sl_nil))) se_int))
 ss_nil)))).tidy
theorem ok_ratio (T : Txt K mg C) (G_greatest_divisor : Df P w K mg base C "greatest_divisor" 2 1 r_greatest_divisor) : Df P w K mg base C "ratio" 2 2 r_ratio :=
 (df_of (k := 1) T.d_ratio sc_ratio (fun _ _ _ _ _ _ us hl => match us, hl with | [_, _], _ => rfl) fun f cdv A outer s H E c =>
 (ss_cons (ss_set 2 c.nd (se_call c G_greatest_divisor (sl_cons (se_name 0) (sl_cons (se_name 1) sl_nil))))
 (ss_cons (ss_ret (se_tup (sl_cons (se_op ops_div (se_name 0) (se_name 2)) (sl_cons (se_op ops_div (se_name 1) (se_name 2)) sl_nil))))
 ss_nil))).tidy
theorem ok_plus (T : Txt K mg C) (G_ratio : Df P w K mg base C "ratio" 2 2 r_ratio) : Df P w K mg base C "plus" 2 3 r_plus :=
 (df_of (k := 2) T.d_plus sc_plus (fun _ _ _ _ _ _ us hl => match us, hl with | [_, _], _ => rfl) fun f cdv A outer s H E c =>
 (ss_cons (ss_ret (se_call c G_ratio (sl_cons (se_op (ops_add false) (se_op (ops_mul false) (se_ix (se_name 0) se_int) (se_ix (se_name 1) se_int)) (se_op (ops_mul false) (se_ix (se_name 1) se_int) (se_ix (se_name 0) se_int))) (sl_cons (se_op (ops_mul false) (se_ix (se_name 0) se_int) (se_ix (se_name 1) se_int)) sl_nil))))
 ss_nil)).tidy
theorem ok_added (T : Txt K mg C) (G_plus : Df P w K mg base C "plus" 2 3 r_plus) : Df P w K mg base C "added" 1 4 r_added :=
 (df_of (k := 3) T.d_added sc_added (fun _ _ _ _ _ _ us hl => match us, hl with | [_], _ => rfl) fun f cdv A outer s H E c =>
 (ss_cons (ss_set 1 c.nd (se_glob T.g_ZERO))
 (ss_cons (ss_for (cb := b_added_L1) c (si_seq (se_name 0)) (sg_name 2 c.nd)
 (ss_cons (ss_set 1 c.nd (se_call c G_plus (sl_cons (se_name 1) (sl_cons (se_name 2) sl_nil))))
 (ss_wipe [2])))
 (ss_cons (ss_ret (se_name 1))
 ss_nil)))).tidy
theorem ok_common_bottom (T : Txt K mg C) (G_greatest_divisor : Df P w K mg base C "greatest_divisor" 2 1 r_greatest_divisor) : Df P w K mg base C "common_bottom" 1 2 r_common_bottom :=
 (df_of (k := 1) T.d_common_bottom sc_common_bottom (fun _ _ _ _ _ _ us hl => match us, hl with | [_], _ => rfl) fun f cdv A outer s H E c =>
 (ss_cons (ss_set 1 c.nd se_int)
 (ss_cons (ss_for (cb := b_common_bottom_L1) c (si_seq (se_name 0)) (sg_tup c.calm (sgs_cons (sg_name 2 c.nd) (sgs_cons (sg_name 3 c.nd) sgs_nil)))
 (ss_cons (ss_set 1 c.nd (se_op ops_div (se_op (ops_mul false) (se_name 1) (se_name 3)) (se_call c G_greatest_divisor (sl_cons (se_name 1) (sl_cons (se_name 3) sl_nil)))))
 (ss_wipe [2, 3])))
 (ss_cons (ss_ret (se_name 1))
 ss_nil)))).tidy
theorem ok_is_chances (T : Txt K mg C) (G_is_fraction : Df P w K mg base C "is_fraction" 1 2 r_is_fraction) (G_added : Df P w K mg base C "added" 1 4 r_added) (G_common_bottom : Df P w K mg base C "common_bottom" 1 2 r_common_bottom) : Df P w K mg base C "is_chances" 1 5 r_is_chances :=
 (df_of (k := 4) T.d_is_chances sc_is_chances (fun _ _ _ _ _ _ us hl => match us, hl with | [_], _ => rfl) fun f cdv A outer s H E c =>
 (ss_cons (ss_if (st_of (sw_or (st_not (st_val (se_isi .tup (se_name 0) T.n_isinstance T.n_tuple))) (sw_or1 (st_not (st_chain ops_le ops_le se_int (se_bi cas_len T.n_len PySem.boot_len (sl_cons (se_name 0) sl_nil)) (se_glob T.g_MOST_OUTCOMES))))))
 (ss_cons (ss_ret se_bl)
 ss_nil)
 ss_nil)
 (ss_cons (ss_if (st_not (st_val (se_bi (cas_all c.calm) T.n_all PyProof.Rows.boot_all (sl_cons (se_lcV c (si_seq (se_name 0)) (blkOk_by (own := [("chance", 1)]) (N := N_is_chances) (sc := defScope D_is_chances) (by decide +kernel)) (by decide) (fun _ _ _ _ _ => (sg_name 1 (c.blk).nd)) (fun _ _ _ _ _ => sts_nil) (fun _ _ _ _ _ => (se_and (se_call (c.blk) G_is_fraction (sl_cons (se_name 1) sl_nil)) (se_one (se_cmp ops_ge (se_ix (se_name 1) se_int) se_int))))) sl_nil))))
 (ss_cons (ss_ret se_bl)
 ss_nil)
 ss_nil)
 (ss_cons (ss_ret (se_and (se_cmp (ops_eq c.h64) (se_call c G_added (sl_cons (se_name 0) sl_nil)) (se_glob T.g_ONE)) (se_one (se_cmp ops_le (se_call c G_common_bottom (sl_cons (se_name 0) sl_nil)) (se_glob T.g_MOST_BOTTOM)))))
 ss_nil)))).tidy
theorem ok_check_chances (T : Txt K mg C) (G_is_chances : Df P w K mg base C "is_chances" 1 5 r_is_chances) : Df P w K mg base C "check_chances" 1 6 r_check_chances :=
 (df_of (k := 5) T.d_check_chances sc_check_chances (fun _ _ _ _ _ _ us hl => match us, hl with | [_], _ => rfl) fun f cdv A outer s H E c =>
 (ss_cons (ss_if (st_not (st_val (se_call c G_is_chances (sl_cons (se_name 0) sl_nil))))
 (ss_cons (ss_raiseX c T.x_ChancesError)
 ss_nil)
 ss_nil)
 ss_nil)).tidy
theorem ok_is_between (T : Txt K mg C) (G_is_integer : Df P w K mg base C "is_integer" 1 1 r_is_integer) : Df P w K mg base C "is_between" 3 2 r_is_between :=
 (df_of (k := 1) T.d_is_between sc_is_between (fun _ _ _ _ _ _ us hl => match us, hl with | [_, _, _], _ => rfl) fun f cdv A outer s H E c =>
 (ss_cons (ss_ret (se_and (se_call c G_is_integer (sl_cons (se_name 0) sl_nil)) (se_one (se_chain ops_le ops_le (se_name 1) (se_name 0) (se_name 2)))))
 ss_nil)).tidy
theorem ok_check_sides (T : Txt K mg C) (G_is_between : Df P w K mg base C "is_between" 3 2 r_is_between) : Df P w K mg base C "check_sides" 1 3 r_check_sides :=
 (df_of (k := 2) T.d_check_sides sc_check_sides (fun _ _ _ _ _ _ us hl => match us, hl with | [_], _ => rfl) fun f cdv A outer s H E c =>
 (ss_cons (ss_if (st_not (st_val (se_call c G_is_between (sl_cons (se_name 0) (sl_cons (se_glob T.g_LEAST_SIDES) (sl_cons (se_glob T.g_MOST_SIDES) sl_nil))))))
 (ss_cons (ss_raiseX c T.x_SidesError)
 ss_nil)
 ss_nil)
 ss_nil)).tidy
theorem ok_check_throws (T : Txt K mg C) (G_is_between : Df P w K mg base C "is_between" 3 2 r_is_between) : Df P w K mg base C "check_throws" 2 3 r_check_throws :=
 (df_of (k := 2) T.d_check_throws sc_check_throws (fun _ _ _ _ _ _ us hl => match us, hl with | [_, _], _ => rfl) fun f cdv A outer s H E c =>
 (ss_cons (ss_if (st_not (st_val (se_call c G_is_between (sl_cons (se_name 0) (sl_cons se_int (sl_cons (se_name 1) sl_nil))))))
 (ss_cons (ss_raiseX c T.x_ThrowsError)
 ss_nil)
 ss_nil)
 ss_nil)).tidy
theorem ok_power (T : Txt K mg C)  : Df P w K mg base C "power" 2 1 r_power :=
 (df_of (k := 0) T.d_power sc_power (fun _ _ _ _ _ _ us hl => match us, hl with | [_, _], _ => rfl) fun f cdv A outer s H E c =>
 (ss_cons (ss_set 2 c.nd se_int)
 (ss_cons (ss_for (cb := b_power_L1) c (si_range1 T.n_range (sl_cons (se_name 1) sl_nil)) (sg_name 3 c.nd)
 (ss_cons (ss_set 2 c.nd (se_op (ops_mul false) (se_name 2) (se_name 0)))
 (ss_wipe [3])))
 (ss_cons (ss_ret (se_name 2))
 ss_nil)))).tidy
theorem ok_floors (T : Txt K mg C) (G_power : Df P w K mg base C "power" 2 1 r_power) : Df P w K mg base C "floors" 3 2 r_floors :=
 (df_of (k := 1) T.d_floors sc_floors (fun _ _ _ _ _ _ us hl => match us, hl with | [_, _, _], _ => rfl) fun f cdv A outer s H E c =>
 (ss_cons (ss_set 3 c.nd (se_call c G_power (sl_cons (se_name 1) (sl_cons (se_name 2) sl_nil))))
 (ss_cons (ss_ret (se_lcV c (si_seq (se_name 0)) (blkOk_by (own := [("top", 4), ("bottom", 5)]) (N := N_floors) (sc := defScope D_floors) (by decide +kernel)) (by decide) (fun _ _ _ _ _ => (sg_tup (c.blk).calm (sgs_cons (sg_name 4 (c.blk).nd) (sgs_cons (sg_name 5 (c.blk).nd) sgs_nil)))) (fun _ _ _ _ _ => sts_nil) (fun _ _ _ _ _ => (se_op ops_div (se_op (ops_mul false) (se_name 3) (se_name 4)) (se_name 5)))))
 ss_nil))).tidy
theorem ok_digits_at (T : Txt K mg C) (G_floors : Df P w K mg base C "floors" 3 2 r_floors) : Df P w K mg base C "digits_at" 3 3 r_digits_at :=
 (df_of (k := 2) T.d_digits_at sc_digits_at (fun _ _ _ _ _ _ us hl => match us, hl with | [_, _, _], _ => rfl) fun f cdv A outer s H E c =>
 (ss_cons (ss_set 3 c.nd (se_call c G_floors (sl_cons (se_name 0) (sl_cons (se_name 1) (sl_cons (se_name 2) sl_nil)))))
 (ss_cons (ss_if (st_cmp (ops_eq c.h64) (se_name 2) se_int)
 (ss_cons (ss_ret (se_ty cas_tuple T.n_tuple (by decide +kernel) (sl_cons (se_name 3) sl_nil)))
 ss_nil)
 ss_nil)
 (ss_cons (ss_ret (se_ty cas_tuple T.n_tuple (by decide +kernel) (sl_cons (se_lcV c (si_z T.n_zip (sl_cons (se_name 3) (sl_cons (se_call c G_floors (sl_cons (se_name 0) (sl_cons (se_name 1) (sl_cons (se_op ops_sub (se_name 2) se_int) sl_nil)))) sl_nil))) (blkOk_by (own := [("own", 4), ("before", 5)]) (N := N_digits_at) (sc := defScope D_digits_at) (by decide +kernel)) (by decide) (fun _ _ _ _ _ => (sg_tup (c.blk).calm (sgs_cons (sg_name 4 (c.blk).nd) (sgs_cons (sg_name 5 (c.blk).nd) sgs_nil)))) (fun _ _ _ _ _ => sts_nil) (fun _ _ _ _ _ => (se_op ops_sub (se_name 4) (se_op (ops_mul false) (se_name 1) (se_name 5))))) sl_nil)))
 ss_nil)))).tidy
theorem ok_digits (T : Txt K mg C) (G_check_chances : Df P w K mg base C "check_chances" 1 6 r_check_chances) (G_check_sides : Df P w K mg base C "check_sides" 1 3 r_check_sides) (G_check_throws : Df P w K mg base C "check_throws" 2 3 r_check_throws) (G_digits_at : Df P w K mg base C "digits_at" 3 3 r_digits_at) : Df P w K mg base C "digits" 3 7 r_digits :=
 (df_of (k := 6) T.d_digits sc_digits (fun _ _ _ _ _ _ us hl => match us, hl with | [_, _, _], _ => rfl) fun f cdv A outer s H E c =>
 (ss_cons (ss_expr (se_call c G_check_chances (sl_cons (se_name 0) sl_nil)))
 (ss_cons (ss_expr (se_call c G_check_sides (sl_cons (se_name 1) sl_nil)))
 (ss_cons (ss_expr (se_call c G_check_throws (sl_cons (se_name 2) (sl_cons (se_glob T.g_MOST_THROWS) sl_nil))))
 (ss_cons (ss_ret (se_call c G_digits_at (sl_cons (se_name 0) (sl_cons (se_name 1) (sl_cons (se_name 2) sl_nil)))))
 ss_nil))))).tidy
theorem ok_open_at_least (T : Txt K mg C) (G_power : Df P w K mg base C "power" 2 1 r_power) (G_floors : Df P w K mg base C "floors" 3 2 r_floors) : Df P w K mg base C "open_at_least" 3 3 r_open_at_least :=
 (df_of (k := 2) T.d_open_at_least sc_open_at_least (fun _ _ _ _ _ _ us hl => match us, hl with | [_, _, _], _ => rfl) fun f cdv A outer s H E c =>
 (ss_cons (ss_ret (se_op ops_sub (se_call c G_power (sl_cons (se_name 1) (sl_cons (se_name 2) sl_nil))) (se_bi (cas_sumS c.calm) T.n_sum PyProof.Rows.boot_sum (sl_cons (se_call c G_floors (sl_cons (se_name 0) (sl_cons (se_name 1) (sl_cons (se_name 2) sl_nil)))) sl_nil))))
 ss_nil)).tidy
theorem ok_least_open (T : Txt K mg C) (G_check_chances : Df P w K mg base C "check_chances" 1 6 r_check_chances) (G_check_sides : Df P w K mg base C "check_sides" 1 3 r_check_sides) (G_check_throws : Df P w K mg base C "check_throws" 2 3 r_check_throws) (G_open_at_least : Df P w K mg base C "open_at_least" 3 3 r_open_at_least) : Df P w K mg base C "least_open" 3 7 r_least_open :=
 (df_of (k := 6) T.d_least_open sc_least_open (fun _ _ _ _ _ _ us hl => match us, hl with | [_, _, _], _ => rfl) fun f cdv A outer s H E c =>
 (ss_cons (ss_expr (se_call c G_check_chances (sl_cons (se_name 0) sl_nil)))
 (ss_cons (ss_expr (se_call c G_check_sides (sl_cons (se_name 1) sl_nil)))
 (ss_cons (ss_expr (se_call c G_check_throws (sl_cons (se_name 2) (sl_cons (se_glob T.g_MOST_THROWS) sl_nil))))
 (ss_cons (ss_ret (se_call c G_open_at_least (sl_cons (se_name 0) (sl_cons (se_name 1) (sl_cons (se_name 2) sl_nil)))))
 ss_nil))))).tidy
theorem ok_arrangements (T : Txt K mg C)  : Df P w K mg base C "arrangements" 2 1 r_arrangements :=
 (df_of (k := 0) T.d_arrangements sc_arrangements (fun _ _ _ _ _ _ us hl => match us, hl with | [_, _], _ => rfl) fun f cdv A outer s H E c =>
 (ss_cons (ss_set 2 c.nd se_int)
 (ss_cons (ss_set 3 c.nd (se_name 0))
 (ss_cons (ss_for (cb := b_arrangements_L2) c (si_seq (se_name 1)) (sg_name 4 c.nd)
 (ss_cons (ss_for (cb := b_arrangements_L1) c (si_range1 T.n_range (sl_cons (se_name 4) sl_nil)) (sg_name 5 c.nd)
 (ss_cons (ss_set 2 c.nd (se_op ops_div (se_op (ops_mul false) (se_name 2) (se_op ops_sub (se_name 3) (se_name 5))) (se_op (ops_add false) (se_name 5) se_int)))
 (ss_wipe [5])))
 (ss_cons (ss_set 3 c.nd (se_op ops_sub (se_name 3) (se_name 4)))
 (ss_wipe [4, 5]))))
 (ss_cons (ss_ret (se_name 2))
 ss_nil))))).tidy
theorem ok_how_many_best (T : Txt K mg C) (G_check_chances : Df P w K mg base C "check_chances" 1 6 r_check_chances) (G_check_sides : Df P w K mg base C "check_sides" 1 3 r_check_sides) (G_check_throws : Df P w K mg base C "check_throws" 2 3 r_check_throws) (G_open_at_least : Df P w K mg base C "open_at_least" 3 3 r_open_at_least) (G_digits_at : Df P w K mg base C "digits_at" 3 3 r_digits_at) (G_arrangements : Df P w K mg base C "arrangements" 2 1 r_arrangements) : Df P w K mg base C "how_many_best" 3 7 r_how_many_best :=
 (df_of (k := 6) T.d_how_many_best sc_how_many_best (fun _ _ _ _ _ _ us hl => match us, hl with | [_, _, _], _ => rfl) fun f cdv A outer s H E c =>
 (ss_cons (ss_expr (se_call c G_check_chances (sl_cons (se_name 0) sl_nil)))
 (ss_cons (ss_expr (se_call c G_check_sides (sl_cons (se_name 1) sl_nil)))
 (ss_cons (ss_expr (se_call c G_check_throws (sl_cons (se_name 2) (sl_cons (se_glob T.g_MOST_THROWS) sl_nil))))
 (ss_cons (ss_set 3 c.nd se_int)
 (ss_cons (ss_for (cb := b_how_many_best_L1) c (si_range2 T.n_range (sl_cons se_int (sl_cons (se_op (ops_add false) (se_name 2) se_int) sl_nil))) (sg_name 4 c.nd)
 (ss_cons (ss_set 5 c.nd (se_op (ops_mul false) (se_name 1) (se_call c G_open_at_least (sl_cons (se_name 0) (sl_cons (se_name 1) (sl_cons (se_op ops_sub (se_name 4) se_int) sl_nil))))))
 (ss_cons (ss_set 3 c.nd (se_op (ops_mul false) (se_name 3) (se_call c G_arrangements (sl_cons (se_name 5) (sl_cons (se_call c G_digits_at (sl_cons (se_name 0) (sl_cons (se_name 1) (sl_cons (se_name 4) sl_nil)))) sl_nil)))))
 (ss_wipe [4, 5]))))
 (ss_cons (ss_ret (se_name 3))
 ss_nil))))))).tidy
theorem ok_rests (T : Txt K mg C) (G_common_bottom : Df P w K mg base C "common_bottom" 1 2 r_common_bottom) (G_power : Df P w K mg base C "power" 2 1 r_power) : Df P w K mg base C "rests" 3 3 r_rests :=
 (df_of (k := 2) T.d_rests sc_rests (fun _ _ _ _ _ _ us hl => match us, hl with | [_, _, _], _ => rfl) fun f cdv A outer s H E c =>
 (ss_cons (ss_set 3 c.nd (se_call c G_common_bottom (sl_cons (se_name 0) sl_nil)))
 (ss_cons (ss_set 4 c.nd (se_call c G_power (sl_cons (se_name 1) (sl_cons (se_name 2) sl_nil))))
 (ss_cons (ss_ret (se_ty cas_tuple T.n_tuple (by decide +kernel) (sl_cons (se_lcV c (si_seq (se_name 0)) (blkOk_by (own := [("top", 5), ("own", 6)]) (N := N_rests) (sc := defScope D_rests) (by decide +kernel)) (by decide) (fun _ _ _ _ _ => (sg_tup (c.blk).calm (sgs_cons (sg_name 5 (c.blk).nd) (sgs_cons (sg_name 6 (c.blk).nd) sgs_nil)))) (fun _ _ _ _ _ => sts_nil) (fun _ _ _ _ _ => (se_op ops_mod (se_op (ops_mul false) (se_op (ops_mul false) (se_name 4) (se_name 5)) (se_op ops_div (se_name 3) (se_name 6))) (se_name 3)))) sl_nil)))
 ss_nil)))).tidy
theorem ok_course (T : Txt K mg C) (G_rests : Df P w K mg base C "rests" 3 3 r_rests) : Df P w K mg base C "course" 2 4 r_course :=
 (df_of (k := 3) T.d_course sc_course (fun _ _ _ _ _ _ us hl => match us, hl with | [_, _], _ => rfl) fun f cdv A outer s H E c =>
 (ss_cons (ss_set 2 c.nd (se_lst true sl_nil))
 (ss_cons (ss_set 3 c.nd (se_call c G_rests (sl_cons (se_name 0) (sl_cons (se_name 1) (sl_cons se_int sl_nil)))))
 (ss_cons (ss_while (cb := b_course_L1) c (st_cmp (ops_notin c.h65) (se_name 3) (se_name 2))
 (ss_cons (ss_expr (se_mtL PySem.F.slot_list_append PySem.F.type_list_append mts_append (se_name 2) (sl_cons (se_name 3) sl_nil)))
 (ss_cons (ss_set 3 c.nd (se_call c G_rests (sl_cons (se_name 0) (sl_cons (se_name 1) (sl_cons (se_bi cas_len T.n_len PySem.boot_len (sl_cons (se_name 2) sl_nil)) sl_nil)))))
 ss_nil)))
 (ss_cons (ss_ret (se_tup (sl_cons (se_name 2) (sl_cons (se_mtL PySem.F.slot_list_index PySem.F.type_list_index (mts_index c.h65) (se_name 2) (sl_cons (se_name 3) sl_nil)) sl_nil))))
 ss_nil))))).tidy
theorem ok_least_expected (T : Txt K mg C) (G_check_chances : Df P w K mg base C "check_chances" 1 6 r_check_chances) (G_check_sides : Df P w K mg base C "check_sides" 1 3 r_check_sides) (G_course : Df P w K mg base C "course" 2 4 r_course) (G_open_at_least : Df P w K mg base C "open_at_least" 3 3 r_open_at_least) (G_ratio : Df P w K mg base C "ratio" 2 2 r_ratio) (G_power : Df P w K mg base C "power" 2 1 r_power) (G_plus : Df P w K mg base C "plus" 2 3 r_plus) : Df P w K mg base C "least_expected" 2 7 r_least_expected :=
 (df_of (k := 6) T.d_least_expected sc_least_expected (fun _ _ _ _ _ _ us hl => match us, hl with | [_, _], _ => rfl) fun f cdv A outer s H E c =>
 (ss_cons (ss_expr (se_call c G_check_chances (sl_cons (se_name 0) sl_nil)))
 (ss_cons (ss_expr (se_call c G_check_sides (sl_cons (se_name 1) sl_nil)))
 (ss_cons (ss_asg (se_call c G_course (sl_cons (se_name 0) (sl_cons (se_name 1) sl_nil))) (sg_tup c.calm (sgs_cons (sg_name 2 c.nd) (sgs_cons (sg_name 3 c.nd) sgs_nil))))
 (ss_cons (ss_setLcV 4 c (si_range1 T.n_range (sl_cons (se_bi cas_len T.n_len PySem.boot_len (sl_cons (se_name 2) sl_nil)) sl_nil)) (blkOk_by (own := [("throws", 6)]) (N := N_least_expected) (sc := defScope D_least_expected) (by decide +kernel)) (by decide) (fun _ _ _ _ _ => (sg_name 6 (c.blk).nd)) (fun _ _ _ _ _ => sts_nil) (fun _ _ _ _ _ => (se_call (c.blk) G_open_at_least (sl_cons (se_name 0) (sl_cons (se_name 1) (sl_cons (se_name 6) sl_nil))))) (sw_true rfl rfl rfl (by decide +kernel)))
 (ss_cons (ss_set 5 c.nd (se_call c G_ratio (sl_cons se_int (sl_cons se_int sl_nil))))
 (ss_cons (ss_for (cb := b_least_expected_L1) c (si_range1 T.n_range (sl_cons (se_name 3) sl_nil)) (sg_name 6 c.nd)
 (ss_cons (ss_set 5 c.nd (se_call c G_plus (sl_cons (se_name 5) (sl_cons (se_call c G_ratio (sl_cons (se_ix (se_name 4) (se_name 6)) (sl_cons (se_call c G_power (sl_cons (se_name 1) (sl_cons (se_name 6) sl_nil))) sl_nil))) sl_nil))))
 (ss_wipe [6])))
 (ss_cons (ss_set 7 c.nd (se_call c G_ratio (sl_cons se_int (sl_cons se_int sl_nil))))
 (ss_cons (ss_for (cb := b_least_expected_L2) c (si_range2 T.n_range (sl_cons (se_name 3) (sl_cons (se_bi cas_len T.n_len PySem.boot_len (sl_cons (se_name 2) sl_nil)) sl_nil))) (sg_name 6 c.nd)
 (ss_cons (ss_set 7 c.nd (se_call c G_plus (sl_cons (se_name 7) (sl_cons (se_call c G_ratio (sl_cons (se_ix (se_name 4) (se_name 6)) (sl_cons (se_call c G_power (sl_cons (se_name 1) (sl_cons (se_name 6) sl_nil))) sl_nil))) sl_nil))))
 (ss_wipe [6])))
 (ss_cons (ss_set 8 c.nd (se_call c G_power (sl_cons (se_name 1) (sl_cons (se_op ops_sub (se_bi cas_len T.n_len PySem.boot_len (sl_cons (se_name 2) sl_nil)) (se_name 3)) sl_nil))))
 (ss_cons (ss_ret (se_call c G_plus (sl_cons (se_name 5) (sl_cons (se_call c G_ratio (sl_cons (se_op (ops_mul false) (se_ix (se_name 7) se_int) (se_name 8)) (sl_cons (se_op (ops_mul false) (se_ix (se_name 7) se_int) (se_op ops_sub (se_name 8) se_int)) sl_nil))) sl_nil))))
 ss_nil))))))))))).tidy
theorem ok_law_thirds_right (T : Txt K mg C) (G_digits : Df P w K mg base C "digits" 3 7 r_digits) (G_least_open : Df P w K mg base C "least_open" 3 7 r_least_open) (G_how_many_best : Df P w K mg base C "how_many_best" 3 7 r_how_many_best) (G_least_expected : Df P w K mg base C "least_expected" 2 7 r_least_expected) : Df P w K mg base C "_law_thirds_right" 1 8 r_law_thirds_right :=
 (df_of (k := 7) T.d_law_thirds_right sc_law_thirds_right (fun _ _ _ _ _ _ us hl => match us, hl with | [_], _ => rfl) fun f cdv A outer s H E c =>
 (ss_cons (ss_set 1 c.nd (se_ix (se_lst false (sl_cons (se_tup (sl_cons (se_tup (sl_cons se_int (sl_cons se_int sl_nil))) (sl_cons (se_tup (sl_cons se_int (sl_cons se_int sl_nil))) sl_nil))) (sl_cons (se_tup (sl_cons (se_tup (sl_cons se_int (sl_cons se_int sl_nil))) (sl_cons (se_tup (sl_cons se_int (sl_cons se_int sl_nil))) sl_nil))) sl_nil))) (se_name 0)))
 (ss_cons (ss_set 2 c.nd (se_lst false (sl_cons (se_tup (sl_cons se_int (sl_cons se_int sl_nil))) (sl_cons (se_tup (sl_cons se_int (sl_cons se_int sl_nil))) (sl_cons (se_tup (sl_cons se_int (sl_cons se_int sl_nil))) (sl_cons (se_tup (sl_cons se_int (sl_cons se_int sl_nil))) (sl_cons (se_tup (sl_cons se_int (sl_cons se_int sl_nil))) sl_nil)))))))
 (ss_cons (ss_if (st_cmp (ops_ne c.h64) (se_lcV c (si_range1 T.n_range (sl_cons se_int sl_nil)) (blkOk_by (own := [("_law_place", 3)]) (N := N_law_thirds_right) (sc := defScope D_law_thirds_right) (by decide +kernel)) (by decide) (fun _ _ _ _ _ => (sg_name 3 (c.blk).nd)) (fun _ _ _ _ _ => sts_nil) (fun _ _ _ _ _ => (se_call (c.blk) G_digits (sl_cons (se_name 1) (sl_cons se_int (sl_cons (se_name 3) sl_nil)))))) (se_lcV c (si_seq (se_name 2)) (blkOk_by (own := [("_law_row", 4)]) (N := N_law_thirds_right) (sc := defScope D_law_thirds_right) (by decide +kernel)) (by decide) (fun _ _ _ _ _ => (sg_name 4 (c.blk).nd)) (fun _ _ _ _ _ => sts_nil) (fun _ _ _ _ _ => (se_if (st_cmp (ops_eq (c.blk).h64) (se_name 0) se_int) (se_name 4) (se_rev false (se_name 4))))))
 (ss_cons (ss_ret se_bl)
 ss_nil)
 ss_nil)
 (ss_cons (ss_if (st_cmp (ops_ne c.h64) (se_lcV c (si_range1 T.n_range (sl_cons se_int sl_nil)) (blkOk_by (own := [("_law_throws", 5)]) (N := N_law_thirds_right) (sc := defScope D_law_thirds_right) (by decide +kernel)) (by decide) (fun _ _ _ _ _ => (sg_name 5 (c.blk).nd)) (fun _ _ _ _ _ => sts_nil) (fun _ _ _ _ _ => (se_call (c.blk) G_least_open (sl_cons (se_name 1) (sl_cons se_int (sl_cons (se_name 5) sl_nil)))))) (se_lst false (sl_cons se_int (sl_cons se_int (sl_cons se_int (sl_cons se_int sl_nil))))))
 (ss_cons (ss_ret se_bl)
 ss_nil)
 ss_nil)
 (ss_cons (ss_if (st_cmp (ops_ne c.h64) (se_lcV c (si_range1 T.n_range (sl_cons se_int sl_nil)) (blkOk_by (own := [("_law_throws", 5)]) (N := N_law_thirds_right) (sc := defScope D_law_thirds_right) (by decide +kernel)) (by decide) (fun _ _ _ _ _ => (sg_name 5 (c.blk).nd)) (fun _ _ _ _ _ => sts_nil) (fun _ _ _ _ _ => (se_call (c.blk) G_how_many_best (sl_cons (se_name 1) (sl_cons se_int (sl_cons (se_name 5) sl_nil)))))) (se_lst false (sl_cons se_int (sl_cons se_int (sl_cons se_int (sl_cons se_int sl_nil))))))
 (ss_cons (ss_ret se_bl)
 ss_nil)
 ss_nil)
 (ss_cons (ss_if (st_of (sw_or (st_cmp (ops_ne c.h64) (se_call c G_least_expected (sl_cons (se_name 1) (sl_cons se_int sl_nil))) (se_tup (sl_cons se_int (sl_cons se_int sl_nil)))) (sw_or1 (st_cmp (ops_ne c.h64) (se_call c G_least_expected (sl_cons (se_name 1) (sl_cons se_int sl_nil))) (se_tup (sl_cons se_int (sl_cons se_int sl_nil)))))))
 (ss_cons (ss_ret se_bl)
 ss_nil)
 ss_nil)
 (ss_cons (ss_ret (se_cmp (ops_eq c.h64) (se_lcV c (si_seq (se_tup (sl_cons se_int (sl_cons se_int (sl_cons se_int sl_nil))))) (blkOk_by (own := [("_law_throws", 5)]) (N := N_law_thirds_right) (sc := defScope D_law_thirds_right) (by decide +kernel)) (by decide) (fun _ _ _ _ _ => (sg_name 5 (c.blk).nd)) (fun _ _ _ _ _ => sts_nil) (fun _ _ _ _ _ => (se_call (c.blk) G_how_many_best (sl_cons (se_name 1) (sl_cons se_int (sl_cons (se_name 5) sl_nil)))))) (se_lst false (sl_cons se_int (sl_cons se_int (sl_cons se_int sl_nil))))))
 ss_nil)))))))).tidy
theorem ok_law_six_right (T : Txt K mg C) (G_least_open : Df P w K mg base C "least_open" 3 7 r_least_open) (G_least_expected : Df P w K mg base C "least_expected" 2 7 r_least_expected) (G_how_many_best : Df P w K mg base C "how_many_best" 3 7 r_how_many_best) (G_digits : Df P w K mg base C "digits" 3 7 r_digits) : Df P w K mg base C "_law_six_right" 0 8 r_law_six_right :=
 (df_of (k := 7) T.d_law_six_right sc_law_six_right (fun _ _ _ _ _ _ us hl => match us, hl with | [], _ => rfl) fun f cdv A outer s H E c =>
 (ss_cons (ss_set 0 c.nd (se_op (ops_mul false) (se_tup (sl_cons (se_tup (sl_cons se_int (sl_cons se_int sl_nil))) sl_nil)) se_int))
 (ss_cons (ss_if (st_cmp (ops_ne c.h64) (se_lcV c (si_range1 T.n_range (sl_cons se_int sl_nil)) (blkOk_by (own := [("_law_throws", 1)]) (N := N_law_six_right) (sc := defScope D_law_six_right) (by decide +kernel)) (by decide) (fun _ _ _ _ _ => (sg_name 1 (c.blk).nd)) (fun _ _ _ _ _ => sts_nil) (fun _ _ _ _ _ => (se_call (c.blk) G_least_open (sl_cons (se_name 0) (sl_cons se_int (sl_cons (se_name 1) sl_nil)))))) (se_lst false (sl_cons se_int (sl_cons se_int (sl_cons se_int (sl_cons se_int (sl_cons se_int (sl_cons se_int sl_nil))))))))
 (ss_cons (ss_ret se_bl)
 ss_nil)
 ss_nil)
 (ss_cons (ss_if (st_of (sw_or (st_cmp (ops_ne c.h64) (se_call c G_least_expected (sl_cons (se_name 0) (sl_cons se_int sl_nil))) (se_tup (sl_cons se_int (sl_cons se_int sl_nil)))) (sw_or1 (st_cmp (ops_ne c.h64) (se_call c G_least_expected (sl_cons (se_name 0) (sl_cons se_int sl_nil))) (se_tup (sl_cons se_int (sl_cons se_int sl_nil)))))))
 (ss_cons (ss_ret se_bl)
 ss_nil)
 ss_nil)
 (ss_cons (ss_ret (se_and (se_cmp (ops_eq c.h64) (se_call c G_how_many_best (sl_cons (se_name 0) (sl_cons se_int (sl_cons se_int sl_nil)))) se_int) (se_one (se_cmp (ops_eq c.h64) (se_call c G_digits (sl_cons (se_name 0) (sl_cons se_int (sl_cons se_int sl_nil)))) (se_tup (sl_cons se_int (sl_cons se_int (sl_cons se_int (sl_cons se_int (sl_cons se_int (sl_cons se_int sl_nil)))))))))))
 ss_nil))))).tidy
theorem ok_law_sure_right (T : Txt K mg C) (G_least_open : Df P w K mg base C "least_open" 3 7 r_least_open) (G_least_expected : Df P w K mg base C "least_expected" 2 7 r_least_expected) (G_how_many_best : Df P w K mg base C "how_many_best" 3 7 r_how_many_best) (G_digits : Df P w K mg base C "digits" 3 7 r_digits) (G_is_chances : Df P w K mg base C "is_chances" 1 5 r_is_chances) : Df P w K mg base C "_law_sure_right" 0 8 r_law_sure_right :=
 (df_of (k := 7) T.d_law_sure_right sc_law_sure_right (fun _ _ _ _ _ _ us hl => match us, hl with | [], _ => rfl) fun f cdv A outer s H E c =>
 (ss_cons (ss_for (cb := b_law_sure_right_L1) c (si_seq (se_tup (sl_cons (se_tup (sl_cons (se_tup (sl_cons se_int (sl_cons se_int sl_nil))) sl_nil)) (sl_cons (se_tup (sl_cons (se_tup (sl_cons se_int (sl_cons se_int sl_nil))) (sl_cons (se_tup (sl_cons se_int (sl_cons se_int sl_nil))) sl_nil))) (sl_cons (se_tup (sl_cons (se_tup (sl_cons se_int (sl_cons se_int sl_nil))) (sl_cons (se_tup (sl_cons se_int (sl_cons se_int sl_nil))) (sl_cons (se_tup (sl_cons se_int (sl_cons se_int sl_nil))) sl_nil)))) sl_nil))))) (sg_name 0 c.nd)
 (ss_cons (ss_setLcV 1 c (si_seq (se_tup (sl_cons se_int (sl_cons se_int (sl_cons se_int sl_nil))))) (blkOk_by (own := [("_law_throws", 3)]) (N := N_law_sure_right) (sc := defScope D_law_sure_right) (by decide +kernel)) (by decide) (fun _ _ _ _ _ => (sg_name 3 (c.blk).nd)) (fun _ _ _ _ _ => sts_nil) (fun _ _ _ _ _ => (se_call (c.blk) G_least_open (sl_cons (se_name 0) (sl_cons se_int (sl_cons (se_name 3) sl_nil))))) (sw_true rfl rfl rfl (by decide +kernel)))
 (ss_cons (ss_if (st_of (sw_or (st_cmp (ops_ne c.h64) (se_name 1) (se_lst false (sl_cons se_int (sl_cons se_int (sl_cons se_int sl_nil))))) (sw_or (st_cmp (ops_ne c.h64) (se_call c G_least_expected (sl_cons (se_name 0) (sl_cons se_int sl_nil))) (se_tup (sl_cons se_int (sl_cons se_int sl_nil)))) (sw_or1 (st_cmp (ops_ne c.h64) (se_call c G_how_many_best (sl_cons (se_name 0) (sl_cons se_int (sl_cons se_int sl_nil)))) se_int)))))
 (ss_cons (ss_ret se_bl)
 ss_nil)
 ss_nil)
 (ss_cons (ss_if (st_of (sw_or (st_cmp (ops_ne c.h64) (se_call c G_digits (sl_cons (se_name 0) (sl_cons se_int (sl_cons se_int sl_nil)))) (se_ty cas_tuple T.n_tuple (by decide +kernel) (sl_cons (se_lcV c (si_seq (se_name 0)) (blkOk_by (own := [("_law_top", 4), ("_law_bottom", 5)]) (N := N_law_sure_right) (sc := defScope D_law_sure_right) (by decide +kernel)) (by decide) (fun _ _ _ _ _ => (sg_tup (c.blk).calm (sgs_cons (sg_name 4 (c.blk).nd) (sgs_cons (sg_name 5 (c.blk).nd) sgs_nil)))) (fun _ _ _ _ _ => sts_nil) (fun _ _ _ _ _ => (se_name 4))) sl_nil))) (sw_or1 (st_cmp ops_isnt (se_call c G_is_chances (sl_cons (se_name 0) sl_nil)) se_bl))))
 (ss_cons (ss_ret se_bl)
 ss_nil)
 ss_nil)
 (ss_wipe [0, 1])))))
 (ss_cons (ss_set 2 c.nd (se_tup (sl_cons (se_tup (sl_cons se_int (sl_cons se_int sl_nil))) (sl_cons (se_tup (sl_cons se_int (sl_cons se_int sl_nil))) (sl_cons (se_tup (sl_cons se_int (sl_cons se_int sl_nil))) sl_nil)))))
 (ss_cons (ss_if (st_of (sw_or (st_cmp (ops_ne c.h64) (se_call c G_digits (sl_cons (se_name 2) (sl_cons se_int (sl_cons se_int sl_nil)))) (se_tup (sl_cons se_int (sl_cons se_int (sl_cons se_int sl_nil))))) (sw_or1 (st_cmp (ops_ne c.h64) (se_call c G_digits (sl_cons (se_name 2) (sl_cons se_int (sl_cons se_int sl_nil)))) (se_tup (sl_cons se_int (sl_cons se_int (sl_cons se_int sl_nil))))))))
 (ss_cons (ss_ret se_bl)
 ss_nil)
 ss_nil)
 (ss_cons (ss_ret (se_and (se_cmp (ops_eq c.h64) (se_call c G_least_expected (sl_cons (se_name 2) (sl_cons se_int sl_nil))) (se_tup (sl_cons se_int (sl_cons se_int sl_nil)))) (se_one (se_cmp (ops_eq c.h64) (se_call c G_least_expected (sl_cons (se_name 2) (sl_cons se_int sl_nil))) (se_tup (sl_cons se_int (sl_cons se_int sl_nil)))))))
 ss_nil))))).tidy
theorem ok_law (T : Txt K mg C) (G_law_cell_at : Df P w K mg base C "_law_cell_at" 2 1 r_law_cell_at) (G_law_pen : Df P w K mg base C "_law_pen" 1 1 r_law_pen) (G_law_draw : Df P w K mg base C "_law_draw" 2 1 r_law_draw) (G_law_thirds_right : Df P w K mg base C "_law_thirds_right" 1 8 r_law_thirds_right) (G_law_six_right : Df P w K mg base C "_law_six_right" 0 8 r_law_six_right) (G_law_sure_right : Df P w K mg base C "_law_sure_right" 0 8 r_law_sure_right) : Df P w K mg base C "law" 1 9 r_law :=
 (df_of (k := 8) T.d_law sc_law (fun _ _ _ _ _ _ us hl => match us, hl with | [_], _ => rfl) fun f cdv A outer s H E c =>
 (ss_cons (ss_for (cb := b_law_L1) c (si_range1 T.n_range (sl_cons (se_bi (cas_max2 c.calm) T.n_max PyProof.Rows.boot_max (sl_cons se_int (sl_cons (se_bi (cas_min2 c.calm) T.n_min (by decide +kernel) (sl_cons (se_bi cas_len T.n_len PySem.boot_len (sl_cons (se_name 0) sl_nil)) (sl_cons se_int sl_nil))) sl_nil))) sl_nil)) (sg_name 1 c.nd)
 (ss_cons (ss_if (st_not (st_val (se_call c G_law_thirds_right (sl_cons (se_call c G_law_draw (sl_cons (se_call c G_law_pen (sl_cons (se_call c G_law_cell_at (sl_cons (se_name 0) (sl_cons (se_name 1) sl_nil))) sl_nil)) (sl_cons se_int sl_nil))) sl_nil))))
 (ss_cons (ss_ret se_bl)
 ss_nil)
 ss_nil)
 (ss_wipe [1])))
 (ss_cons (ss_ret (se_and (se_call0 c G_law_six_right) (se_one (se_call0 c G_law_sure_right))))
 ss_nil))).tidy
end
def dx_law_cell_at : DfX := ⟨gA "_law_cell_at", "_law_cell_at", "_law_cell_at", D_law_cell_at⟩
def dx_law_pen : DfX := ⟨gA "_law_pen", "_law_pen", "_law_pen", D_law_pen⟩
def dx_law_draw : DfX := ⟨gA "_law_draw", "_law_draw", "_law_draw", D_law_draw⟩
def dx_is_integer : DfX := ⟨gA "is_integer", "is_integer", "is_integer", D_is_integer⟩
def dx_greatest_divisor : DfX := ⟨gA "greatest_divisor", "greatest_divisor", "greatest_divisor", D_greatest_divisor⟩
def dx_is_fraction : DfX := ⟨gA "is_fraction", "is_fraction", "is_fraction", D_is_fraction⟩
def dx_ratio : DfX := ⟨gA "ratio", "ratio", "ratio", D_ratio⟩
def dx_plus : DfX := ⟨gA "plus", "plus", "plus", D_plus⟩
def dx_added : DfX := ⟨gA "added", "added", "added", D_added⟩
def dx_common_bottom : DfX := ⟨gA "common_bottom", "common_bottom", "common_bottom", D_common_bottom⟩
def dx_is_chances : DfX := ⟨gA "is_chances", "is_chances", "is_chances", D_is_chances⟩
def dx_check_chances : DfX := ⟨gA "check_chances", "check_chances", "check_chances", D_check_chances⟩
def dx_is_between : DfX := ⟨gA "is_between", "is_between", "is_between", D_is_between⟩
def dx_check_sides : DfX := ⟨gA "check_sides", "check_sides", "check_sides", D_check_sides⟩
def dx_check_throws : DfX := ⟨gA "check_throws", "check_throws", "check_throws", D_check_throws⟩
def dx_power : DfX := ⟨gA "power", "power", "power", D_power⟩
def dx_floors : DfX := ⟨gA "floors", "floors", "floors", D_floors⟩
def dx_digits_at : DfX := ⟨gA "digits_at", "digits_at", "digits_at", D_digits_at⟩
def dx_digits : DfX := ⟨gA "digits", "digits", "digits", D_digits⟩
def dx_open_at_least : DfX := ⟨gA "open_at_least", "open_at_least", "open_at_least", D_open_at_least⟩
def dx_least_open : DfX := ⟨gA "least_open", "least_open", "least_open", D_least_open⟩
def dx_arrangements : DfX := ⟨gA "arrangements", "arrangements", "arrangements", D_arrangements⟩
def dx_how_many_best : DfX := ⟨gA "how_many_best", "how_many_best", "how_many_best", D_how_many_best⟩
def dx_rests : DfX := ⟨gA "rests", "rests", "rests", D_rests⟩
def dx_course : DfX := ⟨gA "course", "course", "course", D_course⟩
def dx_least_expected : DfX := ⟨gA "least_expected", "least_expected", "least_expected", D_least_expected⟩
def dx_law_thirds_right : DfX := ⟨gA "_law_thirds_right", "_law_thirds_right", "_law_thirds_right", D_law_thirds_right⟩
def dx_law_six_right : DfX := ⟨gA "_law_six_right", "_law_six_right", "_law_six_right", D_law_six_right⟩
def dx_law_sure_right : DfX := ⟨gA "_law_sure_right", "_law_sure_right", "_law_sure_right", D_law_sure_right⟩
def dx_law : DfX := ⟨gA "law", "law", "law", D_law⟩
def fas : List FaX := [faA (.free "abs"), faA (.free "all"), faA (.free "bool"), faA (.free "int"), faA (.free "isinstance"), faA (.free "len"), faA (.free "max"), faA (.free "min"), faA (.free "range"), faA (.free "sum"), faA (.free "tuple"), faA (.free "zip"), faA (.int "LEAST_SIDES" 2), faA (.int "MOST_BOTTOM" 30), faA (.int "MOST_OUTCOMES" 6), faA (.int "MOST_SIDES" 6), faA (.int "MOST_THROWS" 60), faTup "ONE" 1 1, faTup "ZERO" 0 1, faA (.glo "ChancesError"), faA (.exc "ChancesError"), faA (.glo "SidesError"), faA (.exc "SidesError"), faA (.glo "ThrowsError"), faA (.exc "ThrowsError"), faA (.glo "_law_cell_at"), faA (.glo "_law_pen"), faA (.glo "_law_draw"), faA (.glo "is_integer"), faA (.glo "greatest_divisor"), faA (.glo "is_fraction"), faA (.glo "ratio"), faA (.glo "plus"), faA (.glo "added"), faA (.glo "common_bottom"), faA (.glo "is_chances"), faA (.glo "check_chances"), faA (.glo "is_between"), faA (.glo "check_sides"), faA (.glo "check_throws"), faA (.glo "power"), faA (.glo "floors"), faA (.glo "digits_at"), faA (.glo "digits"), faA (.glo "open_at_least"), faA (.glo "least_open"), faA (.glo "arrangements"), faA (.glo "how_many_best"), faA (.glo "rests"), faA (.glo "course"), faA (.glo "least_expected"), faA (.glo "_law_thirds_right"), faA (.glo "_law_six_right"), faA (.glo "_law_sure_right"), faA (.glo "law")]
def fns : List DfX := [dx_law_cell_at, dx_law_pen, dx_law_draw, dx_is_integer, dx_greatest_divisor, dx_is_fraction, dx_ratio, dx_plus, dx_added, dx_common_bottom, dx_is_chances, dx_check_chances, dx_is_between, dx_check_sides, dx_check_throws, dx_power, dx_floors, dx_digits_at, dx_digits, dx_open_at_least, dx_least_open, dx_arrangements, dx_how_many_best, dx_rests, dx_course, dx_least_expected, dx_law_thirds_right, dx_law_six_right, dx_law_sure_right, dx_law]
theorem all_ok {P : Program} {w : World} {mg : Str → Option Value} {h : Heap} {K : PySem.W.Frag} (X : K.In h) (G : h.Ns mainGlobals mg) (c : SaysX fas fns K) :
    ∃ C, ∀ base : Heap, K.In base → base.Ns mainGlobals mg → Df P w K mg base C "law" 1 9 r_law := by
  obtain ⟨fd_law_cell_at, F_law_cell_at⟩ := c.def_ 0 (d := dx_law_cell_at) rfl
  obtain ⟨fd_law_pen, F_law_pen⟩ := c.def_ 1 (d := dx_law_pen) rfl
  obtain ⟨fd_law_draw, F_law_draw⟩ := c.def_ 2 (d := dx_law_draw) rfl
  obtain ⟨fd_is_integer, F_is_integer⟩ := c.def_ 3 (d := dx_is_integer) rfl
  obtain ⟨fd_greatest_divisor, F_greatest_divisor⟩ := c.def_ 4 (d := dx_greatest_divisor) rfl
  obtain ⟨fd_is_fraction, F_is_fraction⟩ := c.def_ 5 (d := dx_is_fraction) rfl
  obtain ⟨fd_ratio, F_ratio⟩ := c.def_ 6 (d := dx_ratio) rfl
  obtain ⟨fd_plus, F_plus⟩ := c.def_ 7 (d := dx_plus) rfl
  obtain ⟨fd_added, F_added⟩ := c.def_ 8 (d := dx_added) rfl
  obtain ⟨fd_common_bottom, F_common_bottom⟩ := c.def_ 9 (d := dx_common_bottom) rfl
  obtain ⟨fd_is_chances, F_is_chances⟩ := c.def_ 10 (d := dx_is_chances) rfl
  obtain ⟨fd_check_chances, F_check_chances⟩ := c.def_ 11 (d := dx_check_chances) rfl
  obtain ⟨fd_is_between, F_is_between⟩ := c.def_ 12 (d := dx_is_between) rfl
  obtain ⟨fd_check_sides, F_check_sides⟩ := c.def_ 13 (d := dx_check_sides) rfl
  obtain ⟨fd_check_throws, F_check_throws⟩ := c.def_ 14 (d := dx_check_throws) rfl
  obtain ⟨fd_power, F_power⟩ := c.def_ 15 (d := dx_power) rfl
  obtain ⟨fd_floors, F_floors⟩ := c.def_ 16 (d := dx_floors) rfl
  obtain ⟨fd_digits_at, F_digits_at⟩ := c.def_ 17 (d := dx_digits_at) rfl
  obtain ⟨fd_digits, F_digits⟩ := c.def_ 18 (d := dx_digits) rfl
  obtain ⟨fd_open_at_least, F_open_at_least⟩ := c.def_ 19 (d := dx_open_at_least) rfl
  obtain ⟨fd_least_open, F_least_open⟩ := c.def_ 20 (d := dx_least_open) rfl
  obtain ⟨fd_arrangements, F_arrangements⟩ := c.def_ 21 (d := dx_arrangements) rfl
  obtain ⟨fd_how_many_best, F_how_many_best⟩ := c.def_ 22 (d := dx_how_many_best) rfl
  obtain ⟨fd_rests, F_rests⟩ := c.def_ 23 (d := dx_rests) rfl
  obtain ⟨fd_course, F_course⟩ := c.def_ 24 (d := dx_course) rfl
  obtain ⟨fd_least_expected, F_least_expected⟩ := c.def_ 25 (d := dx_least_expected) rfl
  obtain ⟨fd_law_thirds_right, F_law_thirds_right⟩ := c.def_ 26 (d := dx_law_thirds_right) rfl
  obtain ⟨fd_law_six_right, F_law_six_right⟩ := c.def_ 27 (d := dx_law_six_right) rfl
  obtain ⟨fd_law_sure_right, F_law_sure_right⟩ := c.def_ 28 (d := dx_law_sure_right) rfl
  obtain ⟨fd_law, F_law⟩ := c.def_ 29 (d := dx_law) rfl
  have T : Txt K mg (excA K) := ⟨He.free_ok X G (c.fact 0 (f := faA (.free "abs")) rfl),
    He.free_ok X G (c.fact 1 (f := faA (.free "all")) rfl),
    He.free_ok X G (c.fact 2 (f := faA (.free "bool")) rfl),
    He.free_ok X G (c.fact 3 (f := faA (.free "int")) rfl),
    He.free_ok X G (c.fact 4 (f := faA (.free "isinstance")) rfl),
    He.free_ok X G (c.fact 5 (f := faA (.free "len")) rfl),
    He.free_ok X G (c.fact 6 (f := faA (.free "max")) rfl),
    He.free_ok X G (c.fact 7 (f := faA (.free "min")) rfl),
    He.free_ok X G (c.fact 8 (f := faA (.free "range")) rfl),
    He.free_ok X G (c.fact 9 (f := faA (.free "sum")) rfl),
    He.free_ok X G (c.fact 10 (f := faA (.free "tuple")) rfl),
    He.free_ok X G (c.fact 11 (f := faA (.free "zip")) rfl),
    int_ok' X G (c.fact 12 (f := faA (.int "LEAST_SIDES" 2)) rfl),
    int_ok' X G (c.fact 13 (f := faA (.int "MOST_BOTTOM" 30)) rfl),
    int_ok' X G (c.fact 14 (f := faA (.int "MOST_OUTCOMES" 6)) rfl),
    int_ok' X G (c.fact 15 (f := faA (.int "MOST_SIDES" 6)) rfl),
    int_ok' X G (c.fact 16 (f := faA (.int "MOST_THROWS" 60)) rfl),
    tup_ok X G (c.fact 17 (f := faTup "ONE" 1 1) rfl),
    tup_ok X G (c.fact 18 (f := faTup "ZERO" 0 1) rfl),
    exc_ok' (n := 2) X G rfl (c.fact 19 (f := faA (.glo "ChancesError")) rfl) (c.fact 20 (f := faA (.exc "ChancesError")) rfl),
    exc_ok' (n := 0) X G rfl (c.fact 21 (f := faA (.glo "SidesError")) rfl) (c.fact 22 (f := faA (.exc "SidesError")) rfl),
    exc_ok' (n := 1) X G rfl (c.fact 23 (f := faA (.glo "ThrowsError")) rfl) (c.fact 24 (f := faA (.exc "ThrowsError")) rfl),
    ⟨_, fd_law_cell_at, He.glo_ok X G (c.fact 25 (f := faA (.glo "_law_cell_at")) rfl), F_law_cell_at⟩,
    ⟨_, fd_law_pen, He.glo_ok X G (c.fact 26 (f := faA (.glo "_law_pen")) rfl), F_law_pen⟩,
    ⟨_, fd_law_draw, He.glo_ok X G (c.fact 27 (f := faA (.glo "_law_draw")) rfl), F_law_draw⟩,
    ⟨_, fd_is_integer, He.glo_ok X G (c.fact 28 (f := faA (.glo "is_integer")) rfl), F_is_integer⟩,
    ⟨_, fd_greatest_divisor, He.glo_ok X G (c.fact 29 (f := faA (.glo "greatest_divisor")) rfl), F_greatest_divisor⟩,
    ⟨_, fd_is_fraction, He.glo_ok X G (c.fact 30 (f := faA (.glo "is_fraction")) rfl), F_is_fraction⟩,
    ⟨_, fd_ratio, He.glo_ok X G (c.fact 31 (f := faA (.glo "ratio")) rfl), F_ratio⟩,
    ⟨_, fd_plus, He.glo_ok X G (c.fact 32 (f := faA (.glo "plus")) rfl), F_plus⟩,
    ⟨_, fd_added, He.glo_ok X G (c.fact 33 (f := faA (.glo "added")) rfl), F_added⟩,
    ⟨_, fd_common_bottom, He.glo_ok X G (c.fact 34 (f := faA (.glo "common_bottom")) rfl), F_common_bottom⟩,
    ⟨_, fd_is_chances, He.glo_ok X G (c.fact 35 (f := faA (.glo "is_chances")) rfl), F_is_chances⟩,
    ⟨_, fd_check_chances, He.glo_ok X G (c.fact 36 (f := faA (.glo "check_chances")) rfl), F_check_chances⟩,
    ⟨_, fd_is_between, He.glo_ok X G (c.fact 37 (f := faA (.glo "is_between")) rfl), F_is_between⟩,
    ⟨_, fd_check_sides, He.glo_ok X G (c.fact 38 (f := faA (.glo "check_sides")) rfl), F_check_sides⟩,
    ⟨_, fd_check_throws, He.glo_ok X G (c.fact 39 (f := faA (.glo "check_throws")) rfl), F_check_throws⟩,
    ⟨_, fd_power, He.glo_ok X G (c.fact 40 (f := faA (.glo "power")) rfl), F_power⟩,
    ⟨_, fd_floors, He.glo_ok X G (c.fact 41 (f := faA (.glo "floors")) rfl), F_floors⟩,
    ⟨_, fd_digits_at, He.glo_ok X G (c.fact 42 (f := faA (.glo "digits_at")) rfl), F_digits_at⟩,
    ⟨_, fd_digits, He.glo_ok X G (c.fact 43 (f := faA (.glo "digits")) rfl), F_digits⟩,
    ⟨_, fd_open_at_least, He.glo_ok X G (c.fact 44 (f := faA (.glo "open_at_least")) rfl), F_open_at_least⟩,
    ⟨_, fd_least_open, He.glo_ok X G (c.fact 45 (f := faA (.glo "least_open")) rfl), F_least_open⟩,
    ⟨_, fd_arrangements, He.glo_ok X G (c.fact 46 (f := faA (.glo "arrangements")) rfl), F_arrangements⟩,
    ⟨_, fd_how_many_best, He.glo_ok X G (c.fact 47 (f := faA (.glo "how_many_best")) rfl), F_how_many_best⟩,
    ⟨_, fd_rests, He.glo_ok X G (c.fact 48 (f := faA (.glo "rests")) rfl), F_rests⟩,
    ⟨_, fd_course, He.glo_ok X G (c.fact 49 (f := faA (.glo "course")) rfl), F_course⟩,
    ⟨_, fd_least_expected, He.glo_ok X G (c.fact 50 (f := faA (.glo "least_expected")) rfl), F_least_expected⟩,
    ⟨_, fd_law_thirds_right, He.glo_ok X G (c.fact 51 (f := faA (.glo "_law_thirds_right")) rfl), F_law_thirds_right⟩,
    ⟨_, fd_law_six_right, He.glo_ok X G (c.fact 52 (f := faA (.glo "_law_six_right")) rfl), F_law_six_right⟩,
    ⟨_, fd_law_sure_right, He.glo_ok X G (c.fact 53 (f := faA (.glo "_law_sure_right")) rfl), F_law_sure_right⟩,
    ⟨_, fd_law, He.glo_ok X G (c.fact 54 (f := faA (.glo "law")) rfl), F_law⟩⟩
  refine ⟨excA K, fun base _ _ => ?_⟩
  have G_law_cell_at := ok_law_cell_at (P := P) (w := w) (base := base) T 
  have G_law_pen := ok_law_pen (P := P) (w := w) (base := base) T 
  have G_law_draw := ok_law_draw (P := P) (w := w) (base := base) T 
  have G_is_integer := ok_is_integer (P := P) (w := w) (base := base) T 
  have G_greatest_divisor := ok_greatest_divisor (P := P) (w := w) (base := base) T 
  have G_is_fraction := ok_is_fraction (P := P) (w := w) (base := base) T G_is_integer G_greatest_divisor
  have G_ratio := ok_ratio (P := P) (w := w) (base := base) T G_greatest_divisor
  have G_plus := ok_plus (P := P) (w := w) (base := base) T G_ratio
  have G_added := ok_added (P := P) (w := w) (base := base) T G_plus
  have G_common_bottom := ok_common_bottom (P := P) (w := w) (base := base) T G_greatest_divisor
  have G_is_chances := ok_is_chances (P := P) (w := w) (base := base) T G_is_fraction G_added G_common_bottom
  have G_check_chances := ok_check_chances (P := P) (w := w) (base := base) T G_is_chances
  have G_is_between := ok_is_between (P := P) (w := w) (base := base) T G_is_integer
  have G_check_sides := ok_check_sides (P := P) (w := w) (base := base) T G_is_between
  have G_check_throws := ok_check_throws (P := P) (w := w) (base := base) T G_is_between
  have G_power := ok_power (P := P) (w := w) (base := base) T 
  have G_floors := ok_floors (P := P) (w := w) (base := base) T G_power
  have G_digits_at := ok_digits_at (P := P) (w := w) (base := base) T G_floors
  have G_digits := ok_digits (P := P) (w := w) (base := base) T G_check_chances G_check_sides G_check_throws G_digits_at
  have G_open_at_least := ok_open_at_least (P := P) (w := w) (base := base) T G_power G_floors
  have G_least_open := ok_least_open (P := P) (w := w) (base := base) T G_check_chances G_check_sides G_check_throws G_open_at_least
  have G_arrangements := ok_arrangements (P := P) (w := w) (base := base) T 
  have G_how_many_best := ok_how_many_best (P := P) (w := w) (base := base) T G_check_chances G_check_sides G_check_throws G_open_at_least G_digits_at G_arrangements
  have G_rests := ok_rests (P := P) (w := w) (base := base) T G_common_bottom G_power
  have G_course := ok_course (P := P) (w := w) (base := base) T G_rests
  have G_least_expected := ok_least_expected (P := P) (w := w) (base := base) T G_check_chances G_check_sides G_course G_open_at_least G_ratio G_power G_plus
  have G_law_thirds_right := ok_law_thirds_right (P := P) (w := w) (base := base) T G_digits G_least_open G_how_many_best G_least_expected
  have G_law_six_right := ok_law_six_right (P := P) (w := w) (base := base) T G_least_open G_least_expected G_how_many_best G_digits
  have G_law_sure_right := ok_law_sure_right (P := P) (w := w) (base := base) T G_least_open G_least_expected G_how_many_best G_digits G_is_chances
  have G_law := ok_law (P := P) (w := w) (base := base) T G_law_cell_at G_law_pen G_law_draw G_law_thirds_right G_law_six_right G_law_sure_right
  exact G_law
def nm0 : List PySem.Str := ["__name__", "ChoiceError", "ChancesError", "SidesError", "ThrowsError", "ZERO", "ONE", "is_integer", "is_between", "greatest_divisor", "ratio", "is_fraction", "plus", "added", "power", "common_bottom", "MOST_OUTCOMES", "MOST_BOTTOM", "LEAST_SIDES", "MOST_SIDES", "MOST_THROWS", "is_chances", "check_chances", "check_sides", "check_throws"]
def nm1 : List PySem.Str := ["floors", "open_at_least", "digits_at", "digits", "least_open", "arrangements", "how_many_best", "rests", "course", "least_expected", "_law_cell_at", "_law_pen", "_law_draw", "_law_thirds_right", "_law_six_right", "_law_sure_right"]
def nms : List PySem.Str := nm0 ++ nm1
abbrev Rw : PySem.W.OpenRow := PySem.W.OpenLaw.row PySem.Challenge.rw_flipchoice_k06_chances_by_hand
abbrev qv : Program := PySem.W.view Rw.prog [44]
abbrev hkX : PySem.W.Hook := hookX 4 fas fns
def obX (s : PySem.W.SharedT) : AlX := obsXG 4 fas fns (HandSHeadRun.getT s)
theorem obX_eq (s : PySem.W.SharedT) : obX s = hkX.obs s.abs := obsXG_eq (HandSHeadRun.getT_eq s)
theorem runX (w : World) : HandSHeadRun.RunEq Rw qv hkX obX 40000 nms w := by
  intro os
  kernel_rfl
end Fc
open PySem PySem.W PySem.Calls PyProof.Rows
theorem PySem.Challenge.cw_flipchoice_k06_chances_by_hand_holds : PySem.Challenge.rw_flipchoice_k06_chances_by_hand.Holds := by
  w_on; o_law
  refine HandSHeadRun.head_any (r := OpenLaw.row PySem.Challenge.rw_flipchoice_k06_chances_by_hand) (q := view (OpenLaw.row PySem.Challenge.rw_flipchoice_k06_chances_by_hand).prog [44]) (H := Fc.hkX) (ob := Fc.obX) (M := 40000) (loose := Fc.nms) (d := HandSHeadRun.topDef (OpenLaw.row PySem.Challenge.rw_flipchoice_k06_chances_by_hand).prog 44) (kwd := []) Fc.obX_eq
    (by kernel_rfl) (fun s => by kernel_rfl) Fc.runX (by kernel_rfl) (by kernel_rfl) (by kernel_rfl) (by rfl) (by first | assumption | decide +kernel) (by decide +kernel) ⟨rfl, rfl, rfl, rfl, rfl, by decide +kernel⟩ ?hw ?hc
  case hw => w_witness2
  case hc =>
    refine Fc.walk_denX (l := PySem.Challenge.rw_flipchoice_k06_chances_by_hand) (k := 9) (den := Fc.r_law) (fa := Fc.fas) (fn := Fc.fns) rfl rfl rfl ⟨rfl, by decide, by decide⟩ ?F Fc.says_law
    intro w mg h K KX G c
    exact Fc.all_ok KX G c
