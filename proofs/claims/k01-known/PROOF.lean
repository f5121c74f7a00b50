import PyProof.Rows.All
import Wide.All
import OpenK.AllK
import Wide.FinOn
import HandS.ForMost
import HandS.ForExc
import HandS.Wide
import HandS.IsInst
import HandS.Deep
import HandS.TupAny
import HandS.TupMul
import HandS.Zip
import HandS.Style
import HandS.Conv
import HandS.EndBits
import HandS.Property
import HandS.Head0
import HandS.Head1
import HandS.Head2
import HandS.HeadEnd
import HandS.HeadHook1
import HandS.Star
import HandS.TryMany
import PyProof.Draws
import HandS.DictComp
import HandS.More
import HandS.Iter
import KE.KTupSum
import HandS.SetFor
import HandS.Dict
import HandS.HeadHook2
import PySem.Challenge.RW_flipchoice_k01_chances_known
set_option Elab.async false
set_option linter.all false
set_option maxRecDepth 100000
set_option exponentiation.threshold 256
set_option maxHeartbeats 4000000
set_option maxHeartbeats 4000000
namespace Fc
open PySem L2
inductive Dv where
  | non | bl (b : Bool) | int (i : Int) | str (x : Str) | tup (ds : List Dv) | ntp (ds : List Dv) | fz (ds : List Dv) | ref (n : Nat) | obj (c : Nat) (fs : List (Str × Dv)) | dct (kvs : List (Key × Dv))
  deriving Inhabited
def clsNm : Nat → Str
  | 0 => "Chooser" | 1 => "Best" | 2 => "Capped" | 3 => "Rejecting" | 4 => "Hand" | 5 => "Frozen" | 6 => "Trial" | _ => "object"
def clsA (K : PySem.W.Frag) (c : Nat) : Addr := match PySem.W.nsIn K mainGlobals (clsNm c) with
  | some (some (.ref a)) => a
  | _ => 0
inductive Ob where
  | lst (ds : List Dv) | dic (kvs : List (Key × Dv)) | ldic (kvs : List (Key × Dv)) | ins (c : Nat) (fs : List (Str × Dv))
  deriving Inhabited
abbrev Sto := List Ob
inductive Res (α : Type) where
  | ok (a : α) (S : Sto) | exn (c : Nat) (S : Sto) | stuck
def Res.bd {α β : Type} (r : Res α) (f : α → Sto → Res β) : Res β :=
  match r with
  | .ok a S => f a S
  | .exn c S => .exn c S
  | .stuck => .stuck
@[simp] theorem Res.bd_ok {α β : Type} (a : α) (S : Sto) (f : α → Sto → Res β) : (Res.ok a S).bd f = f a S := rfl
@[simp] theorem Res.bd_exn {α β : Type} (c : Nat) (S : Sto) (f : α → Sto → Res β) : (Res.exn c S : Res α).bd f = .exn c S := rfl
@[simp] theorem Res.bd_stuck {α β : Type} (f : α → Sto → Res β) : (Res.stuck : Res α).bd f = .stuck := rfl
abbrev Ev := List (Option Dv)
inductive Out where
  | nx (ρ : Ev) | rt (d : Dv) | bk (ρ : Ev) | ct (ρ : Ev) | ex (c : Nat) (ρ : Ev)
abbrev DE := Ev → Sto → Res Dv
abbrev DT := Ev → Sto → Res Bool
abbrev DL := Ev → Sto → Res (List Dv)
abbrev DS := Ev → Sto → Res Out
theorem big_ex : ∃ n : Nat, n = 1000000000000 := ⟨_, rfl⟩
noncomputable def big : Nat := Classical.choose big_ex
theorem big_eq : big = 1000000000000 := Classical.choose_spec big_ex
theorem lt_big {n : Nat} (h : n < 1000000000000) : n < big := by
  rw [big_eq]
  exact h
def lim : Nat := 100000
structure Mu where
  tr : List Addr
  hd : List Addr
def Mu.add (μ : Mu) (p : Addr) : Mu := ⟨μ.tr ++ [p], μ.hd⟩
def Mu.hide (μ : Mu) (p : Addr) : Mu := ⟨μ.tr, p :: μ.hd⟩
def Mu.out (μ : Mu) (a : Addr) : Prop := a ∉ μ.tr ∧ a ∉ μ.hd
def Fzl (K : PySem.W.Frag) (H : Hp) (μ : Mu) (a : Addr) (xs : List V) : Prop :=
  (∃ o, H a = some (.frz o (.lst xs))) ∨ (SqL K (fun _ => none) a xs) ∨ (H a = some (.lst xs) ∧ μ.out a)
theorem Fzl.seq {K : PySem.W.Frag} {H : Hp} {μ : Mu} {a : Addr} {xs : List V} (h : Fzl K H μ a xs) : SqL K H a xs := by
  rcases h with h | h | h
  · exact .inl (.inr h)
  · rcases h with (h | ⟨o, h⟩) | h
    · cases h
    · cases h
    · exact .inr h
  · exact SqL.of h.1
mutual
def VR (K : PySem.W.Frag) (H : Hp) (μ : Mu) : Dv → V → Prop
  | .non, v => v = .non
  | .bl b, v => v = .bl b
  | .int i, v => v = .int i
  | .str x, v => v = .str x
  | .tup ds, v => ∃ a vs, v = .ref a ∧ SqT K H a vs ∧ VRs K H μ ds vs
  | .ntp ds, v => ∃ a vs, v = .ref a ∧ (∃ o, o.dict = none ∧ H a = some (.frz o (.tup vs))) ∧ VRs K H μ ds vs
  | .fz ds, v => ∃ a vs, v = .ref a ∧ Fzl K H μ a vs ∧ VRs K H μ ds vs
  | .ref n, v => ∃ a, μ.tr[n]? = some a ∧ v = .ref a
  | .obj c fs, v => ∃ a dx gs, v = .ref a ∧ μ.out a ∧ H a = some (.ins (clsA K c) dx gs) ∧ VRf K H μ fs gs
  | .dct kvs, v => ∃ a kws, v = .ref a ∧ μ.out a ∧ H a = some (.dK kws) ∧ VRk K H μ kvs kws
def VRf (K : PySem.W.Frag) (H : Hp) (μ : Mu) : List (Str × Dv) → List (Str × V) → Prop
  | [], gs => gs = []
  | (f, d) :: fs, gs => ∃ v r, gs = (f, v) :: r ∧ VR K H μ d v ∧ VRf K H μ fs r
def VRk (K : PySem.W.Frag) (H : Hp) (μ : Mu) : List (Key × Dv) → List (Key × V) → Prop
  | [], gs => gs = []
  | (f, d) :: fs, gs => ∃ v r, gs = (f, v) :: r ∧ VR K H μ d v ∧ VRk K H μ fs r
def VRs (K : PySem.W.Frag) (H : Hp) (μ : Mu) : List Dv → List V → Prop
  | [], vs => vs = []
  | d :: ds, vs => ∃ v r, vs = v :: r ∧ VR K H μ d v ∧ VRs K H μ ds r
end
structure Aw (K : PySem.W.Frag) (μ : Mu) (H : Hp) (μ' : Mu) (H' : Hp) : Prop where
  pre : ∃ ν, μ'.tr = μ.tr ++ ν ∧ ∀ x ∈ ν, H x = none
  hd : ∀ x o, x ∉ μ.hd → H x = some o → x ∉ μ'.hd
  keep : ∀ a o, μ.out a → H a = some o → H' a = some o
  there : ∀ a, H a ≠ none → H' a ≠ none
  tup : ∀ a xs, SqT K H a xs → SqT K H' a xs
  frz : ∀ a o u, H a = some (.frz o u) → H' a = some (.frz o u)
structure Aft (K : PySem.W.Frag) (μ : Mu) (H : Hp) (μ' : Mu) (H' : Hp) : Prop where
  aw : Aw K μ H μ' H'
  hid : μ'.hd = μ.hd
  all : ∀ a o, a ∉ μ.tr → H a = some o → H' a = some o
section
variable {K : PySem.W.Frag} {H H' H1 H2 : Hp} {μ μ' μ1 μ2 : Mu}
theorem Aw.refl : Aw K μ H μ H := ⟨⟨[], by simp, by simp⟩, fun _ _ h _ => h, fun _ _ _ h => h, fun _ h => h, fun _ _ h => h, fun _ _ _ h => h⟩
theorem Aft.refl : Aft K μ H μ H := ⟨.refl, rfl, fun _ _ _ h => h⟩
theorem Aw.outTr (a : Aw K μ H μ' H') {x : Addr} {o : HO} (h : x ∉ μ.tr) (e : H x = some o) : x ∉ μ'.tr := by
  obtain ⟨ν, q, hn⟩ := a.pre
  rw [q]
  intro hm
  rcases List.mem_append.mp hm with z | z
  · exact h z
  · rw [hn x z] at e
    cases e
theorem Aw.out (a : Aw K μ H μ' H') {x : Addr} {o : HO} (h : μ.out x) (e : H x = some o) : μ'.out x := ⟨a.outTr h.1 e, a.hd x o h.2 e⟩
theorem Aw.trans (a : Aw K μ H μ1 H1) (b : Aw K μ1 H1 μ2 H2) : Aw K μ H μ2 H2 := by
  obtain ⟨ν, a0, a00⟩ := a.pre
  obtain ⟨ξ, b0, b00⟩ := b.pre
  refine ⟨⟨ν ++ ξ, by rw [b0, a0, List.append_assoc], fun x hx => ?_⟩, fun x o h e => ?_, fun x o h e => b.keep x o (a.out h e) (a.keep x o h e), fun x h => b.there x (a.there x h), fun x xs h => b.tup x xs (a.tup x xs h), fun x o xs h => b.frz x o xs (a.frz x o xs h)⟩
  · rcases List.mem_append.mp hx with z | z
    · exact a00 x z
    · cases e : H x with
      | none => rfl
      | some q => exact absurd (b00 x z) (a.there x (by rw [e]; exact Option.some_ne_none q))
  · have n1 := a.hd x o h e
    cases e1 : H1 x with
    | none => exact absurd e1 (a.there x (by rw [e]; exact Option.some_ne_none o))
    | some q => exact b.hd x q n1 e1
theorem Aft.trans (a : Aft K μ H μ1 H1) (b : Aft K μ1 H1 μ2 H2) : Aft K μ H μ2 H2 :=
  ⟨a.aw.trans b.aw, b.hid.trans a.hid, fun x o h e => b.all x o (a.aw.outTr h e) (a.all x o h e)⟩
theorem Aw.fzl (a : Aw K μ H μ' H') {x : Addr} {xs : List V} (h : Fzl K H μ x xs) : Fzl K H' μ' x xs := by
  rcases h with ⟨o, h⟩ | h | ⟨h, n⟩
  · exact .inl ⟨o, a.frz _ _ _ h⟩
  · exact .inr (.inl h)
  · exact .inr (.inr ⟨a.keep _ _ n h, a.out n h⟩)
theorem Aw.at (a : Aw K μ H μ' H') {n : Nat} {x : Addr} (h : μ.tr[n]? = some x) : μ'.tr[n]? = some x := by
  obtain ⟨ν, e, _⟩ := a.pre
  rw [e, List.getElem?_append_left (List.getElem?_eq_some_iff.mp h).1]
  exact h
theorem Aft.at (a : Aft K μ H μ' H') {n : Nat} {x : Addr} (h : μ.tr[n]? = some x) : μ'.tr[n]? = some x := a.aw.at h
mutual
theorem VR.weak (a : Aw K μ H μ' H') : ∀ {d : Dv} {v : V}, VR K H μ d v → VR K H' μ' d v
  | .non, _, h => by simpa [VR] using h
  | .bl _, _, h => by simpa [VR] using h
  | .int _, _, h => by simpa [VR] using h
  | .str _, _, h => by simpa [VR] using h
  | .tup ds, _, h => by
    simp only [VR] at h ⊢
    obtain ⟨x, vs, e, h1, h2⟩ := h
    exact ⟨x, vs, e, a.tup _ _ h1, VRs.weak a h2⟩
  | .ntp ds, _, h => by
    simp only [VR] at h ⊢
    obtain ⟨x, vs, e, ⟨o, h0, h1⟩, h2⟩ := h
    exact ⟨x, vs, e, ⟨o, h0, a.frz _ _ _ h1⟩, VRs.weak a h2⟩
  | .fz ds, _, h => by
    simp only [VR] at h ⊢
    obtain ⟨x, vs, e, h1, h2⟩ := h
    exact ⟨x, vs, e, a.fzl h1, VRs.weak a h2⟩
  | .ref n, _, h => by
    simp only [VR] at h ⊢
    obtain ⟨x, h1, e⟩ := h
    exact ⟨x, a.at h1, e⟩
  | .obj c fs, _, h => by
    simp only [VR] at h ⊢
    obtain ⟨x, dx, gs, e, h1, h2, h3⟩ := h
    exact ⟨x, dx, gs, e, a.out h1 h2, a.keep _ _ h1 h2, VRf.weak a h3⟩
  | .dct kvs, _, h => by
    simp only [VR] at h ⊢
    obtain ⟨x, gs, e, h1, h2, h3⟩ := h
    exact ⟨x, gs, e, a.out h1 h2, a.keep _ _ h1 h2, VRk.weak a h3⟩
theorem VRf.weak (a : Aw K μ H μ' H') : ∀ {ds : List (Str × Dv)} {vs : List (Str × V)}, VRf K H μ ds vs → VRf K H' μ' ds vs
  | [], _, h => by simpa [VRf] using h
  | (f, d) :: ds, _, h => by
    simp only [VRf] at h ⊢
    obtain ⟨v, r, e, h1, h2⟩ := h
    exact ⟨v, r, e, VR.weak a h1, VRf.weak a h2⟩
theorem VRk.weak (a : Aw K μ H μ' H') : ∀ {ds : List (Key × Dv)} {vs : List (Key × V)}, VRk K H μ ds vs → VRk K H' μ' ds vs
  | [], _, h => by simpa [VRk] using h
  | (f, d) :: ds, _, h => by
    simp only [VRk] at h ⊢
    obtain ⟨v, r, e, h1, h2⟩ := h
    exact ⟨v, r, e, VR.weak a h1, VRk.weak a h2⟩
theorem VRs.weak (a : Aw K μ H μ' H') : ∀ {ds : List Dv} {vs : List V}, VRs K H μ ds vs → VRs K H' μ' ds vs
  | [], _, h => by simpa [VRs] using h
  | d :: ds, _, h => by
    simp only [VRs] at h ⊢
    obtain ⟨v, r, e, h1, h2⟩ := h
    exact ⟨v, r, e, VR.weak a h1, VRs.weak a h2⟩
end
theorem VR.mono (a : Aft K μ H μ' H') {d : Dv} {v : V} (h : VR K H μ d v) : VR K H' μ' d v := h.weak a.aw
theorem VRs.mono (a : Aft K μ H μ' H') {ds : List Dv} {vs : List V} (h : VRs K H μ ds vs) : VRs K H' μ' ds vs := h.weak a.aw
theorem VRf.mono (a : Aft K μ H μ' H') {ds : List (Str × Dv)} {vs : List (Str × V)} (h : VRf K H μ ds vs) : VRf K H' μ' ds vs := h.weak a.aw
theorem VRk.mono (a : Aft K μ H μ' H') {ds : List (Key × Dv)} {vs : List (Key × V)} (h : VRk K H μ ds vs) : VRk K H' μ' ds vs := h.weak a.aw
@[simp] theorem VR_non {v : V} : VR K H μ .non v ↔ v = .non := by simp [VR]
@[simp] theorem VR_bl {b : Bool} {v : V} : VR K H μ (.bl b) v ↔ v = .bl b := by simp [VR]
@[simp] theorem VR_int {i : Int} {v : V} : VR K H μ (.int i) v ↔ v = .int i := by simp [VR]
@[simp] theorem VR_str {x : Str} {v : V} : VR K H μ (.str x) v ↔ v = .str x := by simp [VR]
theorem VR_tup {ds : List Dv} {v : V} : VR K H μ (.tup ds) v ↔ ∃ a vs, v = .ref a ∧ SqT K H a vs ∧ VRs K H μ ds vs := by simp [VR]
theorem VR_ntp {ds : List Dv} {v : V} : VR K H μ (.ntp ds) v ↔ ∃ a vs, v = .ref a ∧ (∃ o, o.dict = none ∧ H a = some (.frz o (.tup vs))) ∧ VRs K H μ ds vs := by simp [VR]
theorem VR_fz {ds : List Dv} {v : V} : VR K H μ (.fz ds) v ↔ ∃ a vs, v = .ref a ∧ Fzl K H μ a vs ∧ VRs K H μ ds vs := by simp [VR]
theorem VR_ref {n : Nat} {v : V} : VR K H μ (.ref n) v ↔ ∃ a, μ.tr[n]? = some a ∧ v = .ref a := by simp [VR]
theorem VR_obj {c : Nat} {fs : List (Str × Dv)} {v : V} : VR K H μ (.obj c fs) v ↔ ∃ a dx gs, v = .ref a ∧ μ.out a ∧ H a = some (.ins (clsA K c) dx gs) ∧ VRf K H μ fs gs := by simp [VR]
theorem VR_dct {kvs : List (Key × Dv)} {v : V} : VR K H μ (.dct kvs) v ↔ ∃ a kws, v = .ref a ∧ μ.out a ∧ H a = some (.dK kws) ∧ VRk K H μ kvs kws := by simp [VR]
theorem VRf_nil {gs : List (Str × V)} : VRf K H μ [] gs ↔ gs = [] := by simp [VRf]
theorem VRk_nil {gs : List (Key × V)} : VRk K H μ [] gs ↔ gs = [] := by simp [VRk]
theorem VRf_cons {f : Str} {d : Dv} {fs : List (Str × Dv)} {gs : List (Str × V)} : VRf K H μ ((f, d) :: fs) gs ↔ ∃ v r, gs = (f, v) :: r ∧ VR K H μ d v ∧ VRf K H μ fs r := by simp [VRf]
theorem VRk_cons {f : Key} {d : Dv} {fs : List (Key × Dv)} {gs : List (Key × V)} : VRk K H μ ((f, d) :: fs) gs ↔ ∃ v r, gs = (f, v) :: r ∧ VR K H μ d v ∧ VRk K H μ fs r := by simp [VRk]
theorem VRs_nil {vs : List V} : VRs K H μ [] vs ↔ vs = [] := by simp [VRs]
theorem VRs_cons {d : Dv} {ds : List Dv} {vs : List V} : VRs K H μ (d :: ds) vs ↔ ∃ v r, vs = v :: r ∧ VR K H μ d v ∧ VRs K H μ ds r := by simp [VRs]
theorem VRs.length : ∀ {ds : List Dv} {vs : List V}, VRs K H μ ds vs → ds.length = vs.length
  | [], _, h => by rw [VRs_nil.mp h]; rfl
  | d :: ds, _, h => by
    obtain ⟨v, r, rfl, _, h2⟩ := VRs_cons.mp h
    simp [VRs.length h2]
theorem VRs.get : ∀ {ds : List Dv} {vs : List V} {i : Nat} {d : Dv}, VRs K H μ ds vs → ds[i]? = some d → ∃ v, vs[i]? = some v ∧ VR K H μ d v
  | [], _, _, _, _, e => by simp at e
  | d :: ds, _, 0, _, h, e => by
    obtain ⟨v, r, rfl, h1, h2⟩ := VRs_cons.mp h
    simp at e
    subst e
    exact ⟨v, rfl, h1⟩
  | d :: ds, _, i + 1, _, h, e => by
    obtain ⟨v, r, rfl, h1, h2⟩ := VRs_cons.mp h
    obtain ⟨w, q1, q2⟩ := VRs.get (i := i) h2 (by simpa using e)
    exact ⟨w, by simpa using q1, q2⟩
theorem VRs.of_get : ∀ {ds : List Dv} {vs : List V}, ds.length = vs.length → (∀ (i : Nat) (d : Dv) (v : V), ds[i]? = some d → vs[i]? = some v → VR K H μ d v) → VRs K H μ ds vs
  | [], [], _, _ => VRs_nil.mpr rfl
  | [], _ :: _, h, _ => by simp at h
  | _ :: _, [], h, _ => by simp at h
  | d :: ds, v :: vs, h, g => VRs_cons.mpr ⟨v, vs, rfl, g 0 d v rfl rfl, VRs.of_get (by simpa using h) fun i d v h1 h2 => g (i + 1) d v (by simpa using h1) (by simpa using h2)⟩
theorem VRs.append : ∀ {ds es : List Dv} {vs ws : List V}, VRs K H μ ds vs → VRs K H μ es ws → VRs K H μ (ds ++ es) (vs ++ ws)
  | [], _, _, _, h, h' => by rw [VRs_nil.mp h]; exact h'
  | d :: ds, _, _, _, h, h' => by
    obtain ⟨v, r, rfl, h1, h2⟩ := VRs_cons.mp h
    exact VRs_cons.mpr ⟨v, _, rfl, h1, VRs.append h2 h'⟩
theorem VRs.take : ∀ {ds : List Dv} {vs : List V} (n : Nat), VRs K H μ ds vs → VRs K H μ (ds.take n) (vs.take n)
  | [], _, n, h => by rw [VRs_nil.mp h]; simp [VRs_nil]
  | _ :: _, _, 0, h => by simp [VRs_nil]
  | d :: ds, _, n + 1, h => by
    obtain ⟨v, r, rfl, h1, h2⟩ := VRs_cons.mp h
    exact VRs_cons.mpr ⟨v, _, rfl, h1, VRs.take n h2⟩
theorem VRs.drop : ∀ {ds : List Dv} {vs : List V} (n : Nat), VRs K H μ ds vs → VRs K H μ (ds.drop n) (vs.drop n)
  | [], _, n, h => by rw [VRs_nil.mp h]; simp [VRs_nil]
  | _ :: _, _, 0, h => h
  | d :: ds, _, n + 1, h => by
    obtain ⟨v, r, rfl, h1, h2⟩ := VRs_cons.mp h
    exact VRs.drop n h2
theorem VRs.set : ∀ {ds : List Dv} {vs : List V} {d : Dv} {v : V} (n : Nat), VRs K H μ ds vs → VR K H μ d v → VRs K H μ (ds.set n d) (vs.set n v)
  | [], _, _, _, n, h, _ => by rw [VRs_nil.mp h]; simp [VRs_nil]
  | _ :: _, _, _, _, 0, h, q => by
    obtain ⟨v, r, rfl, h1, h2⟩ := VRs_cons.mp h
    exact VRs_cons.mpr ⟨_, _, rfl, q, h2⟩
  | d :: ds, _, _, _, n + 1, h, q => by
    obtain ⟨v, r, rfl, h1, h2⟩ := VRs_cons.mp h
    exact VRs_cons.mpr ⟨_, _, rfl, h1, VRs.set n h2 q⟩
theorem VRs.reverse {ds : List Dv} {vs : List V} (h : VRs K H μ ds vs) : VRs K H μ ds.reverse vs.reverse := by
  refine VRs.of_get (by simp [h.length]) fun i d v h1 h2 => ?_
  have hl := h.length
  have i1 : i < ds.length := by have := (List.getElem?_eq_some_iff.mp h1).1; simpa using this
  rw [List.getElem?_reverse i1] at h1
  rw [List.getElem?_reverse (by omega)] at h2
  obtain ⟨w, e, r⟩ := h.get h1
  rw [hl, h2] at e
  cases e
  exact r
theorem VRs.rep {ds : List Dv} {vs : List V} (h : VRs K H μ ds vs) : ∀ k : Nat, VRs K H μ (List.replicate k ds).flatten (List.replicate k vs).flatten
  | 0 => VRs_nil.mpr rfl
  | k + 1 => by
    rw [List.replicate_succ, List.replicate_succ, List.flatten_cons, List.flatten_cons]
    exact h.append (VRs.rep h k)
theorem VRs.ints : ∀ {ns : List Int} {vs : List V}, VRs K H μ (ns.map Dv.int) vs ↔ vs = ns.map V.int
  | [], _ => by simp [VRs_nil]
  | n :: ns, vs => by
    rw [List.map_cons, List.map_cons, VRs_cons]
    constructor
    · rintro ⟨v, r, rfl, h1, h2⟩
      rw [VR_int.mp h1, VRs.ints.mp h2]
    · rintro rfl
      exact ⟨_, _, rfl, VR_int.mpr rfl, VRs.ints.mpr rfl⟩
end
section
variable {K : PySem.W.Frag} {H H' : Hp} {μ : Mu}
end
section
variable {K : PySem.W.Frag} {H : Hp} {μ μ' : Mu}
mutual
theorem VR.mu (tr : ∀ (n : Nat) (x : Addr), μ.tr[n]? = some x → μ'.tr[n]? = some x) (out : ∀ x, μ.out x → μ'.out x) : ∀ {d : Dv} {v : V}, VR K H μ d v → VR K H μ' d v
  | .non, _, h => by simpa [VR] using h
  | .bl _, _, h => by simpa [VR] using h
  | .int _, _, h => by simpa [VR] using h
  | .str _, _, h => by simpa [VR] using h
  | .tup ds, _, h => by
    obtain ⟨x, vs, e, h1, h2⟩ := VR_tup.mp h
    exact VR_tup.mpr ⟨x, vs, e, h1, VRs.mu tr out h2⟩
  | .ntp ds, _, h => by
    obtain ⟨x, vs, e, h1, h2⟩ := VR_ntp.mp h
    exact VR_ntp.mpr ⟨x, vs, e, h1, VRs.mu tr out h2⟩
  | .fz ds, _, h => by
    obtain ⟨x, vs, e, h1, h2⟩ := VR_fz.mp h
    refine VR_fz.mpr ⟨x, vs, e, ?_, VRs.mu tr out h2⟩
    rcases h1 with h1 | h1 | ⟨h1, z⟩
    · exact .inl h1
    · exact .inr (.inl h1)
    · exact .inr (.inr ⟨h1, out x z⟩)
  | .ref n, _, h => by
    obtain ⟨x, h1, e⟩ := VR_ref.mp h
    exact VR_ref.mpr ⟨x, tr n x h1, e⟩
  | .obj c fs, _, h => by
    obtain ⟨x, dx, gs, e, h1, h2, h3⟩ := VR_obj.mp h
    exact VR_obj.mpr ⟨x, dx, gs, e, out x h1, h2, VRf.mu tr out h3⟩
  | .dct kvs, _, h => by
    obtain ⟨x, gs, e, h1, h2, h3⟩ := VR_dct.mp h
    exact VR_dct.mpr ⟨x, gs, e, out x h1, h2, VRk.mu tr out h3⟩
theorem VRs.mu (tr : ∀ (n : Nat) (x : Addr), μ.tr[n]? = some x → μ'.tr[n]? = some x) (out : ∀ x, μ.out x → μ'.out x) : ∀ {ds : List Dv} {vs : List V}, VRs K H μ ds vs → VRs K H μ' ds vs
  | [], _, h => by simpa [VRs] using h
  | d :: ds, _, h => by
    obtain ⟨v, r, e, h1, h2⟩ := VRs_cons.mp h
    exact VRs_cons.mpr ⟨v, r, e, VR.mu tr out h1, VRs.mu tr out h2⟩
theorem VRf.mu (tr : ∀ (n : Nat) (x : Addr), μ.tr[n]? = some x → μ'.tr[n]? = some x) (out : ∀ x, μ.out x → μ'.out x) : ∀ {ds : List (Str × Dv)} {vs : List (Str × V)}, VRf K H μ ds vs → VRf K H μ' ds vs
  | [], _, h => by simpa [VRf] using h
  | (f, d) :: ds, _, h => by
    obtain ⟨v, r, e, h1, h2⟩ := VRf_cons.mp h
    exact VRf_cons.mpr ⟨v, r, e, VR.mu tr out h1, VRf.mu tr out h2⟩
theorem VRk.mu (tr : ∀ (n : Nat) (x : Addr), μ.tr[n]? = some x → μ'.tr[n]? = some x) (out : ∀ x, μ.out x → μ'.out x) : ∀ {ds : List (Key × Dv)} {vs : List (Key × V)}, VRk K H μ ds vs → VRk K H μ' ds vs
  | [], _, h => by simpa [VRk] using h
  | (f, d) :: ds, _, h => by
    obtain ⟨v, r, e, h1, h2⟩ := VRk_cons.mp h
    exact VRk_cons.mpr ⟨v, r, e, VR.mu tr out h1, VRk.mu tr out h2⟩
end
end
def KRs (K : PySem.W.Frag) (H : Hp) (μ : Mu) {κ : Type} : List (κ × Dv) → List (κ × V) → Prop
  | [], l => l = []
  | (k, d) :: r, l => ∃ v t, l = (k, v) :: t ∧ VR K H μ d v ∧ KRs K H μ r t
theorem KRs.weak {K : PySem.W.Frag} {H H' : Hp} {μ μ' : Mu} {κ : Type} (a : Aw K μ H μ' H') : ∀ {l : List (κ × Dv)} {m : List (κ × V)}, KRs K H μ l m → KRs K H' μ' l m
  | [], _, h => h
  | (k, d) :: r, _, h => by
    obtain ⟨v, t, rfl, h1, h2⟩ := h
    exact ⟨v, t, rfl, h1.weak a, KRs.weak a h2⟩
theorem KRs.mono {K : PySem.W.Frag} {H H' : Hp} {μ μ' : Mu} {κ : Type} (a : Aft K μ H μ' H') {l : List (κ × Dv)} {m : List (κ × V)} (h : KRs K H μ l m) : KRs K H' μ' l m := h.weak a.aw
theorem VRf_KRs {K : PySem.W.Frag} {H : Hp} {μ : Mu} : ∀ {l : List (Str × Dv)} {m : List (Str × V)}, VRf K H μ l m ↔ KRs K H μ l m
  | [], _ => by simp [VRf, KRs]
  | (k, d) :: r, m => by
    rw [VRf_cons]
    constructor
    · rintro ⟨v, t, e, h1, h2⟩
      exact ⟨v, t, e, h1, VRf_KRs.mp h2⟩
    · rintro ⟨v, t, e, h1, h2⟩
      exact ⟨v, t, e, h1, VRf_KRs.mpr h2⟩
theorem VRk_KRs {K : PySem.W.Frag} {H : Hp} {μ : Mu} : ∀ {l : List (Key × Dv)} {m : List (Key × V)}, VRk K H μ l m ↔ KRs K H μ l m
  | [], _ => by simp [VRk, KRs]
  | (k, d) :: r, m => by
    rw [VRk_cons]
    constructor
    · rintro ⟨v, t, e, h1, h2⟩
      exact ⟨v, t, e, h1, VRk_KRs.mp h2⟩
    · rintro ⟨v, t, e, h1, h2⟩
      exact ⟨v, t, e, h1, VRk_KRs.mpr h2⟩
def OR (K : PySem.W.Frag) (C : Nat → Addr) (H : Hp) (μ : Mu) : Ob → HO → Prop
  | .lst ds, ho => ∃ vs, ho = .lst vs ∧ VRs K H μ ds vs
  | .dic kvs, ho => ∃ kws, ho = .dK kws ∧ KRs K H μ kvs kws
  | .ldic kvs, ho => ∃ o kws, ho = .frz o (.dK kws) ∧ KRs K H μ kvs kws
  | .ins c fs, ho => ∃ dx gs, ho = .ins (clsA K c) dx gs ∧ KRs K H μ fs gs
theorem OR.weak {K : PySem.W.Frag} {C : Nat → Addr} {H H' : Hp} {μ μ' : Mu} (a : Aw K μ H μ' H') : ∀ {o : Ob} {ho : HO}, OR K C H μ o ho → OR K C H' μ' o ho
  | .lst _, _, ⟨vs, e, h⟩ => ⟨vs, e, h.weak a⟩
  | .dic _, _, ⟨vs, e, h⟩ => ⟨vs, e, h.weak a⟩
  | .ldic _, _, ⟨o, vs, e, h⟩ => ⟨o, vs, e, h.weak a⟩
  | .ins _ _, _, ⟨dx, vs, e, h⟩ => ⟨dx, vs, e, h.weak a⟩
theorem OR.mono {K : PySem.W.Frag} {C : Nat → Addr} {H H' : Hp} {μ μ' : Mu} (a : Aft K μ H μ' H') {o : Ob} {ho : HO} (h : OR K C H μ o ho) : OR K C H' μ' o ho := h.weak a.aw
structure SR (K : PySem.W.Frag) (C : Nat → Addr) (μ : Mu) (S : Sto) (H : Hp) : Prop where
  len : μ.tr.length = S.length
  nd : μ.tr.Nodup
  hids : ∀ x ∈ μ.hd, H x ≠ none
  apart : ∀ x ∈ μ.hd, x ∉ μ.tr
  ob : ∀ (n : Nat) (o : Ob) (a : Addr), S[n]? = some o → μ.tr[n]? = some a → ∃ ho, H a = some ho ∧ OR K C H μ o ho
def Soft : Option HO → Prop
  | some (.tup _) => False
  | some (.frz _ _) => False
  | _ => True
theorem Aw.upd {K : PySem.W.Frag} {H : Hp} {μ : Mu} {p : Addr} {o : HO} (h : Soft (H p)) (hm : ¬ μ.out p ∨ H p = none) : Aw K μ H μ (L2.upd H p o) := by
  refine ⟨⟨[], by simp, by simp⟩, fun _ _ h _ => h, fun a x n e => ?_, fun a n => ?_, fun a xs q => ?_, fun a o xs q => ?_⟩
  · rw [upd_ne]
    · exact e
    · rintro rfl
      rcases hm with z | z
      · exact z n
      · rw [z] at e
        cases e
  · by_cases e : a = p
    · subst e
      rw [upd_same]
      exact Option.some_ne_none _
    · rw [upd_ne e]
      exact n
  · rcases q with (q | ⟨ob, q⟩) | q
    · refine .inl (.inl ?_)
      rw [upd_ne]
      · exact q
      · rintro rfl
        rw [q] at h
        exact h
    · refine .inl (.inr ⟨ob, ?_⟩)
      rw [upd_ne]
      · exact q
      · rintro rfl
        rw [q] at h
        exact h
    · exact .inr q
  · rw [upd_ne]
    · exact q
    · rintro rfl
      rw [q] at h
      exact h
theorem Aft.upd {K : PySem.W.Frag} {H : Hp} {μ : Mu} {p : Addr} {o : HO} (h : Soft (H p)) (hm : p ∈ μ.tr ∨ H p = none) : Aft K μ H μ (L2.upd H p o) := by
  refine ⟨.upd h (hm.imp (fun z n => n.1 z) id), rfl, fun a x n e => ?_⟩
  rw [upd_ne]
  · exact e
  · rintro rfl
    rcases hm with z | z
    · exact n z
    · rw [z] at e
      cases e
theorem Aft.new {K : PySem.W.Frag} {H : Hp} {μ : Mu} {p : Addr} {o : HO} (h : H p = none) : Aft K μ H μ (L2.upd H p o) := Aft.upd (by rw [h]; trivial) (.inr h)
theorem Aft.add {K : PySem.W.Frag} {H : Hp} {μ : Mu} {p : Addr} (h : H p = none) : Aft K μ H (μ.add p) H :=
  ⟨⟨⟨[p], rfl, by simpa using h⟩, fun _ _ h _ => h, fun _ _ _ h => h, fun _ h => h, fun _ _ h => h, fun _ _ _ h => h⟩, rfl, fun _ _ _ h => h⟩
section
variable {K : PySem.W.Frag} {C : Nat → Addr} {H : Hp} {μ : Mu} {S : Sto}
theorem SR.at (s : SR K C μ S H) {n : Nat} {o : Ob} (h : S[n]? = some o) : ∃ a ho, μ.tr[n]? = some a ∧ H a = some ho ∧ OR K C H μ o ho := by
  have hn : n < μ.tr.length := by rw [s.len]; exact (List.getElem?_eq_some_iff.mp h).1
  obtain ⟨ho, h1, h2⟩ := s.ob n o _ h (List.getElem?_eq_getElem hn)
  exact ⟨_, ho, List.getElem?_eq_getElem hn, h1, h2⟩
theorem SR.tracked (s : SR K C μ S H) {n : Nat} {a : Addr} (h : μ.tr[n]? = some a) : ∃ ho, H a = some ho := by
  have hn : n < S.length := by rw [← s.len]; exact (List.getElem?_eq_some_iff.mp h).1
  obtain ⟨ho, h1, h2⟩ := s.ob n _ a (List.getElem?_eq_getElem hn) h
  exact ⟨ho, h1⟩
theorem SR.keep {H' : Hp} (s : SR K C μ S H) (a : Aft K μ H μ H') (k : ∀ (n : Nat) (x : Addr), μ.tr[n]? = some x → H' x = H x) : SR K C μ S H' :=
  ⟨s.len, s.nd, fun x hx => a.aw.there x (s.hids x hx), s.apart, fun n o x h1 h2 => by
    obtain ⟨ho, e, r⟩ := s.ob n o x h1 h2
    exact ⟨ho, (k n x h2).trans e, r.mono a⟩⟩
theorem SR.lay (s : SR K C μ S H) {p : Addr} {o : HO} (h : H p = none) : SR K C μ S (L2.upd H p o) :=
  s.keep (Aft.new h) fun n x e => upd_ne (by
    rintro rfl
    obtain ⟨ho, q⟩ := s.tracked e
    rw [h] at q
    cases q)
theorem SR.alloc_aft (s : SR K C μ S H) {p : Addr} {ho : HO} (h : H p = none) : Aft K μ H (μ.add p) (L2.upd H p ho) :=
  (Aft.add h).trans (Aft.upd (by rw [h]; trivial) (.inl (by simp [Mu.add])))
theorem SR.alloc (s : SR K C μ S H) {p : Addr} {o : Ob} {ho : HO} (h : H p = none) (r : OR K C (L2.upd H p ho) (μ.add p) o ho) : SR K C (μ.add p) (S ++ [o]) (L2.upd H p ho) := by
  have af := s.alloc_aft (ho := ho) h
  refine ⟨by simp [s.len, Mu.add], ?_, fun x hx => af.aw.there x (s.hids x hx), fun x hx => ?_, fun n q x h1 h2 => ?_⟩
  · simp only [Mu.add]
    rw [List.nodup_append]
    refine ⟨s.nd, by simp, fun x hx y hy e => ?_⟩
    simp at hy
    subst hy e
    obtain ⟨n, e⟩ := List.getElem?_of_mem hx
    obtain ⟨_, q⟩ := s.tracked e
    rw [h] at q
    cases q
  · simp only [Mu.add, List.mem_append, not_or]
    refine ⟨s.apart x hx, fun z => ?_⟩
    simp at z
    subst z
    exact s.hids x hx h
  · simp only [Mu.add] at h2
    by_cases hn : n < S.length
    · rw [List.getElem?_append_left hn] at h1
      rw [List.getElem?_append_left (by rw [s.len]; exact hn)] at h2
      obtain ⟨hq, e, r⟩ := s.ob n q x h1 h2
      refine ⟨hq, ?_, r.mono af⟩
      rw [upd_ne]
      · exact e
      · rintro rfl
        rw [h] at e
        cases e
    · have e : n = S.length := by
        have := (List.getElem?_eq_some_iff.mp h1).1
        simp at this
        omega
      subst e
      rw [List.getElem?_append_right (Nat.le_refl _)] at h1
      rw [List.getElem?_append_right (by rw [s.len]; exact Nat.le_refl _), s.len] at h2
      simp at h1 h2
      subst h1 h2
      exact ⟨ho, upd_same, r⟩
theorem SR.put (s : SR K C μ S H) {n : Nat} {a : Addr} {o : Ob} {ho : HO} (h : μ.tr[n]? = some a) (so : Soft (H a)) (r : OR K C (L2.upd H a ho) μ o ho) : SR K C μ (S.set n o) (L2.upd H a ho) := by
  have af : Aft K μ H μ (L2.upd H a ho) := by
    exact Aft.upd so (.inl (List.mem_of_getElem? h))
  refine ⟨by simp [s.len], s.nd, fun x hx => af.aw.there x (s.hids x hx), s.apart, fun m q x h1 h2 => ?_⟩
  by_cases e : m = n
  · subst e
    have hl : m < S.length := by
      have := (List.getElem?_eq_some_iff.mp h1).1
      simpa using this
    rw [List.getElem?_set_self hl] at h1
    rw [h] at h2
    cases h1
    cases h2
    exact ⟨ho, upd_same, r⟩
  · rw [List.getElem?_set_ne (Ne.symm e)] at h1
    obtain ⟨hq, e1, r1⟩ := s.ob m q x h1 h2
    refine ⟨hq, ?_, r1.mono af⟩
    rw [upd_ne]
    · exact e1
    · rintro rfl
      exact e (nodup_ix' s.nd h2 h)
where
  nodup_ix' {l : List Addr} (hN : l.Nodup) {i j : Nat} {x : Addr} (a : l[i]? = some x) (b : l[j]? = some x) : i = j := by
    obtain ⟨h1, e1⟩ := List.getElem?_eq_some_iff.mp a
    obtain ⟨h2, e2⟩ := List.getElem?_eq_some_iff.mp b
    exact (List.getElem_inj hN).mp (e1.trans e2.symm)
theorem SR.put_aft (s : SR K C μ S H) {n : Nat} {a : Addr} {ho : HO} (h : μ.tr[n]? = some a) (so : Soft (H a)) : Aft K μ H μ (L2.upd H a ho) := Aft.upd so (.inl (List.mem_of_getElem? h))
end
theorem SR.keepw {K : PySem.W.Frag} {C : Nat → Addr} {H H' : Hp} {μ μ' : Mu} {S : Sto} (s : SR K C μ S H) (a : Aw K μ H μ' H') (e : μ'.tr = μ.tr) (k : ∀ (n : Nat) (x : Addr), μ.tr[n]? = some x → H' x = H x) (hh : ∀ x ∈ μ'.hd, H' x ≠ none ∧ x ∉ μ.tr) : SR K C μ' S H' :=
  ⟨by rw [e]; exact s.len, by rw [e]; exact s.nd, fun x hx => (hh x hx).1, fun x hx => by rw [e]; exact (hh x hx).2, fun n o x h1 h2 => by
    rw [e] at h2
    obtain ⟨ho, q, r⟩ := s.ob n o x h1 h2
    exact ⟨ho, (k n x h2).trans q, r.weak a⟩⟩
theorem SR.notin {K : PySem.W.Frag} {C : Nat → Addr} {H : Hp} {μ : Mu} {S : Sto} (s : SR K C μ S H) {p : Addr} (h : H p = none) : p ∉ μ.tr := fun hm => by
  obtain ⟨n, e⟩ := List.getElem?_of_mem hm
  obtain ⟨_, q⟩ := s.tracked e
  rw [h] at q
  cases q
theorem Aw.hide {K : PySem.W.Frag} {H : Hp} {μ : Mu} {p : Addr} {o : HO} (h : H p = none) : Aw K μ H (μ.hide p) (L2.upd H p o) := by
  refine ⟨⟨[], by simp [Mu.hide], by simp⟩, fun x o' n e => ?_, fun a x n e => ?_, fun a n => ?_, fun a xs q => ?_, fun a o xs q => ?_⟩
  · simp only [Mu.hide, List.mem_cons, not_or]
    refine ⟨?_, n⟩
    rintro rfl
    rw [h] at e
    cases e
  · rw [upd_ne]
    · exact e
    · rintro rfl
      rw [h] at e
      cases e
  · by_cases e : a = p
    · subst e
      exact absurd h n
    · rw [upd_ne e]
      exact n
  · exact ((Aft.new (K := K) (μ := μ) h).aw.tup a xs q)
  · exact ((Aft.new (K := K) (μ := μ) h).aw.frz a o xs q)
theorem Aw.unhide {K : PySem.W.Frag} {H : Hp} {μ : Mu} {l : List Addr} (h : ∀ x ∈ l, x ∈ μ.hd) : Aw K μ H ⟨μ.tr, l⟩ H :=
  ⟨⟨[], by simp, by simp⟩, fun x _ n _ z => n (h x z), fun _ _ _ e => e, fun _ e => e, fun _ _ e => e, fun _ _ _ e => e⟩
theorem Aft.unh {K : PySem.W.Frag} {H H' : Hp} {μ μ' : Mu} (a : Aft K μ H μ' H') (l : List Addr) : Aft K ⟨μ.tr, l⟩ H ⟨μ'.tr, l⟩ H' :=
  ⟨⟨a.aw.pre, fun _ _ h _ => h, fun x o n e => a.all x o n.1 e, a.aw.there, a.aw.tup, a.aw.frz⟩, rfl, a.all⟩
theorem Aft.patch {K : PySem.W.Frag} {H H' : Hp} {μ μ' : Mu} (a : Aft K μ H μ' H') {p : Addr} {o : HO} (h : H p = none) : Aft K μ H μ' (L2.upd H' p o) := by
  have ne : ∀ x q, H x = some q → x ≠ p := by
    rintro x q e rfl
    rw [h] at e
    cases e
  refine ⟨⟨a.aw.pre, a.aw.hd, fun x q n e => ?_, fun x n => ?_, fun x xs q => ?_, fun x o xs q => ?_⟩, a.hid, fun x q n e => ?_⟩
  · rw [upd_ne (ne x q e)]
    exact a.aw.keep x q n e
  · by_cases e : x = p
    · subst e
      exact absurd h n
    · rw [upd_ne e]
      exact a.aw.there x n
  · have e2 : x = p → ∃ r, K.lookup x = some r := fun e => by
      rcases q with (q | ⟨ob, q⟩) | ⟨_, _, _, q, _⟩
      · exact absurd e (ne _ _ q)
      · exact absurd e (ne _ _ q)
      · exact ⟨_, q⟩
    rcases q with (q | ⟨ob, q⟩) | q
    · have z := a.aw.tup x xs (.inl (.inl q))
      have nx := ne _ _ q
      rcases z with (z | ⟨ob, z⟩) | z
      · exact .inl (.inl (by rw [upd_ne nx]; exact z))
      · exact .inl (.inr ⟨ob, by rw [upd_ne nx]; exact z⟩)
      · exact .inr z
    · have z := a.aw.tup x xs (.inl (.inr ⟨ob, q⟩))
      have nx := ne _ _ q
      rcases z with (z | ⟨ob, z⟩) | z
      · exact .inl (.inl (by rw [upd_ne nx]; exact z))
      · exact .inl (.inr ⟨ob, by rw [upd_ne nx]; exact z⟩)
      · exact .inr z
    · exact .inr q
  · rw [upd_ne (ne _ _ q)]
    exact a.aw.frz x o xs q
  · rw [upd_ne (ne x q e)]
    exact a.all x q n e
structure Rl (K : PySem.W.Frag) (C : Nat → Addr) (μ : Mu) (ρ : Ev) (S : Sto) (σ : L2.St) (H : Hp) : Prop where
  sr : SR K C μ S H
  len : ρ.length = σ.length
  sl : ∀ (i : Nat) (d : Dv), ρ[i]? = some (some d) → ∃ v, σ[i]? = some (some v) ∧ VR K H μ d v
section
variable {K : PySem.W.Frag} {C : Nat → Addr} {H H' H1 : Hp} {μ μ' μ1 : Mu} {S S' : Sto} {ρ : Ev} {σ : L2.St} {W : WX} {α β : Type}
theorem Rl.next (r : Rl K C μ ρ S σ H) (a : Aft K μ H μ' H') (s : SR K C μ' S' H') : Rl K C μ' ρ S' σ H' :=
  ⟨s, r.len, fun i d e => by
    obtain ⟨v, h1, h2⟩ := r.sl i d e
    exact ⟨v, h1, h2.mono a⟩⟩
theorem Rl.weak (r : Rl K C μ ρ S σ H) (a : Aw K μ H μ' H') (s : SR K C μ' S' H') : Rl K C μ' ρ S' σ H' :=
  ⟨s, r.len, fun i d e => by
    obtain ⟨v, h1, h2⟩ := r.sl i d e
    exact ⟨v, h1, h2.weak a⟩⟩
def tR (K : PySem.W.Frag) (C : Nat → Addr) (W : WX) (P : Mu → Hp → α → β → Prop) (r : Res α) (μ : Mu) (σ : L2.St) (H : Hp) (Q : β → Hp → Prop) : Prop :=
  match r with
  | .ok d S' => ∀ μ' H' v, Aft K μ H μ' H' → SR K C μ' S' H' → P μ' H' d v → Q v H'
  | .exn c S' => ∀ μ' H', Aft K μ H μ' H' → SR K C μ' S' H' → W (.ref (C c)) none σ H'
  | .stuck => False
theorem tR.imp {P : Mu → Hp → α → β → Prop} {r : Res α} {Q Q' : β → Hp → Prop} (h : tR K C W P r μ σ H Q) (k : ∀ v H1, Q v H1 → Q' v H1) : tR K C W P r μ σ H Q' := by
  cases r with
  | ok d S' => exact fun μ' H' v a s q => k _ _ (h μ' H' v a s q)
  | exn c S' => exact h
  | stuck => exact h
theorem tR.aft {P : Mu → Hp → α → β → Prop} {r : Res α} {Q : β → Hp → Prop} (h : tR K C W P r μ σ H Q) (b : Aft K μ H μ1 H1) : tR K C W P r μ1 σ H1 Q := by
  cases r with
  | ok d S' => exact fun μ' H' v a s q => h μ' H' v (b.trans a) s q
  | exn c S' => exact fun μ' H' a s => h μ' H' (b.trans a) s
  | stuck => exact h
theorem tR.bd {γ δ : Type} {P : Mu → Hp → α → β → Prop} {P2 : Mu → Hp → γ → δ → Prop} {r : Res α} {k : α → Sto → Res γ} {Q : δ → Hp → Prop} (h : tR K C W P2 (r.bd k) μ σ H Q) :
    tR K C W P r μ σ H fun v H1 => ∃ μ1 S1 d, Aft K μ H μ1 H1 ∧ SR K C μ1 S1 H1 ∧ P μ1 H1 d v ∧ tR K C W P2 (k d S1) μ1 σ H1 Q := by
  cases r with
  | ok d S' => exact fun μ' H' v a s q => ⟨μ', S', d, a, s, q, tR.aft (r := k d S') h a⟩
  | exn c S' => exact h
  | stuck => exact h
abbrev PV (K : PySem.W.Frag) : Mu → Hp → Dv → V → Prop := fun μ H d v => VR K H μ d v
abbrev PB : Mu → Hp → Bool → Bool → Prop := fun _ _ b c => b = c
abbrev PL (K : PySem.W.Frag) : Mu → Hp → List Dv → List V → Prop := fun μ H d v => VRs K H μ d v
def tG (K : PySem.W.Frag) (C : Nat → Addr) (W : WX) (P : Mu → Hp → α → β → Prop) (f : Ev → Sto → Res α) : L2.St → Hp → (β → Hp → Prop) → Prop := fun σ H Q => ∃ μ ρ S, Rl K C μ ρ S σ H ∧ tR K C W P (f ρ S) μ σ H Q
def tSt (K : PySem.W.Frag) (C : Nat → Addr) (W : WX) (r : Res Out) (μ : Mu) (H : Hp) (D : Ends) : Prop :=
  match r with
  | .ok (.nx ρ') S' => ∀ μ' σ' H', Aft K μ H μ' H' → Rl K C μ' ρ' S' σ' H' → D.nx σ' H'
  | .ok (.rt d) S' => ∀ μ' H' v, Aft K μ H μ' H' → SR K C μ' S' H' → VR K H' μ' d v → D.rt v H'
  | .ok (.bk ρ') S' => ∀ μ' σ' H', Aft K μ H μ' H' → Rl K C μ' ρ' S' σ' H' → D.bk σ' H'
  | .ok (.ct ρ') S' => ∀ μ' σ' H', Aft K μ H μ' H' → Rl K C μ' ρ' S' σ' H' → D.ct σ' H'
  | .ok (.ex c ρ') S' => ∀ μ' σ' H', Aft K μ H μ' H' → Rl K C μ' ρ' S' σ' H' → W (.ref (C c)) none σ' H'
  | .exn _ _ => False
  | .stuck => False
theorem tSt.aft {r : Res Out} {D : Ends} (h : tSt K C W r μ H D) (b : Aft K μ H μ1 H1) : tSt K C W r μ1 H1 D := by
  cases r with
  | ok o S' => cases o <;> exact fun μ' σ' H' a => h μ' σ' H' (b.trans a)
  | exn c S' => exact h
  | stuck => exact h
end
end Fc
set_option exponentiation.threshold 256
set_option maxHeartbeats 4000000
set_option maxHeartbeats 4000000
namespace Fc
open PySem L2
theorem lim_line : lim ≤ sizeLine := by decide
section
variable {X : Cx} {e : Expr}
theorem pe_imp {t t' : TE} (h : PE X e t) (k : ∀ σ H Q, t' σ H Q → t σ H Q) : PE X e t' := ⟨fun pins s σ H Q I q => h.run pins s σ H Q I (k _ _ _ q)⟩
theorem pt_imp {t t' : TT} (h : PT X e t) (k : ∀ σ H Q, t' σ H Q → t σ H Q) : PT X e t' := ⟨fun pins s σ H Q I q => h.run pins s σ H Q I (k _ _ _ q)⟩
theorem pw_imp {t t' : TT} (h : PW X e t) (k : ∀ σ H Q, t' σ H Q → t σ H Q) : PW X e t' := ⟨fun wh pins s σ H Q I q => h.run wh pins s σ H Q I (k _ _ _ q)⟩
theorem pa_imp {es : List Expr} {t t' : TA} (h : PA X es t) (k : ∀ σ H Q, t' σ H Q → t σ H Q) : PA X es t' := ⟨fun pos pins s σ H Q I q => h.run pos pins s σ H Q I (k _ _ _ q)⟩
theorem ps_imp {st : Stmt} {t t' : TS} (h : PS X st t) (k : ∀ D σ H, t' D σ H → t D σ H) : PS X st t' := ⟨fun pins s σ H D I q => h.run pins s σ H D I (k _ _ _ q)⟩
theorem pss_imp {st : List Stmt} {t t' : TS} (h : PSs X st t) (k : ∀ D σ H, t' D σ H → t D σ H) : PSs X st t' := ⟨fun pins s σ H D I q => h.run pins s σ H D I (k _ _ _ q)⟩
end
def tS (K : PySem.W.Frag) (C : Nat → Addr) (W : WX) (f : DS) : TS := fun D σ H => ∃ μ ρ S, Rl K C μ ρ S σ H ∧ tSt K C W (f ρ S) μ H D
structure SE (X : Cx) (C : Nat → Addr) (W : WX) (e : Expr) (f : DE) : Prop where
  pe : PE X e (tG X.K C W (PV X.K) f)
structure ST (X : Cx) (C : Nat → Addr) (W : WX) (e : Expr) (f : DT) : Prop where
  pt : PT X e (tG X.K C W PB f)
structure SW (X : Cx) (C : Nat → Addr) (W : WX) (e : Expr) (f : DT) : Prop where
  pw : PW X e (tG X.K C W PB f)
structure SL (X : Cx) (C : Nat → Addr) (W : WX) (es : List Expr) (f : DL) : Prop where
  pa : PA X es (tG X.K C W (PL X.K) f)
structure SS (X : Cx) (C : Nat → Addr) (W : WX) (st : Stmt) (f : DS) : Prop where
  ps : PS X st (tS X.K C W f)
structure SSs (X : Cx) (C : Nat → Addr) (W : WX) (st : List Stmt) (f : DS) : Prop where
  ps : PSs X st (tS X.K C W f)
structure Ctx (X : Cx) (W : WX) (k : Nat) : Prop where
  calm : X.calm = true
  room : Room k X.A
  gd : X.A.guards = some []
  tk : Takes X W
  pass : PassesOwn (model X.prog X.w) X.A X.env X.xe
  nd : X.N.Nodup
abbrev W0 : WX := fun _ _ _ _ => False
section
variable {X : Cx} {C : Nat → Addr} {W : WX} {k : Nat} {e a b c : Expr} {es rest : List Expr} {f g h fa fb fc : DE} {t u : DT} {l : DL} {pos p2 p3 : Pos}
def eVar (i : Nat) : DE := fun ρ S => match ρ[i]? with
  | some (some d) => .ok d S
  | _ => .stuck
theorem se_name (i : Nat) {x : Str} (hN : X.N[i]? = some x := by rfl) (hv : Vis X.env.scope x := by first | exact Or.inl rfl | exact Or.inr (Or.inl rfl) | exact Or.inr (Or.inr rfl)) (hd : (x == ("__debug__" : Str)) = false := by decide)
    (hcd : (x == ("__classdict__" : Str)) = false := by decide) : SE X C W (.Name x pos) (eVar i) := by
  refine ⟨pe_imp (pe_var hN hv hd hcd) fun σ H Q q => ?_⟩
  obtain ⟨μ, ρ, S, rl, q⟩ := q
  unfold eVar at q
  split at q
  · rename_i d e
    obtain ⟨v, h1, h2⟩ := rl.sl i d e
    exact ⟨v, h1, q μ H v Aft.refl rl.sr h2⟩
  · exact q.elim
def eC (d : Dv) : DE := fun _ S => .ok d S
theorem se_c {v : V} {d : Dv} (h : PE X e (tC v)) (r : ∀ H μ, VR X.K H μ d v) : SE X C W e (eC d) := by
  refine ⟨pe_imp h fun σ H Q q => ?_⟩
  obtain ⟨μ, ρ, S, rl, q⟩ := q
  exact q μ H v Aft.refl rl.sr (r H μ)
theorem se_int {i : Int} {j} : SE X C W (.Constant (.int i) j pos) (eC (.int i)) := se_c pe_int fun _ _ => VR_int.mpr rfl
theorem se_bl {i : Bool} {j} : SE X C W (.Constant (.bool i) j pos) (eC (.bl i)) := se_c pe_bl fun _ _ => VR_bl.mpr rfl
theorem se_non {j} : SE X C W (.Constant .none j pos) (eC .non) := se_c pe_non fun _ _ => VR_non.mpr rfl
theorem se_str {x : Str} {j} : SE X C W (.Constant (.str x) j pos) (eC (.str x)) := se_c pe_str fun _ _ => VR_str.mpr rfl
structure GC (K : PySem.W.Frag) (mg : Str → Option Value) (x : Str) (d : Dv) : Prop where
  is : ∃ u v, mg x = some u ∧ RelV v u ∧ ∀ H μ, VR K H μ d v
theorem se_glob {x : Str} {d : Dv} (hc : GC X.K X.mg x d) (hg : Gl X x := by rfl) (hd : (x == ("__debug__" : Str)) = false := by decide) : SE X C W (.Name x pos) (eC d) := by
  obtain ⟨u, v, h1, h2, h3⟩ := hc.is
  exact se_c (pe_glob hg h1 h2 hd) h3
def lNil : DL := fun _ S => .ok [] S
def lCons (f : DE) (l : DL) : DL := fun ρ S => (f ρ S).bd fun d S1 => (l ρ S1).bd fun ds S2 => .ok (d :: ds) S2
theorem sl_nil : SL X C W [] lNil := by
  refine ⟨pa_imp pa_nil fun σ H Q q => ?_⟩
  obtain ⟨μ, ρ, S, rl, q⟩ := q
  exact q μ H [] Aft.refl rl.sr (VRs_nil.mpr rfl)
theorem sl_cons (h1 : SE X C W e f) (h2 : SL X C W es l) (hs : starEach (e :: es) X.env = (false, eval e X.env) :: starEach es X.env := by rfl) : SL X C W (e :: es) (lCons f l) := by
  refine ⟨pa_imp (pa_cons h1.pe h2.pa hs) fun σ H Q q => ?_⟩
  obtain ⟨μ, ρ, S, rl, q⟩ := q
  refine ⟨μ, ρ, S, rl, (tR.bd q).imp fun v H1 q1 => ?_⟩
  obtain ⟨μ1, S1, d, a1, s1, vr, q1⟩ := q1
  refine ⟨μ1, ρ, S1, rl.next a1 s1, (tR.bd q1).imp fun vs H2 q2 => ?_⟩
  obtain ⟨μ2, S2, ds, a2, s2, vrs, q2⟩ := q2
  exact q2 μ2 H2 (v :: vs) Aft.refl s2 (VRs_cons.mpr ⟨v, vs, rfl, vr.mono a2, vrs⟩)
def eTup (l : DL) : DE := fun ρ S => (l ρ S).bd fun ds S1 => if ds.length ≤ lim then .ok (.tup ds) S1 else .stuck
theorem se_tup {x1} (h1 : SL X C W es l) : SE X C W (.Tuple es x1 pos) (eTup l) := by
  refine ⟨pe_imp (pe_tup h1.pa) fun σ H Q q => ?_⟩
  obtain ⟨μ, ρ, S, rl, q⟩ := q
  refine ⟨μ, ρ, S, rl, (tR.bd q).imp fun vs H1 q1 => ?_⟩
  obtain ⟨μ1, S1, ds, a1, s1, vr, q1⟩ := q1
  by_cases hl : ds.length ≤ lim
  · rw [if_pos hl] at q1
    refine ⟨by rw [← vr.length]; exact Nat.le_trans hl lim_line, fun p hp => ?_⟩
    have af : Aft X.K μ1 H1 μ1 (L2.upd H1 p (.tup vs)) := Aft.new hp
    exact q1 μ1 _ _ af (s1.lay hp) (VR_tup.mpr ⟨p, vs, rfl, SqT.of upd_same, vr.mono af⟩)
  · rw [if_neg hl] at q1
    exact q1.elim
def mk : Bool → List Dv → Sto → Dv × Sto
  | true, ds, S => (.ref S.length, S ++ [.lst ds])
  | false, ds, S => (.fz ds, S)
def eLst (m : Bool) (l : DL) : DE := fun ρ S => (l ρ S).bd fun ds S1 => if ds.length ≤ lim then .ok (mk m ds S1).1 (mk m ds S1).2 else .stuck
theorem new_lst {μ1 : Mu} {S1 : Sto} {H1 : Hp} {ds : List Dv} {vs : List V} {σ : L2.St} {Q : VK} (s1 : SR X.K C μ1 S1 H1) (vr : VRs X.K H1 μ1 ds vs)
    (q1 : tR X.K C W (PV X.K) (.ok (.ref S1.length) (S1 ++ [.lst ds])) μ1 σ H1 Q) (p : Addr) (hp : H1 p = none) : Q (.ref p) (L2.upd H1 p (.lst vs)) := by
  have af : Aft X.K μ1 H1 (μ1.add p) (L2.upd H1 p (.lst vs)) := s1.alloc_aft hp
  refine q1 (μ1.add p) _ _ af (s1.alloc hp ⟨vs, rfl, vr.mono af⟩) (VR_ref.mpr ⟨p, ?_, rfl⟩)
  show (μ1.tr ++ [p])[S1.length]? = some p
  rw [List.getElem?_append_right (by rw [s1.len]; exact Nat.le_refl _), s1.len]
  simp
theorem new_mk {m : Bool} {μ1 : Mu} {S1 : Sto} {H1 : Hp} {ds : List Dv} {vs : List V} {σ : L2.St} {Q : VK} (s1 : SR X.K C μ1 S1 H1) (vr : VRs X.K H1 μ1 ds vs)
    (q1 : tR X.K C W (PV X.K) (.ok (mk m ds S1).1 (mk m ds S1).2) μ1 σ H1 Q) (p : Addr) (hp : H1 p = none) : Q (.ref p) (L2.upd H1 p (.lst vs)) := by
  cases m with
  | true => exact new_lst s1 vr q1 p hp
  | false =>
    have af : Aft X.K μ1 H1 μ1 (L2.upd H1 p (.lst vs)) := Aft.new hp
    exact q1 μ1 _ _ af (s1.lay hp) (VR_fz.mpr ⟨p, vs, rfl, .inr (.inr ⟨upd_same, s1.notin hp, fun z => s1.hids p z hp⟩), vr.mono af⟩)
theorem se_lst (m : Bool) (h1 : SL X C W es l) : SE X C W (.List es pos) (eLst m l) := by
  refine ⟨pe_imp (pe_lst h1.pa) fun σ H Q q => ?_⟩
  obtain ⟨μ, ρ, S, rl, q⟩ := q
  refine ⟨μ, ρ, S, rl, (tR.bd q).imp fun vs H1 q1 => ?_⟩
  obtain ⟨μ1, S1, ds, a1, s1, vr, q1⟩ := q1
  by_cases hl : ds.length ≤ lim
  · rw [if_pos hl] at q1
    exact ⟨by rw [← vr.length]; exact Nat.le_trans hl lim_line, new_mk s1 vr q1⟩
  · rw [if_neg hl] at q1
    exact q1.elim
def ofO : Option (Dv × Sto) → Res Dv
  | some (d, S) => .ok d S
  | none => .stuck
abbrev Op2 := Dv → Dv → Sto → Option (Dv × Sto)
def rOp (K : PySem.W.Frag) (C : Nat → Addr) (g : Op2) : R2 := fun x y H Q => ∃ μ S dx dy, SR K C μ S H ∧ VR K H μ dx x ∧ VR K H μ dy y ∧ tR K C W0 (PV K) (ofO (g dx dy S)) μ [] H Q
abbrev OpS (X : Cx) (C : Nat → Addr) (F : Value → Value → Sem Value) (g : Op2) : Prop := OpR X F (rOp X.K C g)
theorem tR.ofO {K : PySem.W.Frag} {W' : WX} {o : Option (Dv × Sto)} {μ : Mu} {σ σ' : L2.St} {H : Hp} {Q : VK} (h1 : tR K C W (PV K) (ofO o) μ σ H Q) : tR K C W' (PV K) (Fc.ofO o) μ σ' H Q := by
  cases o with
  | none => exact h1
  | some p => exact h1
def eOp (g : Op2) (fa fb : DE) : DE := fun ρ S => (fa ρ S).bd fun x S1 => (fb ρ S1).bd fun y S2 => ofO (g x y S2)
theorem op_go {gg : Op2} {σ : L2.St} {H : Hp} {Q : VK} (q : tG X.K C W (PV X.K) (eOp gg fa fb) σ H Q) : tOp (rOp X.K C gg) (tG X.K C W (PV X.K) fa) (tG X.K C W (PV X.K) fb) σ H Q := by
  obtain ⟨μ, ρ, S, rl, q⟩ := q
  refine ⟨μ, ρ, S, rl, (tR.bd q).imp fun v H1 q1 => ?_⟩
  obtain ⟨μ1, S1, d, a1, s1, vr, q1⟩ := q1
  refine ⟨μ1, ρ, S1, rl.next a1 s1, (tR.bd q1).imp fun v2 H2 q2 => ?_⟩
  obtain ⟨μ2, S2, d2, a2, s2, vr2, q2⟩ := q2
  exact ⟨μ2, S2, d, d2, s2, vr.mono a2, vr2, tR.ofO q2⟩
theorem se_op {op : Operator} {gg : Op2} (ho : OpS X C (binaryOp op) gg) (ha : SE X C W a fa) (hb : SE X C W b fb) : SE X C W (.BinOp a op b pos) (eOp gg fa fb) :=
  ⟨pe_imp (pe_op ho ha.pe hb.pe) fun _ _ _ q => op_go q⟩
theorem se_cmp {op : CmpOp} {gg : Op2} (ho : OpS X C (compareOp op) gg) (ha : SE X C W a fa) (hb : SE X C W b fb) (hm : behindInMarks op b = false := by first | exact nomark _ | rfl) : SE X C W (.Compare a [op] [b] pos) (eOp gg fa fb) :=
  ⟨pe_imp (pe_cmpR ho ha.pe hb.pe hm) fun _ _ _ q => op_go q⟩
def tTs (f : DE) : DT := fun ρ S => (f ρ S).bd fun d S1 => match d with
  | .bl b => .ok b S1
  | _ => .stuck
theorem ts_go {σ : L2.St} {H : Hp} {Q : Bool → Hp → Prop} (q : tG X.K C W PB (tTs f) σ H Q) : tG X.K C W (PV X.K) f σ H fun x H' => ∃ k, x = .bl k ∧ Q k H' := by
  obtain ⟨μ, ρ, S, rl, q⟩ := q
  refine ⟨μ, ρ, S, rl, (tR.bd q).imp fun v H1 q1 => ?_⟩
  obtain ⟨μ1, S1, d, a1, s1, vr, q1⟩ := q1
  cases d with
  | bl b => exact ⟨b, VR_bl.mp vr, q1 μ1 H1 b Aft.refl s1 rfl⟩
  | _ => exact q1.elim
theorem st_cmp {op : CmpOp} {gg : Op2} (ho : OpS X C (compareOp op) gg) (ha : SE X C W a fa) (hb : SE X C W b fb) (hm : behindInMarks op b = false := by first | exact nomark _ | rfl) : ST X C W (.Compare a [op] [b] pos) (tTs (eOp gg fa fb)) :=
  ⟨pt_imp (pt_cmpR ho ha.pe hb.pe hm) fun _ _ _ q => op_go (ts_go q)⟩
theorem st_val (h1 : SE X C W e f) (he : ∀ whole, isTrue e X.env whole = (do let v ← whole; standAt e.pos; holding [v] (truthy v)) := by intro _; rfl) : ST X C W e (tTs f) :=
  ⟨pt_imp (pt_val h1.pe he) fun _ _ _ q => ts_go q⟩
def eChain (g1 g2 : Op2) (fa fb fc : DE) : DE := fun ρ S => (fa ρ S).bd fun x S1 => (fb ρ S1).bd fun y S2 => (ofO (g1 x y S2)).bd fun z S3 => match z with
  | .bl true => (fc ρ S3).bd fun w S4 => ofO (g2 y w S4)
  | .bl false => .ok (.bl false) S3
  | _ => .stuck
theorem chain_go {g1 g2 : Op2} {σ : L2.St} {H : Hp} {Q : VK} (q : tG X.K C W (PV X.K) (eChain g1 g2 fa fb fc) σ H Q) :
    tChain (rOp X.K C g1) (rOp X.K C g2) (tG X.K C W (PV X.K) fa) (tG X.K C W (PV X.K) fb) (tG X.K C W (PV X.K) fc) σ H Q := by
  obtain ⟨μ, ρ, S, rl, q⟩ := q
  refine ⟨μ, ρ, S, rl, (tR.bd q).imp fun v H1 q1 => ?_⟩
  obtain ⟨μ1, S1, d, a1, s1, vr, q1⟩ := q1
  refine ⟨μ1, ρ, S1, rl.next a1 s1, (tR.bd q1).imp fun v2 H2 q2 => ?_⟩
  obtain ⟨μ2, S2, d2, a2, s2, vr2, q2⟩ := q2
  refine ⟨μ2, S2, d, d2, s2, vr.mono a2, vr2, tR.ofO ((tR.bd q2).imp fun v3 H3 q3 => ?_)⟩
  obtain ⟨μ3, S3, d3, a3, s3, vr3, q3⟩ := q3
  cases d3 with
  | bl bb =>
    cases bb with
    | true =>
      refine ⟨true, VR_bl.mp vr3, ?_⟩
      rw [if_pos rfl]
      refine ⟨μ3, ρ, S3, ((rl.next a1 s1).next a2 s2).next a3 s3, (tR.bd q3).imp fun v4 H4 q4 => ?_⟩
      obtain ⟨μ4, S4, d4, a4, s4, vr4, q4⟩ := q4
      exact ⟨μ4, S4, d2, d4, s4, vr2.mono (a3.trans a4), vr4, tR.ofO q4⟩
    | false =>
      refine ⟨false, VR_bl.mp vr3, ?_⟩
      rw [if_neg Bool.false_ne_true]
      exact q3 μ3 H3 (.bl false) Aft.refl s3 (VR_bl.mpr rfl)
  | _ => exact q3.elim
theorem st_chain {op op' : CmpOp} {g1 g2 : Op2} (ho : OpS X C (compareOp op) g1) (ho' : OpS X C (compareOp op') g2) (ha : SE X C W a fa) (hb : SE X C W b fb) (hc : SE X C W c fc) (hm : lastMarks [op, op'] [b, c] = false := by rfl) : ST X C W (.Compare a [op, op'] [b, c] pos) (tTs (eChain g1 g2 fa fb fc)) :=
  ⟨pt_imp (pt_chain ho ho' ha.pe hb.pe hc.pe hm) fun _ _ _ q => chain_go (ts_go q)⟩
def eUn (g : Dv → Option Dv) (f : DE) : DE := fun ρ S => (f ρ S).bd fun x S1 => match g x with
  | some d => .ok d S1
  | none => .stuck
theorem se_neg (h1 : SE X C W e f) : SE X C W (.UnaryOp .USub e pos) (eUn (fun d => match d with | .int i => some (.int (-i)) | _ => none) f) := by
  refine ⟨pe_imp (pe_un un_neg h1.pe) fun σ H Q q => ?_⟩
  obtain ⟨μ, ρ, S, rl, q⟩ := q
  refine ⟨μ, ρ, S, rl, (tR.bd q).imp fun v H1 q1 => ?_⟩
  obtain ⟨μ1, S1, d, a1, s1, vr, q1⟩ := q1
  cases d with
  | int i => exact ⟨i, VR_int.mp vr, q1 μ1 H1 _ Aft.refl s1 (VR_int.mpr rfl)⟩
  | _ => exact q1.elim
def tAnd2 (t u : DT) : DT := fun ρ S => (t ρ S).bd fun c S1 => if c = true then u ρ S1 else .ok false S1
def tOr2 (t u : DT) : DT := fun ρ S => (t ρ S).bd fun c S1 => if c = true then .ok true S1 else u ρ S1
def tNot2 (t : DT) : DT := fun ρ S => (t ρ S).bd fun c S1 => .ok (!c) S1
theorem st_of (h1 : SW X C W e t) : ST X C W e t := ⟨h1.pw.pt⟩
theorem sw_or1 (h1 : ST X C W a t) : SW X C W (.BoolOp .Or [a] pos) t := ⟨pw_or1 h1.pt⟩
theorem sw_or (h1 : ST X C W a t) (h2 : SW X C W (.BoolOp .Or (b :: rest) pos) u) : SW X C W (.BoolOp .Or (a :: b :: rest) pos) (tOr2 t u) := by
  refine ⟨pw_imp (pw_or h1.pt h2.pw) fun σ H Q q => ?_⟩
  obtain ⟨μ, ρ, S, rl, q⟩ := q
  refine ⟨μ, ρ, S, rl, (tR.bd q).imp fun cc H1 q1 => ?_⟩
  obtain ⟨μ1, S1, d, a1, s1, vr, q1⟩ := q1
  cases (show d = cc from vr)
  cases cc with
  | true => rw [if_pos rfl] at q1 ⊢; exact q1 μ1 H1 true Aft.refl s1 rfl
  | false => rw [if_neg Bool.false_ne_true] at q1 ⊢; exact ⟨μ1, ρ, S1, rl.next a1 s1, q1⟩
theorem st_not (h1 : ST X C W a t) : ST X C W (.UnaryOp .Not a pos) (tNot2 t) := by
  refine ⟨pt_imp (pt_not h1.pt) fun σ H Q q => ?_⟩
  obtain ⟨μ, ρ, S, rl, q⟩ := q
  refine ⟨μ, ρ, S, rl, (tR.bd q).imp fun cc H1 q1 => ?_⟩
  obtain ⟨μ1, S1, d, a1, s1, vr, q1⟩ := q1
  cases (show d = cc from vr)
  exact q1 μ1 H1 _ Aft.refl s1 rfl
def eAnd (f g : DE) : DE := fun ρ S => (f ρ S).bd fun d S1 => match d with
  | .bl true => g ρ S1
  | .bl false => .ok (.bl false) S1
  | _ => .stuck
def eOr (f g : DE) : DE := fun ρ S => (f ρ S).bd fun d S1 => match d with
  | .bl false => g ρ S1
  | .bl true => .ok (.bl true) S1
  | _ => .stuck
def eNot (f : DE) : DE := fun ρ S => (f ρ S).bd fun d S1 => match d with
  | .bl b => .ok (.bl (!b)) S1
  | _ => .stuck
theorem se_one {op : BoolOp} (h1 : SE X C W a f) : SE X C W (.BoolOp op [a] pos) f := ⟨pe_one h1.pe⟩
theorem se_and (h1 : SE X C W a f) (h2 : SE X C W (.BoolOp .And (b :: rest) pos) g) : SE X C W (.BoolOp .And (a :: b :: rest) pos) (eAnd f g) := by
  refine ⟨pe_imp (pe_and h1.pe h2.pe) fun σ H Q q => ?_⟩
  obtain ⟨μ, ρ, S, rl, q⟩ := q
  refine ⟨μ, ρ, S, rl, (tR.bd q).imp fun v H1 q1 => ?_⟩
  obtain ⟨μ1, S1, d, a1, s1, vr, q1⟩ := q1
  cases d with
  | bl bb =>
    refine ⟨bb, VR_bl.mp vr, ?_⟩
    cases bb with
    | true => rw [if_pos rfl]; exact ⟨μ1, ρ, S1, rl.next a1 s1, q1⟩
    | false => rw [if_neg Bool.false_ne_true]; exact q1 μ1 H1 _ Aft.refl s1 (VR_bl.mpr rfl)
  | _ => exact q1.elim
theorem se_not (h1 : SE X C W a f) : SE X C W (.UnaryOp .Not a pos) (eNot f) := by
  refine ⟨pe_imp (pe_not h1.pe) fun σ H Q q => ?_⟩
  obtain ⟨μ, ρ, S, rl, q⟩ := q
  refine ⟨μ, ρ, S, rl, (tR.bd q).imp fun v H1 q1 => ?_⟩
  obtain ⟨μ1, S1, d, a1, s1, vr, q1⟩ := q1
  cases d with
  | bl bb => exact ⟨bb, VR_bl.mp vr, q1 μ1 H1 _ Aft.refl s1 (VR_bl.mpr rfl)⟩
  | _ => exact q1.elim
def eIf (t : DT) (f g : DE) : DE := fun ρ S => (t ρ S).bd fun c S1 => if c = true then f ρ S1 else g ρ S1
end
end Fc
set_option exponentiation.threshold 256
set_option maxHeartbeats 4000000
set_option maxHeartbeats 4000000
namespace Fc
open PySem L2
def wipeD (ρ : Ev) : List Nat → Ev
  | [] => ρ
  | v :: vs => (wipeD ρ vs).set v none
section
variable {K : PySem.W.Frag} {C : Nat → Addr} {H H' H1 : Hp} {μ μ' μ1 : Mu} {S S' : Sto} {ρ : Ev} {σ : L2.St} {W : WX}
theorem Rl.set (r : Rl K C μ ρ S σ H) {d : Dv} {v : V} (q : VR K H μ d v) (i : Nat) : Rl K C μ (ρ.set i (some d)) S (σ.set i (some v)) H := by
  refine ⟨r.sr, by simpa using r.len, fun j e h => ?_⟩
  by_cases hj : i = j
  · subst hj
    have hl : i < ρ.length := by
      have := (List.getElem?_eq_some_iff.mp h).1
      simpa using this
    rw [List.getElem?_set_self hl] at h
    cases h
    exact ⟨v, List.getElem?_set_self (by rw [← r.len]; exact hl), q⟩
  · rw [List.getElem?_set_ne hj] at h ⊢
    exact r.sl j e h
theorem Rl.unset (r : Rl K C μ ρ S σ H) (i : Nat) : Rl K C μ (ρ.set i none) S (σ.set i none) H := by
  refine ⟨r.sr, by simpa using r.len, fun j e h => ?_⟩
  by_cases hj : i = j
  · subst hj
    have hl : i < ρ.length := by
      have := (List.getElem?_eq_some_iff.mp h).1
      simpa using this
    rw [List.getElem?_set_self hl] at h
    cases h
  · rw [List.getElem?_set_ne hj] at h ⊢
    exact r.sl j e h
theorem Rl.wipe (r : Rl K C μ ρ S σ H) : ∀ vs : List Nat, Rl K C μ (wipeD ρ vs) S (L2.wipe σ vs) H
  | [] => r
  | v :: vs => (Rl.wipe r vs).unset v
theorem wipe_get (σ : L2.St) (j : Nat) : ∀ vs : List Nat, (L2.wipe σ vs)[j]? = if j ∈ vs then (σ[j]?).map fun _ => none else σ[j]?
  | [] => by simp [L2.wipe]
  | v :: vs => by
    show ((L2.wipe σ vs).set v none)[j]? = _
    rw [List.getElem?_set, wipe_get σ j vs, wipe_length]
    by_cases h : v = j
    · subst h
      by_cases hl : v < σ.length
      · simp [hl]
      · simp [hl]
    · have h' : ¬ j = v := fun e => h e.symm
      simp [h, h']
theorem wipe_set {σ : L2.St} {i : Nat} {x : Option V} {vs : List Nat} (h : i ∈ vs) : L2.wipe (σ.set i x) vs = L2.wipe σ vs := by
  apply List.ext_getElem?
  intro j
  rw [wipe_get, wipe_get, List.getElem?_set]
  by_cases e : i = j
  · subst e
    rw [if_pos h, if_pos h, if_pos rfl]
    by_cases hl : i < σ.length
    · simp [hl]
    · simp [hl]
  · rw [if_neg e]
end
inductive Tg where
  | nm (i : Nat) | tp (ts : List Tg)
mutual
def Tg.asg : Tg → Dv → Ev → Option Ev
  | .nm i, d, ρ => some (ρ.set i (some d))
  | .tp ts, .tup ds, ρ => Tg.asgs ts ds ρ
  | .tp _, _, _ => none
def Tg.asgs : List Tg → List Dv → Ev → Option Ev
  | [], [], ρ => some ρ
  | t :: ts, d :: ds, ρ => (Tg.asg t d ρ).bind fun ρ' => Tg.asgs ts ds ρ'
  | _, _, _ => none
end
mutual
def Tg.slots : Tg → List Nat
  | .nm i => [i]
  | .tp ts => Tg.slotss ts
def Tg.slotss : List Tg → List Nat
  | [] => []
  | t :: ts => t.slots ++ Tg.slotss ts
end
def tTg (K : PySem.W.Frag) (C : Nat → Addr) (t : Tg) : TG := fun v σ H Q => ∃ μ ρ S d ρ', Rl K C μ ρ S σ H ∧ VR K H μ d v ∧ t.asg d ρ = some ρ' ∧
  ∀ σ', (∀ vs : List Nat, (∀ i ∈ t.slots, i ∈ vs) → L2.wipe σ' vs = L2.wipe σ vs) → Rl K C μ ρ' S σ' H → Q σ' H
def tTgs (K : PySem.W.Frag) (C : Nat → Addr) (ts : List Tg) : TGs := fun vs σ H Q => ∃ μ ρ S ds ρ', Rl K C μ ρ S σ H ∧ VRs K H μ ds vs ∧ Tg.asgs ts ds ρ = some ρ' ∧
  ∀ σ', (∀ vs : List Nat, (∀ i ∈ Tg.slotss ts, i ∈ vs) → L2.wipe σ' vs = L2.wipe σ vs) → Rl K C μ ρ' S σ' H → Q σ' H
structure SG (X : Cx) (C : Nat → Addr) (tg : Expr) (t : Tg) : Prop where
  pg : PG X tg (tTg X.K C t)
structure SGs (X : Cx) (C : Nat → Addr) (tgs : List Expr) (ts : List Tg) : Prop where
  pg : PGs X tgs (tTgs X.K C ts)
section
variable {X : Cx} {C : Nat → Addr} {W : WX} {k : Nat} {e e2 : Expr} {es : List Expr} {f g : DE} {t : DT} {l : DL} {pos pos' p2 : Pos} {st : Stmt} {rest body orelse : List Stmt} {cs cr cb : DS}
theorem pg_imp {tt tt' : TG} (h : PG X e tt) (k : ∀ v σ H Q, tt' v σ H Q → tt v σ H Q) : PG X e tt' := ⟨fun pins s σ H v u Q I r q => h.run pins s σ H v u Q I r (k _ _ _ _ q)⟩
theorem pgs_imp {tt tt' : TGs} (h : PGs X es tt) (k : ∀ v σ H Q, tt' v σ H Q → tt v σ H Q) : PGs X es tt' := ⟨fun pins s σ H v u Q I r q => h.run pins s σ H v u Q I r (k _ _ _ _ q)⟩
theorem sg_name (i : Nat) {x : Str} (hN : X.N.Nodup) (hi : X.N[i]? = some x := by rfl) (hx : Loc X.env.scope x := by first | exact Or.inl rfl | exact Or.inr rfl)
    (hf : X.fn x = true ∨ X.env.scope.names.lookup x = some .local := by first | exact .inl rfl | exact .inr rfl) : SG X C (.Name x pos) (.nm i) := by
  refine ⟨pg_imp (pg_name hN hi hx hf) fun v σ H Q q => ?_⟩
  obtain ⟨μ, ρ, S, d, ρ', rl, vr, e, q⟩ := q
  simp only [Tg.asg, Option.some.injEq] at e
  subst e
  exact q _ (fun vs h => wipe_set (h i (by simp [Tg.slots]))) (rl.set vr i)
theorem sgs_nil : SGs X C [] [] := by
  refine ⟨pgs_imp pgs_nil fun v σ H Q q => ?_⟩
  obtain ⟨μ, ρ, S, d, ρ', rl, vr, e, q⟩ := q
  cases d with
  | nil =>
    simp only [Tg.asgs, Option.some.injEq] at e
    subst e
    exact ⟨VRs_nil.mp vr, q _ (fun _ _ => rfl) rl⟩
  | cons a b => simp [Tg.asgs] at e
theorem sgs_cons {tg : Tg} {tgs : List Tg} (h1 : SG X C e tg) (h2 : SGs X C es tgs) (hs : (assignEach (e :: es) X.env).map (·.2) = assign e X.env :: (assignEach es X.env).map (·.2) := by rfl) : SGs X C (e :: es) (tg :: tgs) := by
  refine ⟨pgs_imp (pgs_cons h1.pg h2.pg hs) fun v σ H Q q => ?_⟩
  obtain ⟨μ, ρ, S, d, ρ', rl, vr, e, q⟩ := q
  cases d with
  | nil => simp [Tg.asgs] at e
  | cons a b =>
    simp only [Tg.asgs] at e
    obtain ⟨ρ1, e1, e2⟩ := Option.bind_eq_some_iff.mp e
    obtain ⟨v1, r, rfl, w1, w2⟩ := VRs_cons.mp vr
    refine ⟨v1, r, rfl, μ, ρ, S, a, ρ1, rl, w1, e1, fun σ1 hw rl1 => ⟨μ, ρ1, S, b, ρ', rl1, w2, e2, fun σ2 hw2 rl2 => ?_⟩⟩
    refine q σ2 (fun vs hv => ?_) rl2
    rw [hw2 vs fun i hi => hv i (by simp [Tg.slotss, hi]), hw vs fun i hi => hv i (by simp [Tg.slotss, hi])]
theorem sg_tup {tgs : List Tg} {kk : Nat} (hc : X.calm = true) (h : SGs X C es tgs) (hn : (assignEach es X.env).length = tgs.length := by rfl) (hst : (assignEach es X.env).findIdx? (·.1) = none := by rfl) :
    SG X C (.Tuple es kk pos) (.tp tgs) := by
  refine ⟨pg_imp (pg_tup hc h.pg hn hst) fun v σ H Q q => ?_⟩
  obtain ⟨μ, ρ, S, d, ρ', rl, vr, e, q⟩ := q
  cases d with
  | tup ds =>
    simp only [Tg.asg] at e
    obtain ⟨a, vs, rfl, h1, h2⟩ := VR_tup.mp vr
    have hlen : ∀ (ts : List Tg) (ds : List Dv) (ρ ρ' : Ev), Tg.asgs ts ds ρ = some ρ' → ds.length = ts.length := by
      intro ts
      induction ts with
      | nil => intro ds ρ ρ' e; cases ds <;> simp [Tg.asgs] at e ⊢
      | cons t ts ih =>
        intro ds ρ ρ' e
        cases ds with
        | nil => simp [Tg.asgs] at e
        | cons d ds =>
          simp only [Tg.asgs] at e
          obtain ⟨ρ1, _, e2⟩ := Option.bind_eq_some_iff.mp e
          simp [ih ds _ _ e2]
    refine ⟨a, vs, rfl, h1, by rw [← h2.length]; exact hlen _ _ _ _ e, μ, ρ, S, ds, ρ', rl, h2, e, fun σ' hw rl' => q σ' (fun vs hv => hw vs fun i hi => hv i (by simpa [Tg.slots] using hi)) rl'⟩
  | _ => simp [Tg.asg] at e
def toS {α : Type} (r : Res α) (ρ : Ev) (kk : α → Sto → Res Out) : Res Out :=
  match r with
  | .ok a S => kk a S
  | .exn c S => .ok (.ex c ρ) S
  | .stuck => .stuck
@[simp] theorem toS_ok {α : Type} (a : α) (S : Sto) (ρ : Ev) (kk : α → Sto → Res Out) : toS (.ok a S) ρ kk = kk a S := rfl
@[simp] theorem toS_exn {α : Type} (c : Nat) (S : Sto) (ρ : Ev) (kk : α → Sto → Res Out) : toS (.exn c S : Res α) ρ kk = .ok (.ex c ρ) S := rfl
@[simp] theorem toS_stuck {α : Type} (ρ : Ev) (kk : α → Sto → Res Out) : toS (.stuck : Res α) ρ kk = .stuck := rfl
theorem toS_go {α β : Type} {K : PySem.W.Frag} {P : Mu → Hp → α → β → Prop} {r : Res α} {kk : α → Sto → Res Out} {μ : Mu} {ρ : Ev} {S : Sto} {σ : L2.St} {H : Hp} {D : Ends} (q : tSt K C W (toS r ρ kk) μ H D) (rl : Rl K C μ ρ S σ H) :
    tR K C W P r μ σ H fun v H1 => ∃ μ1 S1 d, Aft K μ H μ1 H1 ∧ SR K C μ1 S1 H1 ∧ P μ1 H1 d v ∧ tSt K C W (kk d S1) μ1 H1 D := by
  cases r with
  | ok d S' => exact fun μ' H' v a s p => ⟨μ', S', d, a, s, p, tSt.aft (r := kk d S') q a⟩
  | exn c S' => exact fun μ' H' a s => q μ' σ H' a (rl.next a s)
  | stuck => exact q
def cNil : DS := fun ρ S => .ok (.nx ρ) S
def cSeq (f g : DS) : DS := fun ρ S => match f ρ S with
  | .ok (.nx ρ1) S1 => g ρ1 S1
  | r => r
theorem ss_nil : SSs X C W [] cNil := by
  refine ⟨pss_imp pss_nil fun D σ H q => ?_⟩
  obtain ⟨μ, ρ, S, rl, q⟩ := q
  exact q μ σ H Aft.refl rl
theorem ss_cons (h1 : SS X C W st cs) (h2 : SSs X C W rest cr) : SSs X C W (st :: rest) (cSeq cs cr) := by
  refine ⟨pss_imp (pss_cons h1.ps h2.ps) fun D σ H q => ?_⟩
  obtain ⟨μ, ρ, S, rl, q⟩ := q
  refine ⟨μ, ρ, S, rl, ?_⟩
  unfold cSeq at q
  cases hr : cs ρ S with
  | ok o S' =>
    rw [hr] at q
    cases o with
    | nx ρ1 => exact fun μ' σ' H' a rl' => ⟨μ', ρ1, S', rl', tSt.aft (r := cr ρ1 S') q a⟩
    | rt d => exact q
    | bk d => exact q
    | ct d => exact q
    | ex c d => exact q
  | exn c S' => rw [hr] at q; exact q
  | stuck => rw [hr] at q; exact q
def cPass : DS := fun ρ S => .ok (.nx ρ) S
def cExpr (f : DE) : DS := fun ρ S => toS (f ρ S) ρ fun _ S1 => .ok (.nx ρ) S1
def cRet (f : DE) : DS := fun ρ S => toS (f ρ S) ρ fun d S1 => .ok (.rt d) S1
theorem ss_ret (h1 : SE X C W e f) : SS X C W (.Return (some e) pos) (cRet f) := by
  refine ⟨ps_imp (ps_ret h1.pe) fun D σ H q => ?_⟩
  obtain ⟨μ, ρ, S, rl, q⟩ := q
  refine ⟨μ, ρ, S, rl, (toS_go q rl).imp fun v H1 q1 => ?_⟩
  obtain ⟨μ1, S1, d, a1, s1, vr, q1⟩ := q1
  exact q1 μ1 H1 v Aft.refl s1 vr
def cRetN : DS := fun _ S => .ok (.rt .non) S
def cIf (t : DT) (f g : DS) : DS := fun ρ S => toS (t ρ S) ρ fun c S1 => if c = true then f ρ S1 else g ρ S1
theorem ss_if (hc : ST X C W e t) (h1 : SSs X C W body cb) (h2 : SSs X C W orelse cr) : SS X C W (.If e body orelse pos) (cIf t cb cr) := by
  refine ⟨ps_imp (ps_if hc.pt h1.ps h2.ps) fun D σ H q => ?_⟩
  obtain ⟨μ, ρ, S, rl, q⟩ := q
  refine ⟨μ, ρ, S, rl, (toS_go q rl).imp fun c H1 q1 => ?_⟩
  obtain ⟨μ1, S1, d, a1, s1, vr, q1⟩ := q1
  cases (show d = c from vr)
  cases c with
  | true => rw [if_pos rfl] at q1 ⊢; exact ⟨μ1, ρ, S1, rl.next a1 s1, q1⟩
  | false => rw [if_neg Bool.false_ne_true] at q1 ⊢; exact ⟨μ1, ρ, S1, rl.next a1 s1, q1⟩
def cSet (i : Nat) (f : DE) : DS := fun ρ S => toS (f ρ S) ρ fun d S1 => .ok (.nx (ρ.set i (some d))) S1
theorem ss_set (i : Nat) {x : Str} (hN : X.N.Nodup) (h1 : SE X C W e f) (hi : X.N[i]? = some x := by rfl) (hx : Loc X.env.scope x := by first | exact Or.inl rfl | exact Or.inr rfl) (hs : swapsWith e (some (.Name x pos')) pos.line X.env = pure false := by rfl)
    (hf : X.fn x = true ∨ X.env.scope.names.lookup x = some .local := by first | exact .inl rfl | exact .inr rfl) : SS X C W (.Assign [.Name x pos'] e pos) (cSet i f) := by
  refine ⟨ps_imp (ps_set hN hi hx h1.pe hs hf) fun D σ H q => ?_⟩
  obtain ⟨μ, ρ, S, rl, q⟩ := q
  refine ⟨μ, ρ, S, rl, (toS_go q rl).imp fun v H1 q1 => ?_⟩
  obtain ⟨μ1, S1, d, a1, s1, vr, q1⟩ := q1
  exact q1 μ1 _ H1 Aft.refl ((rl.next a1 s1).set vr i)
def cAsg (tg : Tg) (f : DE) : DS := fun ρ S => toS (f ρ S) ρ fun d S1 => match tg.asg d ρ with
  | some ρ' => .ok (.nx ρ') S1
  | none => .stuck
theorem ss_asg {tge : Expr} {tg : Tg} (h1 : SE X C W e f) (hg : SG X C tge tg) (hs : swapsWithSole [tge] e pos.line X.env = pure false := by rfl) (hw : swappedStores [tge] e X.env = pure none := by rfl)
    (hh : (assignEach [tge] X.env).map (·.2) = [assign tge X.env] := by rfl) : SS X C W (.Assign [tge] e pos) (cAsg tg f) := by
  refine ⟨ps_imp (ps_asg h1.pe hg.pg hs hw hh) fun D σ H q => ?_⟩
  obtain ⟨μ, ρ, S, rl, q⟩ := q
  refine ⟨μ, ρ, S, rl, (toS_go q rl).imp fun v H1 q1 => ?_⟩
  obtain ⟨μ1, S1, d, a1, s1, vr, q1⟩ := q1
  cases e1 : tg.asg d ρ with
  | none => rw [e1] at q1; exact q1.elim
  | some ρ' =>
    rw [e1] at q1
    exact ⟨μ1, ρ, S1, d, ρ', rl.next a1 s1, vr, e1, fun σ' _ rl' => q1 μ1 σ' H1 Aft.refl rl'⟩
def cPar (i j : Nat) (l : DL) : DS := fun ρ S => toS (l ρ S) ρ fun ds S1 => match ds with
  | [d, e] => .ok (.nx ((ρ.set i (some d)).set j (some e))) S1
  | _ => .stuck
theorem ss_par (i j : Nat) {x y : Str} {a b : Expr} {px py pt : Pos} {kt k2 pt2} (hc : X.calm = true) (hN : X.N.Nodup) (ha : SL X C W [a, b] l) (hi : X.N[i]? = some x := by rfl) (hj : X.N[j]? = some y := by rfl) (hij : i ≠ j := by decide)
    (hx : X.env.scope.names.lookup x = some .local := by rfl) (hy : X.env.scope.names.lookup y = some .local := by rfl)
    (hw : swappedStores [.Tuple [.Name x px, .Name y py] kt pt] (.Tuple [a, b] k2 pt2) X.env = pure (some [x, y]) := by rfl)
    (hs : swapsWithSole [.Tuple [.Name x px, .Name y py] kt pt] (.Tuple [a, b] k2 pt2) pos.line X.env = pure false := by rfl) :
    SS X C W (.Assign [.Tuple [.Name x px, .Name y py] kt pt] (.Tuple [a, b] k2 pt2) pos) (cPar i j l) := by
  refine ⟨ps_imp (ps_par hc hN hi hj hij hx hy ha.pa hw hs) fun D σ H q => ?_⟩
  obtain ⟨μ, ρ, S, rl, q⟩ := q
  refine ⟨μ, ρ, S, rl, (toS_go q rl).imp fun vs H1 q1 => ?_⟩
  obtain ⟨μ1, S1, ds, a1, s1, vr, q1⟩ := q1
  match ds, q1, vr with
  | [], q1, _ => exact q1.elim
  | [_], q1, _ => exact q1.elim
  | _ :: _ :: _ :: _, q1, _ => exact q1.elim
  | [d, e], q1, vr =>
    obtain ⟨v, r, rfl, h1, h2⟩ := VRs_cons.mp vr
    obtain ⟨v2, r2, rfl, h3, h4⟩ := VRs_cons.mp h2
    cases VRs_nil.mp h4
    exact ⟨v, v2, rfl, q1 μ1 _ H1 Aft.refl (((rl.next a1 s1).set h1 i).set h3 j)⟩
def cAug (i : Nat) (gg : Op2) (f : DE) : DS := fun ρ S => match ρ[i]? with
  | some (some x) => toS (f ρ S) ρ fun y S1 => match gg x y S1 with
    | some (d, S2) => .ok (.nx (ρ.set i (some d))) S2
    | none => .stuck
  | _ => .stuck
def cRaise (n : Nat) : DS := fun ρ S => .ok (.ex n ρ) S
def whileL (t : DT) (b : DS) : Nat → Ev → Sto → Res Out
  | 0, _, _ => .stuck
  | n + 1, ρ, S => toS (t ρ S) ρ fun c S1 => if c = true then (match b ρ S1 with
    | .ok (.nx ρ2) S2 => whileL t b n ρ2 S2
    | .ok (.ct ρ2) S2 => whileL t b n ρ2 S2
    | .ok (.bk ρ2) S2 => .ok (.nx ρ2) S2
    | r => r) else .ok (.nx ρ) S1
noncomputable def cWhile (t : DT) (b : DS) : DS := fun ρ S => whileL t b big ρ S
theorem ss_while (c : Ctx X W k) (hc : ST X C W e t) (hb : SSs X C W body cb) : SS X C W (.While e body [] pos) (cWhile t cb) := by
  refine ⟨ps_imp (ps_while c.pass hc.pt hb.ps) fun D σ H q => ?_⟩
  refine ⟨fun m σ H => ∃ μ ρ S, Rl X.K C μ ρ S σ H ∧ tSt X.K C W (whileL t cb m ρ S) μ H D, ⟨big, q⟩, ?_⟩
  rintro m σ H ⟨μ, ρ, S, rl, q⟩
  cases m with
  | zero => exact q.elim
  | succ m =>
    refine ⟨μ, ρ, S, rl, (toS_go q rl).imp fun cc H1 q1 => ?_⟩
    obtain ⟨μ1, S1, d, a1, s1, vr, q1⟩ := q1
    cases (show d = cc from vr)
    cases cc with
    | false =>
      rw [if_neg Bool.false_ne_true] at q1 ⊢
      exact q1 μ1 σ H1 Aft.refl (rl.next a1 s1)
    | true =>
      rw [if_pos rfl] at q1 ⊢
      refine ⟨fun σ' H' => ∃ μ ρ S, Rl X.K C μ ρ S σ' H' ∧ tSt X.K C W (whileL t cb m ρ S) μ H' D, fun σ' H' z => ⟨m, Nat.lt_succ_self _, z⟩, μ1, ρ, S1, rl.next a1 s1, ?_⟩
      cases hr : cb ρ S1 with
      | ok o S' =>
        rw [hr] at q1
        cases o with
        | nx ρ1 => exact fun μ' σ' H' a rl' => ⟨μ', ρ1, S', rl', tSt.aft (r := whileL t cb m ρ1 S') q1 a⟩
        | ct ρ1 => exact fun μ' σ' H' a rl' => ⟨μ', ρ1, S', rl', tSt.aft (r := whileL t cb m ρ1 S') q1 a⟩
        | rt d => exact q1
        | bk d => exact q1
        | ex c d => exact q1
      | exn c S' => rw [hr] at q1; exact q1
      | stuck => rw [hr] at q1; exact q1
abbrev Itf := Sto → Nat → Option (Option Dv)
abbrev DI := Ev → Sto → Res Itf
def Jm (K : PySem.W.Frag) (C : Nat → Addr) (μ0 : Mu) (H0 : Hp) (it : Itf) (J : It) : Prop := ∀ μ S H, Aw K μ0 H0 μ H → SR K C μ S H → ∀ i, match it S i with
  | some none => J.stop i H
  | some (some d) => J.go i H ∧ ∀ x H', J.yld i H x H' → Aft K μ H μ H' ∧ SR K C μ S H' ∧ VR K H' μ d x
  | none => True
structure SI (X : Cx) (C : Nat → Addr) (W : WX) (tg iter : Expr) (f : DI) : Prop where
  pi : PI X tg iter (tG X.K C W (Jm X.K C) f)
theorem pi_imp {tg iter : Expr} {w w' : TI} (h : PI X tg iter w) (k : ∀ σ H R, w' σ H R → w σ H R) : PI X tg iter w' := ⟨fun pins s σ H R I q => h.run pins s σ H R I (k _ _ _ q)⟩
def forL (it : Itf) (tg : Tg) (b : DS) : Nat → Nat → Ev → Sto → Res Out
  | 0, _, _, _ => .stuck
  | n + 1, i, ρ, S => match it S i with
    | none => .stuck
    | some none => .ok (.nx ρ) S
    | some (some d) => match tg.asg d ρ with
      | none => .stuck
      | some ρ1 => match b ρ1 S with
        | .ok (.nx ρ2) S2 => forL it tg b n (i + 1) ρ2 S2
        | .ok (.ct ρ2) S2 => forL it tg b n (i + 1) ρ2 S2
        | .ok (.bk ρ2) S2 => .ok (.nx ρ2) S2
        | r => r
noncomputable def cFor (fi : DI) (tg : Tg) (b : DS) : DS := fun ρ S => toS (fi ρ S) ρ fun it S1 => forL it tg b big 0 ρ S1
theorem ss_for {tge iter : Expr} {fi : DI} {tg : Tg} (c : Ctx X W k) (hi : SI X C W tge iter fi) (hg : SG X C tge tg) (hb : SSs X C W body cb) (hs : ∀ x, foldedSetIterable iter X.env x = pure x := by intro _; rfl) :
    SS X C W (.For tge iter body [] pos) (cFor fi tg cb) := by
  refine ⟨ps_imp (ps_for c.pass c.calm hi.pi hg.pg hb.ps hs) fun D σ H q => ?_⟩
  obtain ⟨μ, ρ, S, rl, q⟩ := q
  refine ⟨μ, ρ, S, rl, (toS_go q rl).imp fun J H1 q1 => ?_⟩
  obtain ⟨μ1, S1, it, a1, s1, jm, q1⟩ := q1
  refine ⟨fun i m σ H => ∃ μ ρ S, Aft X.K μ1 H1 μ H ∧ Rl X.K C μ ρ S σ H ∧ tSt X.K C W (forL it tg cb m i ρ S) μ H D, ⟨big, μ1, ρ, S1, Aft.refl, rl.next a1 s1, q1⟩, ?_⟩
  rintro i m σ2 H2 ⟨μ2, ρ2, S2, a2, rl2, q2⟩
  cases m with
  | zero => exact q2.elim
  | succ m =>
    have jj := jm μ2 S2 H2 a2.aw rl2.sr i
    unfold forL at q2
    cases e1 : it S2 i with
    | none => rw [e1] at q2; exact q2.elim
    | some o =>
      rw [e1] at q2 jj
      cases o with
      | none => exact .inl ⟨jj, q2 μ2 σ2 H2 Aft.refl rl2⟩
      | some d =>
        obtain ⟨j1, j2⟩ := jj
        cases e2 : tg.asg d ρ2 with
        | none => simp only [e2] at q2; exact q2.elim
        | some ρ3 =>
          simp only [e2] at q2
          refine .inr ⟨j1, fun σ' H' => ∃ μ ρ S, Aft X.K μ1 H1 μ H' ∧ Rl X.K C μ ρ S σ' H' ∧ tSt X.K C W (forL it tg cb m (i + 1) ρ S) μ H' D, fun σ' H' z => ⟨m, Nat.lt_succ_self _, z⟩, fun x H3 y => ?_⟩
          obtain ⟨a3, s3, vr3⟩ := j2 x H3 y
          refine ⟨μ2, ρ2, S2, d, ρ3, rl2.next a3 s3, vr3, e2, fun σ4 _ rl4 => ⟨μ2, ρ3, S2, rl4, ?_⟩⟩
          cases hr : cb ρ3 S2 with
          | ok o S' =>
            rw [hr] at q2
            cases o with
            | nx ρ1 => exact fun μ' σ' H' a rl' => ⟨μ', ρ1, S', (a2.trans a3).trans a, rl', tSt.aft (r := forL it tg cb m (i + 1) ρ1 S') q2 (a3.trans a)⟩
            | ct ρ1 => exact fun μ' σ' H' a rl' => ⟨μ', ρ1, S', (a2.trans a3).trans a, rl', tSt.aft (r := forL it tg cb m (i + 1) ρ1 S') q2 (a3.trans a)⟩
            | rt d => exact fun μ' H' v a => q2 μ' H' v (a3.trans a)
            | bk d => exact fun μ' σ' H' a => q2 μ' σ' H' (a3.trans a)
            | ex c d => exact fun μ' σ' H' a => q2 μ' σ' H' (a3.trans a)
          | exn c S' => rw [hr] at q2; exact q2
          | stuck => rw [hr] at q2; exact q2
def Res.bdN {α β : Type} (r : Res α) (f : α → Sto → Res β) : Res β :=
  match r with
  | .ok a S => f a S
  | .exn _ _ => .stuck
  | .stuck => .stuck
@[simp] theorem Res.bdN_ok {α β : Type} (a : α) (S : Sto) (f : α → Sto → Res β) : (Res.ok a S).bdN f = f a S := rfl
@[simp] theorem Res.bdN_exn {α β : Type} (c : Nat) (S : Sto) (f : α → Sto → Res β) : (Res.exn c S : Res α).bdN f = .stuck := rfl
@[simp] theorem Res.bdN_stuck {α β : Type} (f : α → Sto → Res β) : (Res.stuck : Res α).bdN f = .stuck := rfl
theorem tR.bdN {α β γ δ : Type} {K : PySem.W.Frag} {P : Mu → Hp → α → β → Prop} {P2 : Mu → Hp → γ → δ → Prop} {r : Res α} {kk : α → Sto → Res γ} {Q : δ → Hp → Prop} {μ : Mu} {σ σ' : L2.St} {H : Hp} (h : tR K C W P2 (r.bdN kk) μ σ H Q) :
    tR K C W0 P r μ σ' H fun v H1 => ∃ μ1 S1 d, Aft K μ H μ1 H1 ∧ SR K C μ1 S1 H1 ∧ P μ1 H1 d v ∧ tR K C W P2 (kk d S1) μ1 σ H1 Q := by
  cases r with
  | ok d S' => exact fun μ' H' v a s q => ⟨μ', S', d, a, s, q, tR.aft (r := kk d S') h a⟩
  | exn c S' => exact h.elim
  | stuck => exact h.elim
structure STs (X : Cx) (C : Nat → Addr) (W : WX) (ifs : List Expr) (f : DT) : Prop where
  pts : PTs X ifs (tG X.K C W PB f)
theorem pts_imp {ifs : List Expr} {w w' : TT} (h : PTs X ifs w) (k : ∀ σ H R, w' σ H R → w σ H R) : PTs X ifs w' := ⟨fun pins s σ H R I q => h.run pins s σ H R I (k _ _ _ q)⟩
def tTrue : DT := fun _ S => .ok true S
theorem sts_nil : STs X C W [] tTrue := ⟨pts_imp pts_nil fun σ H Q ⟨μ, ρ, S, rl, q⟩ => q μ H true Aft.refl rl.sr rfl⟩
theorem sts_one (h1 : ST X C W e t) : STs X C W [e] t := ⟨pts_one h1.pt⟩
section
variable {elt tge iter : Expr} {ifs : List Expr} {scope : Scope} {own : List (Str × Nat)} {fi : DI} {tg : Tg} {cond : DT}
def lcV (it : Itf) (tg : Tg) (cond : DT) (elt : DE) (ρ : Ev) : Nat → Nat → List Dv → Sto → Res Dv
  | 0, _, _, _ => .stuck
  | m + 1, i, acc, S => match it S i with
    | none => .stuck
    | some none => .ok (.fz acc) S
    | some (some d) => match tg.asg d ρ with
      | none => .stuck
      | some ρ2 => (cond ρ2 S).bdN fun c S1 => if c = true then (elt ρ2 S1).bdN fun y S2 => (if acc.length < lim then lcV it tg cond elt ρ m (i + 1) (acc ++ [y]) S2 else .stuck) else lcV it tg cond elt ρ m (i + 1) acc S1
noncomputable def eLcV (fi : DI) (tg : Tg) (cond : DT) (elt : DE) (vs : List Nat) : DE := fun ρ S => (fi ρ S).bd fun it S1 => lcV it tg cond elt (wipeD ρ vs) big 0 [] S1
theorem lcV_go {σ : L2.St} {H : Hp} {Q : VK} {vs : List Nat} (hsl : ∀ i ∈ tg.slots, i ∈ vs) (q : tG X.K C W (PV X.K) (eLcV fi tg cond f vs) σ H Q) :
    tLc (tG X.K C W (Jm X.K C) fi) (tTg X.K C tg) (tG X.K C W0 PB cond) (tG X.K C W0 (PV X.K) f) vs σ H Q := by
  obtain ⟨μ, ρ, S, rl, q⟩ := q
  refine ⟨μ, ρ, S, rl, (tR.bd q).imp fun J H1 q1 => ?_⟩
  obtain ⟨μ1, S1, it, a1, s1, jm, q1⟩ := q1
  intro D hD
  have nD : D ∉ μ1.tr := s1.notin hD
  have hD2 : D ∉ μ1.hd := fun z => s1.hids D z hD
  let I : Nat → Nat → Hp → Prop := fun i m H => ∃ μ S acc av, μ.hd = D :: μ1.hd ∧ D ∉ μ.tr ∧ Aw X.K μ1 H1 μ H ∧ Aft X.K μ1 H1 ⟨μ.tr, μ1.hd⟩ H ∧ SR X.K C μ S H ∧ H D = some (.lst av) ∧ VRs X.K H μ acc av ∧ tR X.K C W (PV X.K) (lcV it tg cond f (wipeD ρ vs) m i acc S) μ1 σ H1 Q
  have hS : SR X.K C (μ1.hide D) S1 (L2.upd H1 D (.lst [])) := by
    refine s1.keepw (Aw.hide hD) rfl (fun n x e => upd_ne ?_) fun x hx => ?_
    · rintro rfl
      exact nD (List.mem_of_getElem? e)
    · rcases List.mem_cons.mp hx with rfl | z
      · rw [upd_same]
        exact ⟨Option.some_ne_none _, nD⟩
      · exact ⟨(Aft.new (K := X.K) (μ := μ1) (o := .lst []) hD).aw.there x (s1.hids x z), s1.apart x z⟩
  refine ⟨I, ⟨big, μ1.hide D, S1, [], [], rfl, nD, Aw.hide hD, Aft.new hD, hS, upd_same, VRs_nil.mpr rfl, q1⟩, ?_⟩
  rintro i m H2 ⟨μ2, S2, acc, av, eh, nD2, a2, b2, s2, hd2, vacc, q2⟩
  cases m with
  | zero => exact q2.elim
  | succ m =>
    have jj := jm μ2 S2 H2 a2 s2 i
    unfold lcV at q2
    cases e1 : it S2 i with
    | none => simp only [e1] at q2; exact q2.elim
    | some o =>
      simp only [e1] at q2 jj
      have uh : Aw X.K μ2 H2 ⟨μ2.tr, μ1.hd⟩ H2 := Aw.unhide fun x hx => by rw [eh]; exact List.mem_cons_of_mem _ hx
      have su : SR X.K C ⟨μ2.tr, μ1.hd⟩ S2 H2 := s2.keepw uh rfl (fun _ _ _ => rfl) fun x hx => have z : x ∈ μ2.hd := by rw [eh]; exact List.mem_cons_of_mem _ hx
        ⟨s2.hids x z, s2.apart x z⟩
      cases o with
      | none =>
        exact .inl ⟨jj, q2 ⟨μ2.tr, μ1.hd⟩ H2 _ b2 su (VR_fz.mpr ⟨D, av, rfl, .inr (.inr ⟨hd2, nD2, hD2⟩), vacc.weak uh⟩)⟩
      | some d =>
        obtain ⟨j1, j2⟩ := jj
        cases e2 : tg.asg d (wipeD ρ vs) with
        | none => simp only [e2] at q2; exact q2.elim
        | some ρ3 =>
          simp only [e2] at q2
          refine .inr ⟨j1, I (i + 1) m, fun H' z => ⟨m, Nat.lt_succ_self _, z⟩, fun x H3 y => ?_⟩
          obtain ⟨a3, s3, vr3⟩ := j2 x H3 y
          have rlw : Rl X.K C μ2 (wipeD ρ vs) S2 (L2.wipe σ vs) H3 := (rl.weak ((a1.aw.trans a2).trans a3.aw) s3).wipe vs
          have b3 := b2.trans (a3.unh μ1.hd)
          refine ⟨μ2, wipeD ρ vs, S2, d, ρ3, rlw, vr3, e2, fun σ4 hw rl4 => ⟨?_, μ2, ρ3, S2, rl4, ?_⟩⟩
          · have h1 := hw vs hsl
            have h2 : L2.wipe (L2.wipe σ vs) vs = L2.wipe σ vs := by
              apply List.ext_getElem?
              intro j
              rw [wipe_get, wipe_get]
              by_cases hj : j ∈ vs
              · rw [if_pos hj, if_pos hj]
                cases σ[j]? <;> rfl
              · rw [if_neg hj, if_neg hj]
            rw [h1, h2]
          · cases hc : cond ρ3 S2 with
            | exn c S' => rw [hc] at q2; exact q2.elim
            | stuck => rw [hc] at q2; exact q2.elim
            | ok c5 S5 =>
              rw [hc] at q2
              simp only [Res.bdN_ok] at q2
              intro μ5 H5 cc a5 s5 ec
              cases (show c5 = cc from ec)
              have b5 := b3.trans (a5.unh μ1.hd)
              have e3 : H3 D = some (.lst av) := a3.all D _ nD2 hd2
              have e5 : H5 D = some (.lst av) := a5.all D _ nD2 e3
              have nD5 : D ∉ μ5.tr := a5.aw.outTr nD2 e3
              cases c5 with
              | false =>
                rw [if_neg Bool.false_ne_true] at q2 ⊢
                exact ⟨μ5, S5, acc, av, a5.hid.trans eh, nD5, a2.trans (a3.trans a5).aw, b5, s5, e5, vacc.mono (a3.trans a5), q2⟩
              | true =>
                rw [if_pos rfl] at q2 ⊢
                refine ⟨μ5, ρ3, S5, rl4.next a5 s5, ?_⟩
                cases he : f ρ3 S5 with
                | exn c S' => rw [he] at q2; exact q2.elim
                | stuck => rw [he] at q2; exact q2.elim
                | ok y6 S6 =>
                  rw [he] at q2
                  simp only [Res.bdN_ok] at q2
                  intro μ6 H6 yv a6 s6 vr6
                  have b6 := b5.trans (a6.unh μ1.hd)
                  have nD6 : D ∉ μ6.tr := a6.aw.outTr nD5 e5
                  have e6 : H6 D = some (.lst av) := a6.all D _ nD5 e5
                  have eh6 : μ6.hd = D :: μ1.hd := a6.hid.trans (a5.hid.trans eh)
                  have vacc6 : VRs X.K H6 μ6 acc av := vacc.mono ((a3.trans a5).trans a6)
                  by_cases hl : acc.length < lim
                  · rw [if_pos hl] at q2
                    have aw7 : Aw X.K μ6 H6 μ6 (L2.upd H6 D (.lst (av ++ [yv]))) := Aw.upd (by rw [e6]; trivial) (.inl fun z => z.2 (by rw [eh6]; exact List.mem_cons_self))
                    refine ⟨av, e6, by rw [← vacc6.length]; exact Nat.lt_of_lt_of_le hl lim_line, μ6, S6, acc ++ [y6], av ++ [yv], eh6, nD6, (a2.trans ((a3.trans a5).trans a6).aw).trans aw7, b6.patch hD, ?_, upd_same, ?_, q2⟩
                    · refine s6.keepw aw7 rfl (fun n x e => upd_ne ?_) fun x hx => ⟨aw7.there x (s6.hids x hx), s6.apart x hx⟩
                      rintro rfl
                      exact nD6 (List.mem_of_getElem? e)
                    · exact (vacc6.weak aw7).append (VRs_cons.mpr ⟨yv, [], rfl, VR.weak aw7 vr6, VRs_nil.mpr rfl⟩)
                  · rw [if_neg hl] at q2
                    exact q2.elim
theorem se_lcV (c : Ctx X W k) (hi : SI X C W tge iter fi) (ok : BlkOk X.N X.env.scope scope own) (hsl : ∀ i ∈ tg.slots, i ∈ own.map (·.2)) (hg : ∀ (s : Shared) (H : Hp) (C' : Addr) (cl : List (Str × Addr)) (fp : List Addr), SG (X.blk s H scope (compEnvC scope cl C' X.env) fp) C tge tg)
    (ht : ∀ (s : Shared) (H : Hp) (C' : Addr) (cl : List (Str × Addr)) (fp : List Addr), STs (X.blk s H scope (compEnvC scope cl C' X.env) fp) C W0 ifs cond)
    (he : ∀ (s : Shared) (H : Hp) (C' : Addr) (cl : List (Str × Addr)) (fp : List Addr), SE (X.blk s H scope (compEnvC scope cl C' X.env) fp) C W0 elt f)
    (hs : ∀ x, foldedSetIterable iter X.env x = pure x := by intro _; rfl) : SE X C W (.ListComp elt [⟨tge, iter, ifs, 0⟩] scope pos) (eLcV fi tg cond f (own.map (·.2))) :=
  ⟨pe_imp (pe_lc (g := tTg X.K C tg) (tt := tG X.K C W0 PB cond) (te := tG X.K C W0 (PV X.K) f) c.calm c.nd hi.pi ok (fun s H C' cl fp => (hg s H C' cl fp).pg) (fun s H C' cl fp => (ht s H C' cl fp).pts) (fun s H C' cl fp => (he s H C' cl fp).pe) hs) fun _ _ _ q => lcV_go hsl q⟩
theorem ss_setLcV (i : Nat) {y : Str} {py spos : Pos} (c : Ctx X W k) (hi : SI X C W tge iter fi) (ok : BlkOk X.N X.env.scope scope own) (hsl : ∀ i ∈ tg.slots, i ∈ own.map (·.2)) (hg : ∀ (s : Shared) (H : Hp) (C' : Addr) (cl : List (Str × Addr)) (fp : List Addr), SG (X.blk s H scope (compEnvC scope cl C' X.env) fp) C tge tg)
    (ht : ∀ (s : Shared) (H : Hp) (C' : Addr) (cl : List (Str × Addr)) (fp : List Addr), STs (X.blk s H scope (compEnvC scope cl C' X.env) fp) C W0 ifs cond)
    (he : ∀ (s : Shared) (H : Hp) (C' : Addr) (cl : List (Str × Addr)) (fp : List Addr), SE (X.blk s H scope (compEnvC scope cl C' X.env) fp) C W0 elt f)
    (hsw : swapsWith (.ListComp elt [⟨tge, iter, ifs, 0⟩] scope pos) (some (.Name y py)) spos.line X.env = pure true) (hy : X.N[i]? = some y := by rfl) (hyl : X.env.scope.names.lookup y = some .local := by rfl)
    (hs : ∀ x, foldedSetIterable iter X.env x = pure x := by intro _; rfl) : SS X C W (.Assign [.Name y py] (.ListComp elt [⟨tge, iter, ifs, 0⟩] scope pos) spos) (cSet i (eLcV fi tg cond f (own.map (·.2)))) := by
  refine ⟨ps_imp (ps_setLc (g := tTg X.K C tg) (tt := tG X.K C W0 PB cond) (te := tG X.K C W0 (PV X.K) f) c.calm c.nd hy hyl hsw hi.pi ok (fun s H C' cl fp => (hg s H C' cl fp).pg) (fun s H C' cl fp => (ht s H C' cl fp).pts) (fun s H C' cl fp => (he s H C' cl fp).pe) hs) fun D σ H q => ?_⟩
  obtain ⟨μ, ρ, S, rl, q⟩ := q
  refine lcV_go (W := W) hsl ⟨μ, ρ, S, rl, (toS_go q rl).imp fun v H1 q1 => ?_⟩
  obtain ⟨μ1, S1, d, a1, s1, vr, q1⟩ := q1
  exact q1 μ1 _ H1 Aft.refl ((rl.next a1 s1).set vr i)
def cWipe (vs : List Nat) : DS := fun ρ S => .ok (.nx (wipeD ρ vs)) S
theorem wipeD_len (ρ : Ev) : ∀ vs : List Nat, (wipeD ρ vs).length = ρ.length
  | [] => rfl
  | v :: vs => by simp [wipeD, wipeD_len ρ vs]
theorem wipeD_sub (ρ : Ev) : ∀ (vs : List Nat) (i : Nat) (d : Dv), (wipeD ρ vs)[i]? = some (some d) → ρ[i]? = some (some d)
  | [], _, _, h => h
  | v :: vs, i, d, h => by
    simp only [wipeD, List.getElem?_set] at h
    split at h
    · split at h <;> cases h
    · exact wipeD_sub ρ vs i d h
theorem Rl.forget {K : PySem.W.Frag} {C : Nat → Addr} {H : Hp} {μ : Mu} {S : Sto} {ρ : Ev} {σ : L2.St} (r : Rl K C μ ρ S σ H) (vs : List Nat) : Rl K C μ (wipeD ρ vs) S σ H :=
  ⟨r.sr, by rw [wipeD_len]; exact r.len, fun i d e => r.sl i d (wipeD_sub ρ vs i d e)⟩
theorem ss_wipe (vs : List Nat) : SSs X C W [] (cWipe vs) := by
  refine ⟨pss_imp pss_nil fun D σ H q => ?_⟩
  obtain ⟨μ, ρ, S, rl, q⟩ := q
  exact q μ σ H Aft.refl (rl.forget vs)
end
end
end Fc
set_option exponentiation.threshold 256
set_option maxHeartbeats 4000000
set_option maxHeartbeats 4000000
namespace Fc
open PySem L2
abbrev Den := List Dv → Sto → Res Dv
abbrev WEx (E : XK) : WX := fun cls d _ H => E cls d H
def spG (K : PySem.W.Frag) (C : Nat → Addr) (n : Nat) (den : Den) : Sp := fun vs H Q E => vs.length = n ∧ ∃ μ S ds, SR K C μ S H ∧ VRs K H μ ds vs ∧ tR K C (WEx E) (PV K) (den ds S) μ [] H Q
structure FnG (P : Program) (w : World) (K : PySem.W.Frag) (mg : Str → Option Value) (base : Heap) (C : Nat → Addr) (k : Nat) (f : Addr) (fd : FuncData) (ps : List Str) (den : Den) : Prop where
  run : ∀ (A : Around) (outer : List Env) (s : Shared) (H : Hp) (args : Args) (us : List Value) (vs : List V) (Q : VK) (E : XK), Room k A → A.guards = some [] → Env0 P w K mg base A outer s H → BindsTo s fd args (ps.zip us) → Vals vs us →
    spG K C ps.length den vs H Q E → codeAny (model P w) A (.call (.ref f) args) (CR (L2.CX P w) outer P w H s Q E) s
structure Df (P : Program) (w : World) (K : PySem.W.Frag) (mg : Str → Option Value) (base : Heap) (C : Nat → Addr) (x : Str) (n k : Nat) (den : Den) : Prop where
  ex : ∃ f fd ps, mg x = some (.ref f) ∧ PySem.W.keepIn K (.ref f) = true ∧ Binds K fd ps [] ∧ ps.length = n ∧ FnG P w K mg base C k f fd ps den
section
variable {P : Program} {w : World} {K : PySem.W.Frag} {mg : Str → Option Value} {base : Heap} {C : Nat → Addr} {x : Str} {n j k : Nat} {den den' : Den}
theorem FnG.mono {f : Addr} {fd : FuncData} {ps : List Str} (F : FnG P w K mg base C j f fd ps den) (h : j ≤ k) : FnG P w K mg base C k f fd ps den :=
  ⟨fun A outer s H args us vs Q E hr => F.run A outer s H args us vs Q E (hr.mono h)⟩
theorem Df.mono (F : Df P w K mg base C x n j den) (h : j ≤ k) : Df P w K mg base C x n k den := by
  obtain ⟨f, fd, ps, h1, h2, h3, h4, h5⟩ := F.ex
  exact ⟨f, fd, ps, h1, h2, h3, h4, h5.mono h⟩
end
section
variable {X : Cx} {C : Nat → Addr} {W : WX} {j k n : Nat} {e : Expr} {es : List Expr} {l : DL} {den : Den} {x : Str} {p pos : Pos}
def eCall (n : Nat) (den : Den) (l : DL) : DE := fun ρ S => (l ρ S).bd fun ds S1 => if ds.length = n then den ds S1 else .stuck
theorem run_fnG {pins : List (Addr × Obj)} {σ : L2.St} {H : Hp} {s : Shared} {Q : VK} {us : List Value} {vs : List V} {f : Addr} {fd : FuncData} {ps : List Str} (c : Ctx X W j) (F : FnG X.prog X.w X.K X.mg X.base C k f fd ps den) (hk : k ≤ j) (hb : Binds X.K fd ps [])
    (I : Inv X pins σ H s) (r : Vals vs us) {μ : Mu} {S : Sto} {ds : List Dv} (sr : SR X.K C μ S H) (vr : VRs X.K H μ ds vs) (hl : ds.length = ps.length) (q : tR X.K C W (PV X.K) (den ds S) μ σ H Q) :
    wpAny (model X.prog X.w) X.A (call (.ref f) us) (EP X pins σ Q) X.xe s := by
  have hlu : us.length = ps.length := by rw [← r.length, ← vr.length]; exact hl
  have hbind := hb s us I.kIn (by rw [List.append_nil]; exact hlu)
  rw [List.append_nil] at hbind
  have q' : tR X.K C (WEx (WE W σ)) (PV X.K) (den ds S) μ [] H Q := by
    cases hd : den ds S with
    | ok d S' => rw [hd] at q; exact q
    | exn cc S' => rw [hd] at q; exact q
    | stuck => rw [hd] at q; exact q
  refine wpAny_call (codeAny_mono (F.run X.A X.stack s H ⟨us, []⟩ us vs Q (WE W σ) (c.room.mono hk) c.gd I.env0 hbind r ⟨by rw [← vr.length]; exact hl, μ, S, ds, sr, vr, q'⟩) fun res s' hq => ?_)
  match res, hq with
  | .error ex, hq => exact passAt c.tk σ pins H s ex s' I hq
  | .ok (.ret u), hq => exact I.after hq
  | .ok .next, hq => exact False.elim hq
  | .ok .brk, hq => exact False.elim hq
  | .ok .cont, hq => exact False.elim hq
theorem se_call (c : Ctx X W j) (G : Df X.prog X.w X.K X.mg X.base C x n k den) (ha : SL X C W (e :: es) l) (hk : k ≤ j := by decide) (hg : Gl X x := by rfl) (hdb : (x == ("__debug__" : Str)) = false := by decide)
    (he : starEach (e :: es) X.env = (false, eval e X.env) :: starEach es X.env := by rfl) (hpl : (backTo pos (starEach es X.env)).any (·.1) = false := by rfl) : SE X C W (.Call (.Name x p) (e :: es) [] pos) (eCall n den l) := by
  obtain ⟨f, fd, ps, hm, hkp, hb, hn, F⟩ := G.ex
  refine ⟨⟨fun pins s σ H Q I h => ?_⟩⟩
  obtain ⟨μ, ρ, S, rl, q⟩ := h
  refine wpAny_Call_Name_kw (ld_glob I hg hm ?_ hdb)
  refine PySem.W.callWith_K (h₀ := X.base) I.ok.mod.kin hkp (thn (ha.pa.run pos pins s σ H _ I ⟨μ, ρ, S, rl, tR.bd q⟩) fun us s1 hq => ?_) he hpl
  obtain ⟨vs, H1, I1, r, μ1, S1, ds, a1, s1', vr, q1⟩ := hq
  refine ⟨I1.kIn, ?_⟩
  by_cases hl : ds.length = n
  · rw [if_pos hl] at q1
    exact run_fnG c F hk hb I1 r s1' vr (hl.trans hn.symm) q1
  · rw [if_neg hl] at q1
    exact q1.elim
theorem se_call0 (c : Ctx X W j) (G : Df X.prog X.w X.K X.mg X.base C x 0 k den) (hk : k ≤ j := by decide) (hg : Gl X x := by rfl) (hdb : (x == ("__debug__" : Str)) = false := by decide) : SE X C W (.Call (.Name x p) [] [] pos) (fun _ S => den [] S) := by
  obtain ⟨f, fd, ps, hm, hkp, hb, hn, F⟩ := G.ex
  refine ⟨⟨fun pins s σ H Q I h => ?_⟩⟩
  obtain ⟨μ, ρ, S, rl, q⟩ := h
  refine wpAny_Call_Name_kw (ld_glob I hg hm ?_ hdb)
  exact PySem.W.callWith_K0 I.kIn hkp (run_fnG (us := []) c F hk hb I .nil rl.sr (VRs_nil.mpr rfl) hn.symm q)
end
def runB (n : Nat) (body : DS) : Den := fun args S => match body (args.map some ++ List.replicate (n - args.length) none) S with
  | .ok (.rt d) S' => .ok d S'
  | .ok (.nx _) S' => .ok .non S'
  | .ok (.ex c _) S' => .exn c S'
  | _ => .stuck
abbrev BX (P : Program) (w : World) (K : PySem.W.Frag) (mg : Str → Option Value) (base : Heap) (N : List Str) (qual : Str) (st : Stmt) (f : Addr) (cdv : Value) (A : Around) (outer : List Env) (s : Shared) (H : Hp) (E : XK) : Cx :=
  cxOf (L2.CX P w) P w K mg base N qual (defScope st) f cdv A outer s H E
section
variable {P : Program} {w : World} {K : PySem.W.Frag} {mg : Str → Option Value} {base : Heap} {C : Nat → Addr} {k : Nat}
theorem start_rl {μ : Mu} {S : Sto} {H : Hp} {ds : List Dv} {vs : List V} {N : List Str} (sr : SR K C μ S H) (vr : VRs K H μ ds vs) : Rl K C μ (ds.map some ++ List.replicate (N.length - ds.length) none) S (L2.start N vs) H := by
  refine ⟨sr, ?_, fun i d e => ?_⟩
  · unfold L2.start
    simp [vr.length]
  · by_cases hi : i < ds.length
    · rw [List.getElem?_append_left (by simpa using hi), List.getElem?_map] at e
      obtain ⟨d', e1, e2⟩ := Option.map_eq_some_iff.mp e
      cases e2
      obtain ⟨v, h1, h2⟩ := vr.get e1
      refine ⟨v, ?_, h2⟩
      unfold L2.start
      rw [List.getElem?_append_left (by rw [List.length_map, ← vr.length]; exact hi), List.getElem?_map, h1]
      rfl
    · rw [List.getElem?_append_right (by simpa using hi), List.getElem?_replicate] at e
      split at e <;> cases e
theorem fng_of {x qual : Str} {st : Stmt} {f : Addr} {fd : FuncData} {N ps : List Str} {body : DS} (F : Fun K x qual st f fd) (sc : FnScope N ps (defScope st))
    (hbody : ∀ (cdv : Value) (A : Around) (outer : List Env) (s : Shared) (H : Hp) (E : XK), Ctx (BX P w K mg base N qual st f cdv A outer s H E) (WEx E) k → SSs (BX P w K mg base N qual st f cdv A outer s H E) C (WEx E) (defBody st) body) :
    FnG P w K mg base C (k + 1) f fd ps (runB N.length body) := by
  obtain ⟨oc, od, kV, doc, pm, an, cdv, ct, osl, rfl, lk, hcd⟩ := F.ex
  refine ⟨fun A outer s H args us vs Q E hr hgd e0 hb r hsp => ?_⟩
  obtain ⟨hl, μ, S, ds, sr, vr, q⟩ := hsp
  have inK : K.In s.heap := e0.mod.kin.keeps fun b o z => (e0.bs b o z).1
  have nolim : s.heap.NoLimit := e0.mod.nolimit.keeps fun b o z => (e0.bs b o z).1
  have kinds : ∀ y ∈ ps.zip us, (defScope st).names.lookup y.1 = some .local ∨ ((defScope st).names.lookup y.1 = some .cell ∧ ((cellsFrom (s.heap.objs.size + 1) (defScope st).names []).lookup y.1).isSome = true) := by
    rintro ⟨a, v⟩ hy
    rcases sc.par a (List.of_mem_zip hy).1 with z | z
    · exact .inl z
    · exact .inr ⟨z, PySem.W.cellsFrom_some _ _ _ (.inl z)⟩
  refine codeAny_call_function hr.depth (inK _ _ lk) rfl sc.co sc.gen rfl (PySem.W.codeRec_of inK hcd) (hb _ _ _ _ ?_)
  refine wpAny_newFunctionEnv_cells sc.kind kinds fun env henv s1 hin => ?_
  subst henv
  refine ⟨nolim.keeps hin.toInCall.keep, codeAny_func ?_⟩
  have I : Inv (BX P w K mg base N qual st f cdv A outer s H E) [] (L2.start N vs) H s1 := inv_start sc hr.hd e0 hl r hin
  have ctx : Ctx (BX P w K mg base N qual st f cdv A outer s H E) (WEx E) k := ⟨rfl, hr.deeper _, hgd, takes_of rfl rfl rfl rfl, passes_of rfl, sc.nd⟩
  refine wpAny_mono ((hbody cdv A outer s H E ctx).ps.run [] s1 (L2.start N vs) H { nx := fun _ H' => Q .non H', rt := Q } I ⟨μ, _, S, start_rl (N := N) sr vr, ?_⟩) (fun fl s' hs => ?_) fun ex s' hs => hs
  · unfold runB at q
    cases hb2 : body (ds.map some ++ List.replicate (N.length - ds.length) none) S with
    | ok o S' =>
      rw [hb2] at q
      cases o with
      | nx ρ' => exact fun μ' σ' H' a rl => q μ' H' .non a rl.sr (VR_non.mpr rfl)
      | rt d => exact q
      | bk d => exact q.elim
      | ct d => exact q.elim
      | ex c d => exact fun μ' σ' H' a rl => q μ' H' a rl.sr
    | exn c S' => rw [hb2] at q; exact q.elim
    | stuck => rw [hb2] at q; exact q.elim
  · have fin : ∀ {σ' : L2.St} {H' : Hp} {v : V} {u : Value}, Inv (BX P w K mg base N qual st f cdv A outer s H E) [] σ' H' s' → RelV v u → Q v H' → CE outer P w H s Q u s' :=
      fun {σ' H' v u} J rv z => ⟨v, H', J.os, J.bare, J.base, J.hok, rv, z⟩
    match fl, hs with
    | .ret u, ⟨v, σ', H', J, rv, z⟩ => exact fin J rv z
    | .next, ⟨σ', H', J, z⟩ => exact fin (v := V.non) (u := Value.none) J rfl z
    | .brk, ⟨_, _, _, z⟩ => exact False.elim z
    | .cont, ⟨_, _, _, z⟩ => exact False.elim z
structure Fact (K : PySem.W.Frag) (mg : Str → Option Value) (x : Str) (st : Stmt) : Prop where
  ex : ∃ f fd, mg x = some (.ref f) ∧ Fun K x x st f fd
theorem df_of {x : Str} {st : Stmt} {N ps : List Str} {body : DS} (T : Fact K mg x st) (sc : FnScope N ps (defScope st))
    (hbind : ∀ (kV doc pm : Value) (an : Option Addr) (cdv ct : Value) (us : List Value), us.length = ps.length → bindArgs (PySem.W.fnOf x x (defArgs st) (defBody st) (defScope st) .none kV doc pm an cdv ct) ⟨us, []⟩ = pure (ps.zip us))
    (hbody : ∀ (f : Addr) (cdv : Value) (A : Around) (outer : List Env) (s : Shared) (H : Hp) (E : XK), Ctx (BX P w K mg base N x st f cdv A outer s H E) (WEx E) k → SSs (BX P w K mg base N x st f cdv A outer s H E) C (WEx E) (defBody st) body) :
    Df P w K mg base C x ps.length (k + 1) (runB N.length body) := by
  obtain ⟨f, fd, h1, F⟩ := T.ex
  exact ⟨f, fd, ps, h1, F.kp, F.binds hbind, rfl, fng_of F sc (hbody f)⟩
end
mutual
def Dv.low (n : Nat) : Dv → Bool
  | .tup ds => Dv.lows n ds
  | .ntp ds => Dv.lows n ds
  | .fz ds => Dv.lows n ds
  | .ref m => decide (m < n)
  | .obj _ fs => Dv.lowf n fs
  | .dct fs => Dv.lowk n fs
  | _ => true
def Dv.lows (n : Nat) : List Dv → Bool
  | [] => true
  | d :: ds => d.low n && Dv.lows n ds
def Dv.lowf (n : Nat) : List (Str × Dv) → Bool
  | [] => true
  | (_, d) :: ds => d.low n && Dv.lowf n ds
def Dv.lowk (n : Nat) : List (Key × Dv) → Bool
  | [] => true
  | (_, d) :: ds => d.low n && Dv.lowk n ds
end
def Ob.low (n : Nat) : Ob → Bool
  | .lst ds => Dv.lows n ds
  | .dic kvs => kvs.all fun p => p.2.low n
  | .ldic kvs => kvs.all fun p => p.2.low n
  | .ins _ fs => fs.all fun p => p.2.low n
def Mu.cut (μ : Mu) (n : Nat) : Mu := ⟨μ.tr.take n, μ.hd⟩
section
variable {K : PySem.W.Frag} {C : Nat → Addr} {H H' : Hp} {μ ν : Mu} {n : Nat}
theorem Mu.cut_out {a : Addr} (h : μ.out a) : (μ.cut n).out a := ⟨fun z => h.1 (List.mem_of_mem_take z), h.2⟩
theorem Fzl.cut {a : Addr} {xs : List V} (h : Fzl K H μ a xs) : Fzl K H (μ.cut n) a xs := by
  rcases h with h | h | ⟨h, z⟩
  · exact .inl h
  · exact .inr (.inl h)
  · exact .inr (.inr ⟨h, Mu.cut_out z⟩)
mutual
theorem VR.cut : ∀ {d : Dv} {v : V}, d.low n = true → VR K H μ d v → VR K H (μ.cut n) d v
  | .non, _, _, h => by simpa [VR] using h
  | .bl _, _, _, h => by simpa [VR] using h
  | .int _, _, _, h => by simpa [VR] using h
  | .str _, _, _, h => by simpa [VR] using h
  | .tup ds, _, b, h => by
    obtain ⟨x, vs, e, h1, h2⟩ := VR_tup.mp h
    exact VR_tup.mpr ⟨x, vs, e, h1, VRs.cut (by simpa [Dv.low] using b) h2⟩
  | .ntp ds, _, b, h => by
    obtain ⟨x, vs, e, h1, h2⟩ := VR_ntp.mp h
    exact VR_ntp.mpr ⟨x, vs, e, h1, VRs.cut (by simpa [Dv.low] using b) h2⟩
  | .fz ds, _, b, h => by
    obtain ⟨x, vs, e, h1, h2⟩ := VR_fz.mp h
    exact VR_fz.mpr ⟨x, vs, e, h1.cut, VRs.cut (by simpa [Dv.low] using b) h2⟩
  | .ref m, _, b, h => by
    obtain ⟨x, h1, e⟩ := VR_ref.mp h
    exact VR_ref.mpr ⟨x, by show (μ.tr.take n)[m]? = some x; rw [List.getElem?_take_of_lt (by simpa [Dv.low] using b)]; exact h1, e⟩
  | .obj c fs, _, b, h => by
    obtain ⟨x, dx, gs, e, h1, h2, h3⟩ := VR_obj.mp h
    exact VR_obj.mpr ⟨x, dx, gs, e, Mu.cut_out h1, h2, VRf.cut (by simpa [Dv.low] using b) h3⟩
  | .dct kvs, _, b, h => by
    obtain ⟨x, gs, e, h1, h2, h3⟩ := VR_dct.mp h
    exact VR_dct.mpr ⟨x, gs, e, Mu.cut_out h1, h2, VRk.cut (by simpa [Dv.low] using b) h3⟩
theorem VRs.cut : ∀ {ds : List Dv} {vs : List V}, Dv.lows n ds = true → VRs K H μ ds vs → VRs K H (μ.cut n) ds vs
  | [], _, _, h => by simpa [VRs] using h
  | d :: ds, _, b, h => by
    obtain ⟨v, r, e, h1, h2⟩ := VRs_cons.mp h
    simp only [Dv.lows, Bool.and_eq_true] at b
    exact VRs_cons.mpr ⟨v, r, e, VR.cut b.1 h1, VRs.cut b.2 h2⟩
theorem VRf.cut : ∀ {ds : List (Str × Dv)} {vs : List (Str × V)}, Dv.lowf n ds = true → VRf K H μ ds vs → VRf K H (μ.cut n) ds vs
  | [], _, _, h => by simpa [VRf] using h
  | (f, d) :: ds, _, b, h => by
    obtain ⟨v, r, e, h1, h2⟩ := VRf_cons.mp h
    simp only [Dv.lowf, Bool.and_eq_true] at b
    exact VRf_cons.mpr ⟨v, r, e, VR.cut b.1 h1, VRf.cut b.2 h2⟩
theorem VRk.cut : ∀ {ds : List (Key × Dv)} {vs : List (Key × V)}, Dv.lowk n ds = true → VRk K H μ ds vs → VRk K H (μ.cut n) ds vs
  | [], _, _, h => by simpa [VRk] using h
  | (f, d) :: ds, _, b, h => by
    obtain ⟨v, r, e, h1, h2⟩ := VRk_cons.mp h
    simp only [Dv.lowk, Bool.and_eq_true] at b
    exact VRk_cons.mpr ⟨v, r, e, VR.cut b.1 h1, VRk.cut b.2 h2⟩
end
theorem KRs.cut {κ : Type} : ∀ {l : List (κ × Dv)} {m : List (κ × V)}, (l.all fun p => p.2.low n) = true → KRs K H μ l m → KRs K H (μ.cut n) l m
  | [], _, _, h => h
  | (k, d) :: r, _, b, h => by
    obtain ⟨v, t, e, h1, h2⟩ := h
    simp only [List.all_cons, Bool.and_eq_true] at b
    exact ⟨v, t, e, h1.cut b.1, KRs.cut b.2 h2⟩
theorem OR.cut {o : Ob} {ho : HO} (b : o.low n = true) (h : OR K C H μ o ho) : OR K C H (μ.cut n) o ho := by
  cases o with
  | lst ds => obtain ⟨vs, e, r⟩ := h; exact ⟨vs, e, r.cut b⟩
  | dic ds => obtain ⟨vs, e, r⟩ := h; exact ⟨vs, e, r.cut b⟩
  | ldic ds => obtain ⟨x, vs, e, r⟩ := h; exact ⟨x, vs, e, r.cut b⟩
  | ins c ds => obtain ⟨x, vs, e, r⟩ := h; exact ⟨x, vs, e, r.cut b⟩
mutual
theorem VR.isLow : ∀ {d : Dv} {v : V}, VR K H μ d v → d.low μ.tr.length = true
  | .non, _, _ => rfl
  | .bl _, _, _ => rfl
  | .int _, _, _ => rfl
  | .str _, _, _ => rfl
  | .tup ds, _, h => by
    obtain ⟨x, vs, e, h1, h2⟩ := VR_tup.mp h
    simpa [Dv.low] using VRs.isLow h2
  | .ntp ds, _, h => by
    obtain ⟨x, vs, e, h1, h2⟩ := VR_ntp.mp h
    simpa [Dv.low] using VRs.isLow h2
  | .fz ds, _, h => by
    obtain ⟨x, vs, e, h1, h2⟩ := VR_fz.mp h
    simpa [Dv.low] using VRs.isLow h2
  | .ref m, _, h => by
    obtain ⟨x, h1, e⟩ := VR_ref.mp h
    simpa [Dv.low] using (List.getElem?_eq_some_iff.mp h1).1
  | .obj c fs, _, h => by
    obtain ⟨x, dx, gs, e, h1, h2, h3⟩ := VR_obj.mp h
    simpa [Dv.low] using VRf.isLow h3
  | .dct kvs, _, h => by
    obtain ⟨x, gs, e, h1, h2, h3⟩ := VR_dct.mp h
    simpa [Dv.low] using VRk.isLow h3
theorem VRs.isLow : ∀ {ds : List Dv} {vs : List V}, VRs K H μ ds vs → Dv.lows μ.tr.length ds = true
  | [], _, _ => rfl
  | d :: ds, _, h => by
    obtain ⟨v, r, e, h1, h2⟩ := VRs_cons.mp h
    simp [Dv.lows, VR.isLow h1, VRs.isLow h2]
theorem VRf.isLow : ∀ {ds : List (Str × Dv)} {vs : List (Str × V)}, VRf K H μ ds vs → Dv.lowf μ.tr.length ds = true
  | [], _, _ => rfl
  | (f, d) :: ds, _, h => by
    obtain ⟨v, r, e, h1, h2⟩ := VRf_cons.mp h
    simp [Dv.lowf, VR.isLow h1, VRf.isLow h2]
theorem VRk.isLow : ∀ {ds : List (Key × Dv)} {vs : List (Key × V)}, VRk K H μ ds vs → Dv.lowk μ.tr.length ds = true
  | [], _, _ => rfl
  | (f, d) :: ds, _, h => by
    obtain ⟨v, r, e, h1, h2⟩ := VRk_cons.mp h
    simp [Dv.lowk, VR.isLow h1, VRk.isLow h2]
end
theorem KRs.isLow {κ : Type} : ∀ {l : List (κ × Dv)} {m : List (κ × V)}, KRs K H μ l m → (l.all fun p => p.2.low μ.tr.length) = true
  | [], _, _ => rfl
  | (k, d) :: r, _, h => by
    obtain ⟨v, t, e, h1, h2⟩ := h
    simp [h1.isLow]
    simpa using KRs.isLow h2
theorem OR.isLow {o : Ob} {ho : HO} (h : OR K C H μ o ho) : o.low μ.tr.length = true := by
  cases o with
  | lst ds => obtain ⟨vs, e, r⟩ := h; exact r.isLow
  | dic ds => obtain ⟨vs, e, r⟩ := h; exact r.isLow
  | ldic ds => obtain ⟨x, vs, e, r⟩ := h; exact r.isLow
  | ins c ds => obtain ⟨x, vs, e, r⟩ := h; exact r.isLow
end
def Kept (S S2 : Sto) : Prop := S2.length = S.length ∧ ∀ (i : Nat) (o : Ob), S2[i]? = some o → S[i]? = some o ∨ o.low S.length = true
theorem Kept.refl (S : Sto) : Kept S S := ⟨rfl, fun _ _ h => .inl h⟩
theorem Kept.set {S S2 : Sto} (h0 : Kept S S2) (n : Nat) {o : Ob} (h : o.low S.length = true) : Kept S (S2.set n o) := by
  refine ⟨by simp [h0.1], fun i q e => ?_⟩
  by_cases hi : n = i
  · subst hi
    have hl : n < S2.length := by
      have := (List.getElem?_eq_some_iff.mp e).1
      simpa using this
    rw [List.getElem?_set_self hl] at e
    cases e
    exact .inr h
  · rw [List.getElem?_set_ne hi] at e
    exact h0.2 i q e
mutual
def Dv.rsv (r : Nat → Option Dv) : Dv → Option Dv
  | .ref k => r k
  | .tup ds => (Dv.rsvs r ds).map .tup
  | .ntp ds => (Dv.rsvs r ds).map .ntp
  | .fz ds => (Dv.rsvs r ds).map .fz
  | .obj c fs => (Dv.rsvf r fs).map (.obj c)
  | .dct fs => (Dv.rsvk r fs).map .dct
  | .non => some .non
  | .bl b => some (.bl b)
  | .int i => some (.int i)
  | .str x => some (.str x)
def Dv.rsvs (r : Nat → Option Dv) : List Dv → Option (List Dv)
  | [] => some []
  | d :: ds => match d.rsv r, Dv.rsvs r ds with
    | some p, some ps => some (p :: ps)
    | _, _ => none
def Dv.rsvf (r : Nat → Option Dv) : List (Str × Dv) → Option (List (Str × Dv))
  | [] => some []
  | (f, d) :: ds => match d.rsv r, Dv.rsvf r ds with
    | some p, some ps => some ((f, p) :: ps)
    | _, _ => none
def Dv.rsvk (r : Nat → Option Dv) : List (Key × Dv) → Option (List (Key × Dv))
  | [] => some []
  | (f, d) :: ds => match d.rsv r, Dv.rsvk r ds with
    | some p, some ps => some ((f, p) :: ps)
    | _, _ => none
end
def rsvR (n : Nat) (S : Sto) : Nat → Nat → Option Dv
  | 0, k => if k < n then some (.ref k) else none
  | f + 1, k => if k < n then some (.ref k) else match S[k]? with
    | some (.lst ds) => (Dv.rsvs (rsvR n S f) ds).map .fz
    | some (.ins c fs) => (Dv.rsvf (rsvR n S f) fs).map (.obj c)
    | _ => none
section
variable {K : PySem.W.Frag} {C : Nat → Addr} {H : Hp} {μ : Mu} {S : Sto} {n : Nat}
mutual
theorem rsv_of {r : Nat → Option Dv} (hr : ∀ k v d, r k = some d → VR K H μ (.ref k) v → VR K H (μ.cut n) d v) : ∀ {d d' : Dv} {v : V}, d.rsv r = some d' → VR K H μ d v → VR K H (μ.cut n) d' v
  | .non, _, _, e, h => by cases e; simpa [VR] using h
  | .bl b, _, _, e, h => by cases e; simpa [VR] using h
  | .int i, _, _, e, h => by cases e; simpa [VR] using h
  | .str x, _, _, e, h => by cases e; simpa [VR] using h
  | .tup ds, _, _, e, h => by
    simp only [Dv.rsv, Option.map_eq_some_iff] at e
    obtain ⟨ps, e1, rfl⟩ := e
    obtain ⟨a, vs, rfl, h1, h2⟩ := VR_tup.mp h
    exact VR_tup.mpr ⟨a, vs, rfl, h1, rsvs_of hr e1 h2⟩
  | .ntp ds, _, _, e, h => by
    simp only [Dv.rsv, Option.map_eq_some_iff] at e
    obtain ⟨ps, e1, rfl⟩ := e
    obtain ⟨a, vs, rfl, h1, h2⟩ := VR_ntp.mp h
    exact VR_ntp.mpr ⟨a, vs, rfl, h1, rsvs_of hr e1 h2⟩
  | .fz ds, _, _, e, h => by
    simp only [Dv.rsv, Option.map_eq_some_iff] at e
    obtain ⟨ps, e1, rfl⟩ := e
    obtain ⟨a, vs, rfl, h1, h2⟩ := VR_fz.mp h
    exact VR_fz.mpr ⟨a, vs, rfl, h1.cut, rsvs_of hr e1 h2⟩
  | .obj c fs, _, _, e, h => by
    simp only [Dv.rsv, Option.map_eq_some_iff] at e
    obtain ⟨ps, e1, rfl⟩ := e
    obtain ⟨x, dx, gs, rfl, h1, h2, h3⟩ := VR_obj.mp h
    exact VR_obj.mpr ⟨x, dx, gs, rfl, Mu.cut_out h1, h2, rsvf_of hr e1 h3⟩
  | .dct fs, _, _, e, h => by
    simp only [Dv.rsv, Option.map_eq_some_iff] at e
    obtain ⟨ps, e1, rfl⟩ := e
    obtain ⟨x, gs, rfl, h1, h2, h3⟩ := VR_dct.mp h
    exact VR_dct.mpr ⟨x, gs, rfl, Mu.cut_out h1, h2, rsvk_of hr e1 h3⟩
  | .ref k, _, _, e, h => hr _ _ _ e h
theorem rsvs_of {r : Nat → Option Dv} (hr : ∀ k v d, r k = some d → VR K H μ (.ref k) v → VR K H (μ.cut n) d v) : ∀ {ds ps : List Dv} {vs : List V}, Dv.rsvs r ds = some ps → VRs K H μ ds vs → VRs K H (μ.cut n) ps vs
  | [], _, _, e, h => by
    cases e
    rw [VRs_nil.mp h]
    exact VRs_nil.mpr rfl
  | d :: ds, _, _, e, h => by
    obtain ⟨v, t, rfl, h1, h2⟩ := VRs_cons.mp h
    simp only [Dv.rsvs] at e
    split at e
    · rename_i p ps e1 e2
      cases e
      exact VRs_cons.mpr ⟨v, t, rfl, rsv_of hr e1 h1, rsvs_of hr e2 h2⟩
    · cases e
theorem rsvf_of {r : Nat → Option Dv} (hr : ∀ k v d, r k = some d → VR K H μ (.ref k) v → VR K H (μ.cut n) d v) : ∀ {ds ps : List (Str × Dv)} {vs : List (Str × V)}, Dv.rsvf r ds = some ps → VRf K H μ ds vs → VRf K H (μ.cut n) ps vs
  | [], _, _, e, h => by
    cases e
    rw [VRf_nil.mp h]
    exact VRf_nil.mpr rfl
  | (f, d) :: ds, _, _, e, h => by
    obtain ⟨v, t, rfl, h1, h2⟩ := VRf_cons.mp h
    simp only [Dv.rsvf] at e
    split at e
    · rename_i p ps e1 e2
      cases e
      exact VRf_cons.mpr ⟨v, t, rfl, rsv_of hr e1 h1, rsvf_of hr e2 h2⟩
    · cases e
theorem rsvk_of {r : Nat → Option Dv} (hr : ∀ k v d, r k = some d → VR K H μ (.ref k) v → VR K H (μ.cut n) d v) : ∀ {ds ps : List (Key × Dv)} {vs : List (Key × V)}, Dv.rsvk r ds = some ps → VRk K H μ ds vs → VRk K H (μ.cut n) ps vs
  | [], _, _, e, h => by
    cases e
    rw [VRk_nil.mp h]
    exact VRk_nil.mpr rfl
  | (f, d) :: ds, _, _, e, h => by
    obtain ⟨v, t, rfl, h1, h2⟩ := VRk_cons.mp h
    simp only [Dv.rsvk] at e
    split at e
    · rename_i p ps e1 e2
      cases e
      exact VRk_cons.mpr ⟨v, t, rfl, rsv_of hr e1 h1, rsvk_of hr e2 h2⟩
    · cases e
end
theorem rsvR_ok (sr : SR K C μ S H) : ∀ (f k : Nat) (v : V) (d : Dv), rsvR n S f k = some d → VR K H μ (.ref k) v → VR K H (μ.cut n) d v := by
  have below : ∀ (k : Nat) (v : V), k < n → VR K H μ (.ref k) v → VR K H (μ.cut n) (.ref k) v := fun k v hk h => h.cut (by simp [Dv.low, hk])
  intro f
  induction f with
  | zero =>
    intro k v d e h
    simp only [rsvR] at e
    split at e
    · rename_i hk; cases e; exact below k v hk h
    · cases e
  | succ f ih =>
    intro k v d e h
    simp only [rsvR] at e
    split at e
    · rename_i hk; cases e; exact below k v hk h
    · rename_i hk
      obtain ⟨a, ha, rfl⟩ := VR_ref.mp h
      have out : (μ.cut n).out a := by
        refine ⟨fun hm => ?_, fun hm => ?_⟩
        · obtain ⟨i, ei⟩ := List.getElem?_of_mem (show a ∈ μ.tr.take n from hm)
          rw [List.getElem?_take] at ei
          split at ei
          · rename_i hi
            have := SR.put.nodup_ix' sr.nd ei ha
            omega
          · cases ei
        · exact sr.apart a hm (List.mem_of_getElem? ha)
      split at e
      · rename_i ds e1
        obtain ⟨ps, e2, rfl⟩ := Option.map_eq_some_iff.mp e
        obtain ⟨ho, e3, vs, rfl, r⟩ := sr.ob k _ a e1 ha
        exact VR_fz.mpr ⟨a, vs, rfl, .inr (.inr ⟨e3, out⟩), rsvs_of ih e2 r⟩
      · rename_i c fs e1
        obtain ⟨ps, e2, rfl⟩ := Option.map_eq_some_iff.mp e
        obtain ⟨ho, e3, dx, gs, rfl, r⟩ := sr.ob k _ a e1 ha
        exact VR_obj.mpr ⟨a, dx, gs, rfl, out, e3, rsvf_of ih e2 (VRf_KRs.mpr r)⟩
      · cases e
end
open Classical in
noncomputable def tidy (S : Sto) : Res Dv → Res Dv
  | .ok d S' => if Kept S (S'.take S.length) then (match d.rsv (rsvR S.length S' 6) with
    | some d' => .ok d' (S'.take S.length)
    | none => .ok d S') else .ok d S'
  | .exn c S' => if Kept S (S'.take S.length) then .exn c (S'.take S.length) else .exn c S'
  | .stuck => .stuck
section
variable {P : Program} {w : World} {K : PySem.W.Frag} {mg : Str → Option Value} {base : Heap} {C : Nat → Addr} {x : Str} {n k : Nat} {den den' : Den}
theorem SR.cut {μ μ' : Mu} {S S' : Sto} {H H' : Hp} (s0 : SR K C μ S H) (a : Aft K μ H μ' H') (s : SR K C μ' S' H') (kp : Kept S (S'.take S.length)) : SR K C μ (S'.take S.length) H' := by
  obtain ⟨ν, e1, _⟩ := a.aw.pre
  have hl : μ.tr.length = (S'.take S.length).length := s0.len.trans kp.1.symm
  have hc : μ'.cut S.length = μ := by
    cases μ
    simp only [Mu.cut, e1, a.hid]
    rw [List.take_left' s0.len]
  refine ⟨hl, s0.nd, fun x hx => a.aw.there x (s0.hids x hx), s0.apart, fun i o ad h1 h2 => ?_⟩
  have hi : i < S.length := by
    have := (List.getElem?_eq_some_iff.mp h1).1
    rw [kp.1] at this
    exact this
  obtain ⟨ho, e, r⟩ := s.ob i o ad (by rw [List.getElem?_take_of_lt hi] at h1; exact h1) (by rw [e1, List.getElem?_append_left (by rw [s0.len]; exact hi)]; exact h2)
  refine ⟨ho, e, ?_⟩
  have hb : o.low S.length = true := by
    rcases kp.2 i o h1 with z | z
    · obtain ⟨ho0, _, r0⟩ := s0.ob i o ad z h2
      rw [← s0.len]
      exact r0.isLow
    · exact z
  have := r.cut (n := S.length) hb
  rwa [hc] at this
theorem Aft.cut {μ μ' : Mu} {H H' : Hp} (a : Aft K μ H μ' H') : Aft K μ H μ H' :=
  ⟨⟨⟨[], by simp, by simp⟩, fun _ _ h _ => h, a.aw.keep, a.aw.there, a.aw.tup, a.aw.frz⟩, rfl, a.all⟩
theorem tidy_go {S : Sto} {r : Res Dv} {μ : Mu} {H : Hp} {W : WX} {σ : L2.St} {Q : VK} (s0 : SR K C μ S H) (q : tR K C W (PV K) (tidy S r) μ σ H Q) : tR K C W (PV K) r μ σ H Q := by
  cases r with
  | stuck => exact q
  | exn c S' =>
    simp only [tidy] at q
    split at q
    · rename_i hk
      intro μ' H' a s
      exact q μ H' a.cut (s0.cut a s hk)
    · exact q
  | ok d S' =>
    simp only [tidy] at q
    split at q
    · rename_i hk
      split at q
      · rename_i d' e
        intro μ' H' v a s vr
        have hc : μ'.cut S.length = μ := by
          obtain ⟨ν, e1, _⟩ := a.aw.pre
          cases μ
          simp only [Mu.cut, e1, a.hid]
          rw [List.take_left' s0.len]
        have vr' := rsv_of (n := S.length) (rsvR_ok s 6) e vr
        rw [hc] at vr'
        exact q μ H' v a.cut (s0.cut a s hk) vr'
      · exact q
    · exact q
noncomputable def runF (n : Nat) (body : DS) : Den := fun args S => tidy S (runB n body args S)
theorem Df.imp (F : Df P w K mg base C x n k den) (h : ∀ μ S ds (H : Hp) (W : WX) (Q : VK), SR K C μ S H → tR K C W (PV K) (den' ds S) μ [] H Q → tR K C W (PV K) (den ds S) μ [] H Q) : Df P w K mg base C x n k den' := by
  obtain ⟨f, fd, ps, h1, h2, h3, h4, h5⟩ := F.ex
  refine ⟨f, fd, ps, h1, h2, h3, h4, ⟨fun A outer s H args us vs Q E hr hg he hb hv hs => h5.run A outer s H args us vs Q E hr hg he hb hv ?_⟩⟩
  obtain ⟨hl, μ, S, ds, sr, vr, q⟩ := hs
  exact ⟨hl, μ, S, ds, sr, vr, h μ S ds H _ Q sr q⟩
theorem Df.tidy {m : Nat} {body : DS} (F : Df P w K mg base C x n k (runB m body)) : Df P w K mg base C x n k (runF m body) :=
  F.imp fun _ _ _ _ _ _ sr q => tidy_go sr q
end
mutual
def Dv.plain : Dv → Bool
  | .tup ds => Dv.plains ds
  | .ntp ds => Dv.plains ds
  | .fz ds => Dv.plains ds
  | .ref _ => false
  | .obj _ fs => Dv.plainf fs
  | .dct fs => Dv.plaink fs
  | _ => true
def Dv.plains : List Dv → Bool
  | [] => true
  | d :: ds => d.plain && Dv.plains ds
def Dv.plainf : List (Str × Dv) → Bool
  | [] => true
  | (_, d) :: ds => d.plain && Dv.plainf ds
def Dv.plaink : List (Key × Dv) → Bool
  | [] => true
  | (_, d) :: ds => d.plain && Dv.plaink ds
end
mutual
theorem plain_rsv (r : Nat → Option Dv) : ∀ (d : Dv), d.plain = true → d.rsv r = some d
  | .non, _ => rfl
  | .bl _, _ => rfl
  | .int _, _ => rfl
  | .str _, _ => rfl
  | .tup ds, h => by rw [Dv.rsv, plains_rsv r ds (by simpa [Dv.plain] using h)]; rfl
  | .ntp ds, h => by rw [Dv.rsv, plains_rsv r ds (by simpa [Dv.plain] using h)]; rfl
  | .fz ds, h => by rw [Dv.rsv, plains_rsv r ds (by simpa [Dv.plain] using h)]; rfl
  | .obj c fs, h => by rw [Dv.rsv, plainf_rsv r fs (by simpa [Dv.plain] using h)]; rfl
  | .dct fs, h => by rw [Dv.rsv, plaink_rsv r fs (by simpa [Dv.plain] using h)]; rfl
  | .ref _, h => by simp [Dv.plain] at h
theorem plains_rsv (r : Nat → Option Dv) : ∀ (ds : List Dv), Dv.plains ds = true → Dv.rsvs r ds = some ds
  | [], _ => rfl
  | d :: ds, h => by
    simp only [Dv.plains, Bool.and_eq_true] at h
    simp only [Dv.rsvs, plain_rsv r d h.1, plains_rsv r ds h.2]
theorem plainf_rsv (r : Nat → Option Dv) : ∀ (ds : List (Str × Dv)), Dv.plainf ds = true → Dv.rsvf r ds = some ds
  | [], _ => rfl
  | (f, d) :: ds, h => by
    simp only [Dv.plainf, Bool.and_eq_true] at h
    simp only [Dv.rsvf, plain_rsv r d h.1, plainf_rsv r ds h.2]
theorem plaink_rsv (r : Nat → Option Dv) : ∀ (ds : List (Key × Dv)), Dv.plaink ds = true → Dv.rsvk r ds = some ds
  | [], _ => rfl
  | (f, d) :: ds, h => by
    simp only [Dv.plaink, Bool.and_eq_true] at h
    simp only [Dv.rsvk, plain_rsv r d h.1, plaink_rsv r ds h.2]
end
theorem plains_all (ds : List Dv) : Dv.plains ds = ds.all Dv.plain := by
  induction ds with
  | nil => rfl
  | cons d ds ih => simp [Dv.plains, ih]
section
variable {S S2 G : Sto} {d : Dv} {ds : List Dv} {c n : Nat}
theorem tidy_ok (h : d.plain = true) (S G : Sto) : tidy S (.ok d (S ++ G)) = .ok d S := by
  simp only [tidy]
  rw [List.take_left' rfl, if_pos (Kept.refl S), plain_rsv _ d h]
theorem tidy_upd (h : d.plain = true) (k : Kept S S2) (G : Sto) : tidy S (.ok d (S2 ++ G)) = .ok d S2 := by
  simp only [tidy]
  rw [List.take_left' k.1, if_pos k, plain_rsv _ d h]
theorem tidy_exn (S G : Sto) : tidy S (.exn c (S ++ G)) = .exn c S := by
  simp only [tidy]
  rw [List.take_left' rfl, if_pos (Kept.refl S)]
theorem tidy_lst (h : Dv.plains ds = true) (S : Sto) {G : Sto} {j : Nat} (hj : G[j]? = some (.lst ds)) : tidy S (.ok (.ref (S.length + j)) (S ++ G)) = .ok (.fz ds) S := by
  have e : (S ++ G)[S.length + j]? = some (.lst ds) := by
    rw [List.getElem?_append_right (Nat.le_add_right _ _), Nat.add_sub_cancel_left]
    exact hj
  have hn : ¬ (S.length + j < S.length) := by omega
  simp only [tidy]
  rw [List.take_left' rfl, if_pos (Kept.refl S)]
  simp only [Dv.rsv, rsvR, if_neg hn, e, plains_rsv _ ds h, Option.map_some]
end
end Fc
set_option exponentiation.threshold 256
set_option maxHeartbeats 4000000
set_option maxHeartbeats 4000000
namespace L2
open PySem PySem.Spec PyProof.Rows
theorem tuple_mul1 (l : Addr) (items : Array Value) (n : Nat) (dd : Option Addr) (sl : Array (Option Value)) (u : Tok) :
    Meets (Builtin.«tuple.__mul__» ⟨[.ref l, .int 1 u], []⟩) (fun _ R s => s.heap.get? l = some { cls := .type "tuple", dict := dd, data := .seq items n, slots := sl } ∧ R (.ok (.ret (Value.ref l))) s) :=
  .of_wp fun prog w A R s h => by
    obtain ⟨hp, g, d, tk, os⟩ := s
    obtain ⟨hl, h⟩ := h
    have f1 := AutoSeq1.idx_int
    have c1 : (items.isEmpty || ((1 : Int) == 1)) = true := by simp
    wp_walk using wpAny_loadPart' hl
    repeat (first
      | (refine wpAny_ite_false (by decide) ?_; wp_walk using wpAny_loadPart' hl)
      | (refine wpAny_ite_true (by simpa using c1) ?_; wp_walk using wpAny_loadPart' hl)
      | (refine wpAny_ite_true (by decide) ?_; wp_walk using wpAny_loadPart' hl))
    exact ⟨_, rfl, h⟩
theorem op_repT1 {X : Cx} : OpR X (binaryOp .Mult) fun x y H Q => ∃ l xs, x = .ref l ∧ y = .int 1 ∧ SqT X.K H l xs ∧ Q (.ref l) H := by
  intro pins s σ H x y v u Q I rx ry h
  obtain ⟨l, xs, rfl, rfl, hT, q⟩ := h
  cases rx
  obtain ⟨t, rfl⟩ := ry
  obtain ⟨its, r, ⟨⟨cls, dd, data, sl⟩, ho, hc, n, hd⟩, hs⟩ := I.tuple hT
  simp only at hc hd
  subst hc hd
  exact wpAny_binaryOp_repeat_ref (T := "tuple") (U := "int") (by decide) ⟨_, ho, rfl⟩ (fun s' => typeIs_int s' 1 t) noFill_tuple_mul F.fills_int_mul F.slot_int_rmul repeat_tuple F.slot_int_index.lookup
    (call_meets F.slot_int_rmul (typeIs_int s 1 t) F.entry_int_rmul (F.args_int_rmul_2 _ _) (int_rmul_tuple 1 t l its.toArray n dd sl)
      ⟨ho, rfl, ⟨_, ho, rfl⟩, call_meets F.slot_tuple_mul ⟨_, ho, rfl⟩ F.entry_tuple_mul (F.args_tuple_mul_2 _ _) (tuple_mul1 l its.toArray n dd sl t) ⟨ho, .ref l, _, I, rfl, q⟩⟩)
end L2
namespace Fc
open PySem L2
mutual
def Dv.pyW (r : Nat → Option PyData) : Dv → Option PyData
  | .non => some .none
  | .bl b => some (.bool b)
  | .int i => some (.int i)
  | .str x => some (.str x)
  | .tup ds => (Dv.pysW r ds).map .tuple
  | .ntp ds => (Dv.pysW r ds).map .tuple
  | .fz ds => (Dv.pysW r ds).map .list
  | .ref n => r n
  | .obj _ _ => none
  | .dct _ => none
def Dv.pysW (r : Nat → Option PyData) : List Dv → Option (List PyData)
  | [] => some []
  | d :: ds => match d.pyW r, Dv.pysW r ds with
    | some p, some ps => some (p :: ps)
    | _, _ => none
end
def pyRef (S : Sto) : Nat → Nat → Option PyData
  | 0, _ => none
  | f + 1, n => match S[n]? with
    | some (.lst ds) => (Dv.pysW (pyRef S f) ds).map .list
    | _ => none
def Dv.py (S : Sto) (d : Dv) : Option PyData := d.pyW (pyRef S 8)
section
variable {K : PySem.W.Frag} {C : Nat → Addr} {H : Hp} {μ : Mu} {S : Sto}
mutual
theorem dp_of {r : Nat → Option PyData} (hr : ∀ n v p, r n = some p → VR K H μ (.ref n) v → Dp K H v p) : ∀ {d : Dv} {v : V} {p : PyData}, d.pyW r = some p → VR K H μ d v → Dp K H v p
  | .non, _, _, e, h => by
    cases e
    rw [VR_non.mp h]
    exact .non
  | .bl b, _, _, e, h => by
    cases e
    rw [VR_bl.mp h]
    exact .bl b
  | .int i, _, _, e, h => by
    cases e
    rw [VR_int.mp h]
    exact .int i
  | .str x, _, _, e, h => by
    cases e
    rw [VR_str.mp h]
    exact .str x
  | .tup ds, _, _, e, h => by
    simp only [Dv.pyW, Option.map_eq_some_iff] at e
    obtain ⟨ps, e1, rfl⟩ := e
    obtain ⟨a, vs, rfl, h1, h2⟩ := VR_tup.mp h
    exact .tup h1 (dps_of hr e1 h2)
  | .ntp ds, _, _, e, h => by
    simp only [Dv.pyW, Option.map_eq_some_iff] at e
    obtain ⟨ps, e1, rfl⟩ := e
    obtain ⟨a, vs, rfl, ⟨o, _, h1⟩, h2⟩ := VR_ntp.mp h
    exact .tup (.inl (.inr ⟨o, h1⟩)) (dps_of hr e1 h2)
  | .fz ds, _, _, e, h => by
    simp only [Dv.pyW, Option.map_eq_some_iff] at e
    obtain ⟨ps, e1, rfl⟩ := e
    obtain ⟨a, vs, rfl, h1, h2⟩ := VR_fz.mp h
    exact .lst h1.seq (dps_of hr e1 h2)
  | .ref n, _, _, e, h => hr _ _ _ e h
  | .obj _ _, _, _, e, _ => by cases e
  | .dct _, _, _, e, _ => by cases e
theorem dps_of {r : Nat → Option PyData} (hr : ∀ n v p, r n = some p → VR K H μ (.ref n) v → Dp K H v p) : ∀ {ds : List Dv} {vs : List V} {ps : List PyData}, Dv.pysW r ds = some ps → VRs K H μ ds vs → DpAll K H vs ps
  | [], _, _, e, h => by
    cases e
    rw [VRs_nil.mp h]
    exact .nil
  | d :: ds, _, _, e, h => by
    obtain ⟨v, t, rfl, h1, h2⟩ := VRs_cons.mp h
    simp only [Dv.pysW] at e
    split at e
    · rename_i p ps e1 e2
      cases e
      exact .cons (dp_of hr e1 h1) (dps_of hr e2 h2)
    · cases e
end
theorem pyRef_dp (sr : SR K C μ S H) : ∀ (f n : Nat) (v : V) (p : PyData), pyRef S f n = some p → VR K H μ (.ref n) v → Dp K H v p
  | 0, _, _, _, e, _ => by simp [pyRef] at e
  | f + 1, n, v, p, e, h => by
    simp only [pyRef] at e
    split at e
    · rename_i ds e1
      obtain ⟨ps, e2, rfl⟩ := Option.map_eq_some_iff.mp e
      obtain ⟨a, ha, rfl⟩ := VR_ref.mp h
      obtain ⟨ho, e3, vs, rfl, r⟩ := sr.ob n _ a e1 ha
      exact .lst (SqL.of e3) (dps_of (pyRef_dp sr f) e2 r)
    · cases e
theorem py_dp (sr : SR K C μ S H) {d : Dv} {v : V} {p : PyData} (e : d.py S = some p) (h : VR K H μ d v) : Dp K H v p := dp_of (pyRef_dp sr 8) e h
def listOf (S : Sto) : Dv → Option (List Dv)
  | .fz ds => some ds
  | .ref n => match S[n]? with
    | some (.lst ds) => some ds
    | _ => none
  | _ => none
theorem listOf_sq (sr : SR K C μ S H) {d : Dv} {v : V} {ds : List Dv} (e : listOf S d = some ds) (h : VR K H μ d v) : ∃ a vs, v = .ref a ∧ SqL K H a vs ∧ VRs K H μ ds vs := by
  cases d with
  | fz es =>
    cases e
    obtain ⟨a, vs, rfl, h1, h2⟩ := VR_fz.mp h
    exact ⟨a, vs, rfl, h1.seq, h2⟩
  | ref n =>
    simp only [listOf] at e
    split at e
    · rename_i es e1
      cases e
      obtain ⟨a, ha, rfl⟩ := VR_ref.mp h
      obtain ⟨ho, e3, vs, rfl, r⟩ := sr.ob n _ a e1 ha
      exact ⟨a, vs, rfl, SqL.of e3, r⟩
    · cases e
  | _ => cases e
theorem lst_at (sr : SR K C μ S H) {n : Nat} {ds : List Dv} {v : V} (e : S[n]? = some (.lst ds)) (h : VR K H μ (.ref n) v) : ∃ a vs, v = .ref a ∧ μ.tr[n]? = some a ∧ H a = some (.lst vs) ∧ VRs K H μ ds vs := by
  obtain ⟨a, ha, rfl⟩ := VR_ref.mp h
  obtain ⟨ho, e3, vs, rfl, r⟩ := sr.ob n _ a e ha
  exact ⟨a, vs, rfl, ha, e3, r⟩
theorem new_tup {ds : List Dv} {vs : List V} {σ : L2.St} {Q : VK} {W : WX} (s1 : SR K C μ S H) (vr : VRs K H μ ds vs) (q1 : tR K C W (PV K) (.ok (.tup ds) S) μ σ H Q) (p : Addr) (hp : H p = none) : Q (.ref p) (L2.upd H p (.tup vs)) := by
  have af : Aft K μ H μ (L2.upd H p (.tup vs)) := Aft.new hp
  exact q1 μ _ _ af (s1.lay hp) (VR_tup.mpr ⟨p, vs, rfl, SqT.of upd_same, vr.mono af⟩)
theorem old_val {d : Dv} {v : V} {σ : L2.St} {Q : VK} {W : WX} (s1 : SR K C μ S H) (vr : VR K H μ d v) (q1 : tR K C W (PV K) (.ok d S) μ σ H Q) : Q v H := q1 μ H v Aft.refl s1 vr
end
theorem lim_eq : lim = 100000 := rfl
def mulOk (i j : Int) : Bool := decide (i.natAbs.log2 + j.natAbs.log2 < 100000000)
def divOk (j : Int) : Bool := decide (0 < j) && decide (j.natAbs.log2 < 9000)
def opAdd (m : Bool) : Op2 := fun x y S => match x, y with
  | .int i, .int j => some (.int (i + j), S)
  | .tup ds, .tup es => if ds.length + es.length ≤ lim then some (.tup (ds ++ es), S) else none
  | .str a, .str b => if a.length + b.length ≤ lim then some (.str (a ++ b), S) else none
  | _, _ => match listOf S x, listOf S y with
    | some ds, some es => if ds.length + es.length ≤ lim then some (mk m (ds ++ es) S) else none
    | _, _ => none
theorem op_catL {X : Cx} : OpR X (binaryOp .Add) fun x y H Q => ∃ a b xs zs, x = .ref a ∧ y = .ref b ∧ SqL X.K H a xs ∧ SqL X.K H b zs ∧ xs.length + zs.length ≤ sizeLine ∧ ∀ p, H p = none → Q (.ref p) (L2.upd H p (.lst (xs ++ zs))) := by
  intro pins s σ H x y v u Q I rx ry h
  obtain ⟨l, b, xs, zs, rfl, rfl, hH, hB, hz, q⟩ := h
  cases rx
  cases ry
  obtain ⟨its, r, ⟨⟨cls, dd, data, sl⟩, n, e, hc, hd, hs⟩, hl⟩ := I.list hH
  obtain ⟨its2, r2, ⟨⟨cls2, dd2, data2, sl2⟩, n2, e2, hc2, hd2, hs2⟩, hl2⟩ := I.list hB
  simp only at hc hd hs hc2 hd2 hs2
  subst hc hd hs hc2 hd2 hs2
  have hlen := r.length
  have hlen2 := r2.length
  have ea : its.toArray ++ its2.toArray = (its ++ its2).toArray := by simp
  refine PySem.concat_meets ⟨_, e, rfl⟩ ⟨_, e2, rfl⟩ PySem.noFill_list_add PySem.seq_list_add PySem.F.slot_list_add PySem.F.entry_list_add (PySem.F.args_list_add_2 _ _) (PyProof.Rows.list_addW l b its.toArray its2.toArray n n2 none none sl sl2 (by rw [List.size_toArray, List.size_toArray]; omega)) ⟨e, e2, ?_⟩
  rw [ea]
  exact ⟨.ref _, _, I.lnew (t' := s.toks) (r.append r2) (by rw [List.length_append]; omega), rfl, q _ I.fresh⟩
theorem add_lists {x y : Dv} {m : Bool} {S : Sto} (h : ∀ i j, ¬ (x = .int i ∧ y = .int j)) (h2 : ∀ i j, ¬ (x = .tup i ∧ y = .tup j)) (h3 : ∀ i j, ¬ (x = .str i ∧ y = .str j)) : opAdd m x y S = match listOf S x, listOf S y with
    | some ds, some es => if ds.length + es.length ≤ lim then some (mk m (ds ++ es) S) else none
    | _, _ => none := by
  unfold opAdd
  split
  · exact absurd ⟨rfl, rfl⟩ (h _ _)
  · exact absurd ⟨rfl, rfl⟩ (h2 _ _)
  · exact absurd ⟨rfl, rfl⟩ (h3 _ _)
  · rfl
def opSub : Op2 := fun x y S => match x, y with
  | .int i, .int j => some (.int (i - j), S)
  | _, _ => none
def opMul (m : Bool) : Op2 := fun x y S => match x, y with
  | .int i, .int j => if mulOk i j then some (.int (i * j), S) else none
  | .ref n, .int k => match S[n]? with
    | some (.lst ds) => if decide (-1000 ≤ k) && decide (k ≤ 1000000) && decide (ds.length * k.toNat ≤ lim) then some (mk m (List.replicate k.toNat ds).flatten S) else none
    | _ => none
  | .tup ds, .int k => if decide (ds ≠ []) && decide (1 ≤ k) && decide (k ≤ 1000) && decide (ds.length ≤ 1000) then some (.tup (List.replicate k.toNat ds).flatten, S) else none
  | _, _ => none
def eRep (m : Bool) (l : DL) (fb : DE) : DE := fun ρ S => (l ρ S).bd fun ds S1 => if ds.length ≤ lim then (fb ρ S1).bd fun y S2 => match y with
    | .int k => if decide (-1000 ≤ k) && decide (k ≤ 1000000) && decide (ds.length * k.toNat ≤ lim) then .ok (mk m (List.replicate k.toNat ds).flatten S2).1 (mk m (List.replicate k.toNat ds).flatten S2).2 else .stuck
    | _ => .stuck else .stuck
def opDiv : Op2 := fun x y S => match x, y with
  | .int i, .int j => if divOk j then some (.int (i / j), S) else none
  | _, _ => none
def opMod : Op2 := fun x y S => match x, y with
  | .int i, .int j => if 0 < j then some (.int (i % j), S) else none
  | _, _ => none
def opPow : Op2 := fun x y S => match x, y with
  | .int i, .int j => if decide (0 ≤ j) && decide (j ≤ 1000000) && decide (i.natAbs < 2 ^ 64) then some (.int (i ^ j.toNat), S) else none
  | _, _ => none
section
variable {X : Cx} {C : Nat → Addr}
theorem ops_add (m : Bool) : OpS X C (binaryOp .Add) (opAdd m) := by
  intro pins s σ H x y v u Q I rx ry h
  obtain ⟨μ, S, dx, dy, sr, vx, vy, q⟩ := h
  have lists : (∀ i j, ¬ (dx = .int i ∧ dy = .int j)) → (∀ i j, ¬ (dx = .tup i ∧ dy = .tup j)) → (∀ i j, ¬ (dx = .str i ∧ dy = .str j)) → wpAny (model X.prog X.w) X.A (binaryOp .Add v u) (EP X pins σ Q) X.xe s := fun n1 n2 n3 => by
    rw [add_lists n1 n2 n3] at q
    cases e1 : listOf S dx with
    | none => rw [e1] at q; exact q.elim
    | some ds =>
      cases e2 : listOf S dy with
      | none => rw [e1, e2] at q; exact q.elim
      | some es =>
        rw [e1, e2] at q
        obtain ⟨a, vs, rfl, h1, h2⟩ := listOf_sq sr e1 vx
        obtain ⟨b, ws, rfl, h3, h4⟩ := listOf_sq sr e2 vy
        by_cases hl : ds.length + es.length ≤ lim
        · simp only [if_pos hl, ofO] at q
          exact op_catL pins s σ H _ _ v u Q I rx ry ⟨a, b, vs, ws, rfl, rfl, h1, h3, by rw [← h2.length, ← h4.length]; exact Nat.le_trans hl lim_line, new_mk sr (h2.append h4) q⟩
        · simp only [if_neg hl, ofO] at q
          exact q.elim
  cases dx with
  | int i =>
    cases dy with
    | int j =>
      cases VR_int.mp vx
      cases VR_int.mp vy
      exact op_add pins s σ H _ _ v u Q I rx ry ⟨i, j, rfl, rfl, old_val sr (VR_int.mpr rfl) q⟩
    | _ => exact lists (by simp) (by simp) (by simp)
  | tup ds =>
    cases dy with
    | tup es =>
      obtain ⟨a, vs, rfl, h1, h2⟩ := VR_tup.mp vx
      obtain ⟨b, ws, rfl, h3, h4⟩ := VR_tup.mp vy
      by_cases hl : ds.length + es.length ≤ lim
      · simp only [opAdd, if_pos hl, ofO] at q
        refine op_catA pins s σ H _ _ v u Q I rx ry ⟨a, b, vs, ws, rfl, rfl, h1, h3, by rw [← h2.length, ← h4.length]; exact Nat.le_trans hl lim_line, fun e => ?_, fun e1 e2 => ?_, fun e1 e2 p hp => ?_⟩
        · subst e
          have e : ds = [] := List.eq_nil_of_length_eq_zero (by rw [h2.length]; rfl)
          subst e
          exact old_val sr vy q
        · subst e2
          have e : es = [] := List.eq_nil_of_length_eq_zero (by rw [h4.length]; rfl)
          subst e
          rw [List.append_nil] at q
          exact old_val sr vx q
        · exact new_tup sr (h2.append h4) q p hp
      · simp only [opAdd, if_neg hl, ofO] at q
        exact q.elim
    | _ => exact lists (by simp) (by simp) (by simp)
  | str a =>
    cases dy with
    | str b =>
      cases VR_str.mp vx
      cases VR_str.mp vy
      by_cases hl : a.length + b.length ≤ lim
      · simp only [opAdd, if_pos hl, ofO] at q
        exact op_add_str pins s σ H _ _ v u Q I rx ry ⟨a, b, rfl, rfl, Nat.le_trans hl lim_line, old_val sr (VR_str.mpr rfl) q⟩
      · simp only [opAdd, if_neg hl, ofO] at q
        exact q.elim
    | _ => exact lists (by simp) (by simp) (by simp)
  | _ => exact lists (by simp) (by simp) (by simp)
theorem ops_sub : OpS X C (binaryOp .Sub) opSub := by
  intro pins s σ H x y v u Q I rx ry h
  obtain ⟨μ, S, dx, dy, sr, vx, vy, q⟩ := h
  cases dx with
  | int i =>
    cases dy with
    | int j =>
      cases VR_int.mp vx
      cases VR_int.mp vy
      exact op_sub pins s σ H _ _ v u Q I rx ry ⟨i, j, rfl, rfl, old_val sr (VR_int.mpr rfl) q⟩
    | _ => exact q.elim
  | _ => exact q.elim
theorem mulOk_fit {i j : Int} (h : mulOk i j = true) : PySem.IntMulOk i j := by
  have b : ∀ x : Int, Builtin.Int.intBits x ≤ x.natAbs.log2 + 1 := fun x => by
    unfold Builtin.Int.intBits
    split <;> omega
  have h1 := b i
  have h2 := b j
  have h3 : i.natAbs.log2 + j.natAbs.log2 < 100000000 := by simpa [mulOk] using h
  have e : bitsLine = 134217728 := by decide
  unfold PySem.IntMulOk
  intro z
  rw [Bool.and_eq_true] at z
  have z2 := z.2
  unfold Builtin.Int.intTooBig at z2
  have z3 := of_decide_eq_true z2
  rw [e] at z3
  omega
theorem op_mulX : OpR X (binaryOp .Mult) (rI (fun i j => mulOk i j = true) fun i j => .int (i * j)) := opI fun _ _ _ _ _ _ _ hc q => PyProof.Rows.mul_int q (mulOk_fit hc)
theorem ops_mul (m : Bool) : OpS X C (binaryOp .Mult) (opMul m) := by
  intro pins s σ H x y v u Q I rx ry h
  obtain ⟨μ, S, dx, dy, sr, vx, vy, q⟩ := h
  cases dx with
  | int i =>
    cases dy with
    | int j =>
      cases VR_int.mp vx
      cases VR_int.mp vy
      by_cases hl : mulOk i j = true
      · simp only [opMul, if_pos hl, ofO] at q
        exact op_mulX pins s σ H _ _ v u Q I rx ry ⟨i, j, rfl, rfl, hl, old_val sr (VR_int.mpr rfl) q⟩
      · simp only [opMul, if_neg hl, ofO] at q
        exact q.elim
    | _ => exact q.elim
  | ref n =>
    cases dy with
    | int k =>
      cases VR_int.mp vy
      simp only [opMul] at q
      split at q
      · rename_i ds e1
        obtain ⟨a, vs, rfl, ha, h1, h2⟩ := lst_at sr e1 vx
        by_cases hl : (decide (-1000 ≤ k) && decide (k ≤ 1000000) && decide (ds.length * k.toNat ≤ lim)) = true
        · rw [if_pos hl] at q
          simp only [Bool.and_eq_true, decide_eq_true_eq] at hl
          simp only [ofO] at q
          exact op_rep pins s σ H _ _ v u Q I rx ry ⟨a, k, vs, rfl, rfl, h1, by omega, by omega, by rw [← h2.length]; exact Nat.le_trans hl.2 lim_line, new_mk sr (h2.rep _) q⟩
        · rw [if_neg hl] at q
          exact q.elim
      · exact q.elim
    | _ => exact q.elim
  | tup ds =>
    cases dy with
    | int k =>
      cases VR_int.mp vy
      obtain ⟨a, vs, rfl, h1, h2⟩ := VR_tup.mp vx
      by_cases hl : (decide (ds ≠ []) && decide (1 ≤ k) && decide (k ≤ 1000) && decide (ds.length ≤ 1000)) = true
      · simp only [opMul] at q
        rw [if_pos hl] at q
        simp only [Bool.and_eq_true, decide_eq_true_eq] at hl
        simp only [ofO] at q
        by_cases hk : k = 1
        · subst hk
          have e : (List.replicate (1 : Int).toNat ds).flatten = ds := by
            rw [show (1 : Int).toNat = 1 from rfl]
            simp
          rw [e] at q
          exact op_repT1 pins s σ H _ _ v u Q I rx ry ⟨a, vs, rfl, rfl, h1, old_val sr (VR_tup.mpr ⟨a, vs, rfl, h1, h2⟩) q⟩
        · refine op_repT pins s σ H _ _ v u Q I rx ry ⟨a, k, vs, rfl, rfl, h1, fun e => hl.1.1.1 (List.eq_nil_of_length_eq_zero (by rw [h2.length, e]; rfl)), by omega, hl.1.2, by rw [← h2.length]; exact hl.2, new_tup sr (h2.rep _) q⟩
      · simp only [opMul] at q
        rw [if_neg hl] at q
        exact q.elim
    | _ => exact q.elim
  | _ => exact q.elim
theorem ops_div : OpS X C (binaryOp .FloorDiv) opDiv := by
  intro pins s σ H x y v u Q I rx ry h
  obtain ⟨μ, S, dx, dy, sr, vx, vy, q⟩ := h
  cases dx with
  | int i =>
    cases dy with
    | int j =>
      cases VR_int.mp vx
      cases VR_int.mp vy
      by_cases hl : divOk j = true
      · simp only [opDiv, if_pos hl, ofO] at q
        simp only [divOk, Bool.and_eq_true, decide_eq_true_eq] at hl
        exact op_fdivW pins s σ H _ _ v u Q I rx ry ⟨i, j, rfl, rfl, hl, old_val sr (VR_int.mpr rfl) q⟩
      · simp only [opDiv, if_neg hl, ofO] at q
        exact q.elim
    | _ => exact q.elim
  | _ => exact q.elim
theorem ops_mod : OpS X C (binaryOp .Mod) opMod := by
  intro pins s σ H x y v u Q I rx ry h
  obtain ⟨μ, S, dx, dy, sr, vx, vy, q⟩ := h
  cases dx with
  | int i =>
    cases dy with
    | int j =>
      cases VR_int.mp vx
      cases VR_int.mp vy
      by_cases hl : 0 < j
      · simp only [opMod, if_pos hl, ofO] at q
        exact op_mod pins s σ H _ _ v u Q I rx ry ⟨i, j, rfl, rfl, hl, old_val sr (VR_int.mpr rfl) q⟩
      · simp only [opMod, if_neg hl, ofO] at q
        exact q.elim
    | _ => exact q.elim
  | _ => exact q.elim
theorem ops_pow : OpS X C (binaryOp .Pow) opPow := by
  intro pins s σ H x y v u Q I rx ry h
  obtain ⟨μ, S, dx, dy, sr, vx, vy, q⟩ := h
  cases dx with
  | int i =>
    cases dy with
    | int j =>
      cases VR_int.mp vx
      cases VR_int.mp vy
      by_cases hl : (decide (0 ≤ j) && decide (j ≤ 1000000) && decide (i.natAbs < 2 ^ 64)) = true
      · simp only [opPow] at q
        rw [if_pos hl] at q
        simp only [Bool.and_eq_true, decide_eq_true_eq] at hl
        exact op_pow pins s σ H _ _ v u Q I rx ry ⟨i, j, rfl, rfl, ⟨hl.1.1, hl.1.2, hl.2⟩, old_val sr (VR_int.mpr rfl) q⟩
      · simp only [opPow] at q
        rw [if_neg hl] at q
        exact q.elim
    | _ => exact q.elim
  | _ => exact q.elim
def opInt (p : Int → Int → Bool) : Op2 := fun x y S => match x, y with
  | .int i, .int j => some (.bl (p i j), S)
  | _, _ => none
theorem ops_int {F : Value → Value → Sem Value} {p : Int → Int → Bool} (h : OpR X F (rI0 fun i j => .bl (p i j))) : OpS X C F (opInt p) := by
  intro pins s σ H x y v u Q I rx ry hh
  obtain ⟨μ, S, dx, dy, sr, vx, vy, q⟩ := hh
  cases dx with
  | int i =>
    cases dy with
    | int j =>
      cases VR_int.mp vx
      cases VR_int.mp vy
      exact h pins s σ H _ _ v u Q I rx ry ⟨i, j, rfl, rfl, old_val sr (VR_bl.mpr rfl) q⟩
    | _ => exact q.elim
  | _ => exact q.elim
abbrev opLt : Op2 := opInt fun i j => decide (i < j)
abbrev opLe : Op2 := opInt fun i j => decide (i ≤ j)
abbrev opGt : Op2 := opInt fun i j => decide (j < i)
abbrev opGe : Op2 := opInt fun i j => decide (j ≤ i)
theorem ops_lt : OpS X C (compareOp .Lt) opLt := ops_int op_lt
theorem ops_le : OpS X C (compareOp .LtE) opLe := ops_int op_le
theorem ops_gt : OpS X C (compareOp .Gt) opGt := ops_int op_gt
theorem ops_ge : OpS X C (compareOp .GtE) opGe := ops_int op_ge
def eqD (x y : Dv) (S : Sto) : Option Bool := match x, y with
  | .int i, .int j => some (decide (i = j))
  | .str a, .str b => some (decide (a = b))
  | .bl a, .bl b => some (decide (a = b))
  | _, _ => match x.py S, y.py S with
    | some p, some q => if SeqAt.shaped p && SeqAt.shaped q then some (PyData.eqv p q) else none
    | _, _ => none
def opEq : Op2 := fun x y S => (eqD x y S).map fun b => (.bl b, S)
def opNe : Op2 := fun x y S => (eqD x y S).map fun b => (.bl (!b), S)
theorem ofO_map {K : PySem.W.Frag} {W : WX} {o : Option Bool} {g : Bool → Dv} {S : Sto} {μ : Mu} {σ : L2.St} {H : Hp} {Q : VK} (q : tR K C W (PV K) (ofO (o.map fun b => (g b, S))) μ σ H Q) : ∃ b, o = some b ∧ tR K C W (PV K) (.ok (g b) S) μ σ H Q := by
  cases o with
  | none => exact q.elim
  | some b => exact ⟨b, rfl, q⟩
theorem eqD_deep {x y : Dv} {S : Sto} {b : Bool} (h : eqD x y S = some b) : (∃ i j, x = .int i ∧ y = .int j ∧ b = decide (i = j)) ∨ (∃ i j, x = .str i ∧ y = .str j ∧ b = decide (i = j)) ∨ (∃ i j, x = .bl i ∧ y = .bl j ∧ b = decide (i = j)) ∨
    ∃ p q, x.py S = some p ∧ y.py S = some q ∧ SeqAt.shaped p = true ∧ SeqAt.shaped q = true ∧ b = PyData.eqv p q := by
  unfold eqD at h
  split at h
  · cases h; exact .inl ⟨_, _, rfl, rfl, rfl⟩
  · cases h; exact .inr (.inl ⟨_, _, rfl, rfl, rfl⟩)
  · cases h; exact .inr (.inr (.inl ⟨_, _, rfl, rfl, rfl⟩))
  · split at h
    · rename_i p q e1 e2
      split at h
      · rename_i hs
        simp only [Bool.and_eq_true] at hs
        cases h
        exact .inr (.inr (.inr ⟨p, q, e1, e2, hs.1, hs.2, rfl⟩))
      · cases h
    · cases h
theorem ops_eq (hu : X.A.units + 64 < cLine) : OpS X C (compareOp .Eq) opEq := by
  intro pins s σ H x y v u Q I rx ry h
  obtain ⟨μ, S, dx, dy, sr, vx, vy, q⟩ := h
  obtain ⟨b, e, q⟩ := ofO_map q
  have fin := old_val sr (VR_bl.mpr rfl) q
  rcases eqD_deep e with ⟨i, j, rfl, rfl, rfl⟩ | ⟨i, j, rfl, rfl, rfl⟩ | ⟨i, j, rfl, rfl, rfl⟩ | ⟨p, q', e1, e2, s1, s2, rfl⟩
  · cases VR_int.mp vx
    cases VR_int.mp vy
    refine op_eq pins s σ H _ _ v u Q I rx ry ⟨rfl, ?_⟩
    rw [show decide (V.int i = V.int j) = decide (i = j) from by rw [dec_int]; rfl]
    exact fin
  · cases VR_str.mp vx
    cases VR_str.mp vy
    refine op_eq pins s σ H _ _ v u Q I rx ry ⟨rfl, ?_⟩
    rw [show decide (V.str i = V.str j) = decide (i = j) from by by_cases hij : i = j <;> simp [hij]]
    exact fin
  · cases VR_bl.mp vx
    cases VR_bl.mp vy
    refine op_eq pins s σ H _ _ v u Q I rx ry ⟨rfl, ?_⟩
    rw [show decide (V.bl i = V.bl j) = decide (i = j) from by by_cases hij : i = j <;> simp [hij]]
    exact fin
  · exact op_eqD hu pins s σ H _ _ v u Q I rx ry ⟨p, q', py_dp sr e1 vx, py_dp sr e2 vy, s1, s2, fin⟩
theorem ops_ne (hu : X.A.units + 64 < cLine) : OpS X C (compareOp .NotEq) opNe := by
  intro pins s σ H x y v u Q I rx ry h
  obtain ⟨μ, S, dx, dy, sr, vx, vy, q⟩ := h
  obtain ⟨b, e, q⟩ := ofO_map q
  have fin := old_val sr (VR_bl.mpr rfl) q
  rcases eqD_deep e with ⟨i, j, rfl, rfl, rfl⟩ | ⟨i, j, rfl, rfl, rfl⟩ | ⟨i, j, rfl, rfl, rfl⟩ | ⟨p, q', e1, e2, s1, s2, rfl⟩
  · cases VR_int.mp vx
    cases VR_int.mp vy
    refine op_ne pins s σ H _ _ v u Q I rx ry ⟨rfl, ?_⟩
    rw [show decide (V.int i = V.int j) = decide (i = j) from by rw [dec_int]; rfl]
    exact fin
  · cases VR_str.mp vx
    cases VR_str.mp vy
    refine op_ne pins s σ H _ _ v u Q I rx ry ⟨rfl, ?_⟩
    rw [show decide (V.str i = V.str j) = decide (i = j) from by by_cases hij : i = j <;> simp [hij]]
    exact fin
  · cases VR_bl.mp vx
    cases VR_bl.mp vy
    refine op_ne pins s σ H _ _ v u Q I rx ry ⟨rfl, ?_⟩
    rw [show decide (V.bl i = V.bl j) = decide (i = j) from by by_cases hij : i = j <;> simp [hij]]
    exact fin
  · exact op_neD hu pins s σ H _ _ v u Q I rx ry ⟨p, q', py_dp sr e1 vx, py_dp sr e2 vy, s1, s2, fin⟩
def isD (x y : Dv) : Option Bool := match x, y with
  | .non, .non => some true
  | .ref _, .non => some false
  | .bl _, .non => some false
  | .int _, .non => some false
  | .str _, .non => some false
  | .tup _, .non => some false
  | .fz _, .non => some false
  | .obj _ _, .non => some false
  | .dct _, .non => some false
  | .bl a, .bl b => some (decide (a = b))
  | _, _ => none
def opIs : Op2 := fun x y S => (isD x y).map fun b => (.bl b, S)
def opIsnt : Op2 := fun x y S => (isD x y).map fun b => (.bl (!b), S)
theorem isD_of {K : PySem.W.Frag} {H : Hp} {μ : Mu} {x y : Dv} {b : Bool} {v u : V} (h : isD x y = some b) (vx : VR K H μ x v) (vy : VR K H μ y u) : (u = .non ∧ b = decide (v = .non)) ∨ ∃ i j, v = .bl i ∧ u = .bl j ∧ b = decide (i = j) := by
  unfold isD at h
  split at h
  · cases h; cases VR_non.mp vx; cases VR_non.mp vy; exact .inl ⟨rfl, rfl⟩
  · cases h; cases VR_non.mp vy; obtain ⟨_, _, rfl⟩ := VR_ref.mp vx; exact .inl ⟨rfl, by simp⟩
  · cases h; cases VR_non.mp vy; cases VR_bl.mp vx; exact .inl ⟨rfl, by simp⟩
  · cases h; cases VR_non.mp vy; cases VR_int.mp vx; exact .inl ⟨rfl, by simp⟩
  · cases h; cases VR_non.mp vy; cases VR_str.mp vx; exact .inl ⟨rfl, by simp⟩
  · cases h; cases VR_non.mp vy; obtain ⟨_, _, rfl, _⟩ := VR_tup.mp vx; exact .inl ⟨rfl, by simp⟩
  · cases h; cases VR_non.mp vy; obtain ⟨_, _, rfl, _⟩ := VR_fz.mp vx; exact .inl ⟨rfl, by simp⟩
  · cases h; cases VR_non.mp vy; obtain ⟨_, _, _, rfl, _⟩ := VR_obj.mp vx; exact .inl ⟨rfl, by simp⟩
  · cases h; cases VR_non.mp vy; obtain ⟨_, _, rfl, _⟩ := VR_dct.mp vx; exact .inl ⟨rfl, by simp⟩
  · cases h; cases VR_bl.mp vx; cases VR_bl.mp vy; exact .inr ⟨_, _, rfl, rfl, rfl⟩
  · cases h
theorem ops_isnt : OpS X C (compareOp .IsNot) opIsnt := by
  intro pins s σ H x y v u Q I rx ry h
  obtain ⟨μ, S, dx, dy, sr, vx, vy, q⟩ := h
  obtain ⟨b, e, q⟩ := ofO_map q
  have fin := old_val sr (VR_bl.mpr rfl) q
  rcases isD_of e vx vy with ⟨rfl, rfl⟩ | ⟨i, j, rfl, rfl, rfl⟩
  · exact op_notN pins s σ H _ _ v u Q I rx ry ⟨rfl, fin⟩
  · exact op_notBl pins s σ H _ _ v u Q I rx ry ⟨i, j, rfl, rfl, fin⟩
end
end Fc
set_option exponentiation.threshold 256
set_option maxHeartbeats 4000000
set_option maxHeartbeats 4000000
namespace Fc
open PySem L2
def seqOf (S : Sto) : Dv → Option (List Dv)
  | .tup ds => some ds
  | d => listOf S d
section
variable {K : PySem.W.Frag} {C : Nat → Addr} {H : Hp} {μ : Mu} {S : Sto}
theorem seqOf_sq (sr : SR K C μ S H) {d : Dv} {v : V} {ds : List Dv} (e : seqOf S d = some ds) (h : VR K H μ d v) : ∃ a vs, v = .ref a ∧ (SqL K H a vs ∨ SqT K H a vs) ∧ VRs K H μ ds vs := by
  cases d with
  | tup es =>
    cases e
    obtain ⟨a, vs, rfl, h1, h2⟩ := VR_tup.mp h
    exact ⟨a, vs, rfl, .inr h1, h2⟩
  | fz es =>
    obtain ⟨a, vs, e1, h1, h2⟩ := listOf_sq sr (d := .fz es) e h
    exact ⟨a, vs, e1, .inl h1, h2⟩
  | ref n =>
    obtain ⟨a, vs, e1, h1, h2⟩ := listOf_sq sr (d := .ref n) e h
    exact ⟨a, vs, e1, .inl h1, h2⟩
  | _ => cases e
theorem atI_VR {ds : List Dv} {vs : List V} {i : Int} {d : Dv} (h : VRs K H μ ds vs) (e : atI ds i = some d) : ∃ v, atI vs i = some v ∧ VR K H μ d v := by
  unfold atI at e ⊢
  obtain ⟨j, e1, e2⟩ := Option.bind_eq_some_iff.mp e
  obtain ⟨v, h1, h2⟩ := h.get e2
  rw [← h.length, e1]
  exact ⟨v, h1, h2⟩
end
def opIx : Op2 := fun x y S => match y with
  | .int i => match seqOf S x with
    | some ds => match atI ds i with
      | some d => some (d, S)
      | none => none
    | none => none
  | _ => none
section
variable {X : Cx} {C : Nat → Addr} {W : WX} {k : Nat} {e a b : Expr} {es : List Expr} {f g fa fb : DE} {l : DL} {pos p2 p : Pos}
theorem ixs : IxR X (rOp X.K C opIx) := by
  intro value slice pins s σ H x y v u Q I rx ry h hs
  obtain ⟨μ, S, dx, dy, sr, vx, vy, q⟩ := h
  cases dy with
  | int i =>
    simp only [opIx] at q
    split at q
    · rename_i ds e1
      split at q
      · rename_i d e2
        cases VR_int.mp vy
        obtain ⟨p, vs, rfl, hq, h2⟩ := seqOf_sq sr e1 vx
        obtain ⟨z, h3, h4⟩ := atI_VR h2 e2
        refine ix_seq value slice pins s σ H _ _ v u Q I rx ry ?_ hs
        rcases hq with hq | hq
        · exact .inl ⟨p, vs, i, z, rfl, rfl, hq, h3, old_val sr h4 q⟩
        · exact .inr (.inl ⟨p, vs, i, z, rfl, rfl, hq, h3, old_val sr h4 q⟩)
      · exact q.elim
    · exact q.elim
  | _ => exact q.elim
theorem se_ix (ha : SE X C W a fa) (hb : SE X C W b fb) (hs : PlainIx b := by exact fun _ _ => rfl) : SE X C W (.Subscript a b pos) (eOp opIx fa fb) :=
  ⟨pe_imp (pe_ix ixs ha.pe hb.pe hs) fun _ _ _ q => op_go q⟩
abbrev DO := Ev → Sto → Res (Option Int)
def oNo : DO := fun _ S => .ok none S
def oSo (f : DE) : DO := fun ρ S => (f ρ S).bd fun d S1 => match d with
  | .int i => .ok (some i) S1
  | _ => .stuck
abbrev PO2 : Mu → Hp → Option Int → Option Int → Prop := fun _ _ a b => a = b
structure SO (X : Cx) (C : Nat → Addr) (W : WX) (e : Option Expr) (f : DO) : Prop where
  po : PO X e (tG X.K C W PO2 f)
theorem po_imp {o : Option Expr} {t t' : TO} (h : PO X o t) (k : ∀ σ H Q, t' σ H Q → t σ H Q) : PO X o t' := ⟨fun pins s σ H Q I q => h.run pins s σ H Q I (k _ _ _ q)⟩
theorem so_no : SO X C W none oNo := ⟨po_imp po_none fun σ H Q ⟨μ, ρ, S, rl, q⟩ => q μ H none Aft.refl rl.sr rfl⟩
theorem so_so (h1 : SE X C W e f) : SO X C W (some e) (oSo f) := by
  refine ⟨po_imp (po_some h1.pe) fun σ H Q q => ?_⟩
  obtain ⟨μ, ρ, S, rl, q⟩ := q
  refine ⟨μ, ρ, S, rl, (tR.bd q).imp fun v H1 q1 => ?_⟩
  obtain ⟨μ1, S1, d, a1, s1, vr, q1⟩ := q1
  cases d with
  | int i => exact ⟨i, VR_int.mp vr, q1 μ1 H1 (some i) Aft.refl s1 rfl⟩
  | _ => exact q1.elim
def cutD (ds : List Dv) (lo hi : Option Int) : List Dv := (ds.drop (HT.sIx ds.length 0 lo)).take (HT.sIx ds.length ds.length hi - HT.sIx ds.length 0 lo)
theorem cut_VR {K : PySem.W.Frag} {H : Hp} {μ : Mu} {ds : List Dv} {vs : List V} (h : VRs K H μ ds vs) (lo hi : Option Int) : VRs K H μ (cutD ds lo hi) (cutV vs lo hi) := by
  unfold cutD cutV
  rw [h.length]
  exact (h.drop _).take _
def slD (m : Bool) (x : Dv) (lo hi : Option Int) (S : Sto) : Option (Dv × Sto) := match x with
  | .tup ds => some (.tup (cutD ds lo hi), S)
  | d => match listOf S d with
    | some ds => some (mk m (cutD ds lo hi) S)
    | none => none
theorem cutD_whole (ds : List Dv) (lo hi : Option Int) (h : HT.sIx ds.length 0 lo = 0 ∧ HT.sIx ds.length ds.length hi = ds.length) : cutD ds lo hi = ds := by
  unfold cutD
  rw [h.1, h.2]
  simp
theorem sls (m : Bool) : SlR X fun x lo hi H Q => ∃ μ S d, SR X.K C μ S H ∧ VR X.K H μ d x ∧ tR X.K C W0 (PV X.K) (ofO (slD m d lo hi S)) μ [] H Q := by
  intro pins s σ H x v vl vu lo hi sl Q I rx hs pl pu h
  obtain ⟨μ, S, d, sr, vr, q⟩ := h
  cases e1 : listOf S d with
  | some ds =>
    have e2 : slD m d lo hi S = some (mk m (cutD ds lo hi) S) := by
      cases d with
      | tup _ => cases e1
      | _ => simp only [slD, e1]
    obtain ⟨a, vs, rfl, h1, h2⟩ := listOf_sq sr e1 vr
    rw [e2] at q
    exact sl_list pins s σ H _ v vl vu lo hi sl Q I rx hs pl pu ⟨a, vs, rfl, h1, new_mk sr (cut_VR h2 lo hi) q⟩
  | none =>
    cases d with
    | tup ds =>
      obtain ⟨a, vs, rfl, h1, h2⟩ := VR_tup.mp vr
      refine sl_tupA pins s σ H _ v vl vu lo hi sl Q I rx hs pl pu ⟨a, vs, rfl, h1, fun hw => ?_, fun _ p hp => ?_⟩
      · simp only [slD] at q
        rw [cutD_whole ds lo hi (by rw [h2.length]; exact hw)] at q
        exact old_val sr vr q
      · exact new_tup sr (cut_VR h2 lo hi) q p hp
    | _ =>
      simp only [slD, e1] at q
      exact q.elim
def eSl (m : Bool) (f : DE) (lo hi : DO) : DE := fun ρ S => (f ρ S).bd fun d S1 => (lo ρ S1).bd fun a S2 => (hi ρ S2).bd fun b S3 => ofO (slD m d a b S3)
theorem se_sl (m : Bool) {lo hi : Option Expr} {fl fh : DO} (he : SE X C W e f) (hl : SO X C W lo fl) (hh : SO X C W hi fh) : SE X C W (.Subscript e (.Slice lo hi none p2) pos) (eSl m f fl fh) := by
  refine ⟨pe_imp (pe_slice (sls (C := C) m) he.pe hl.po hh.po) fun σ H Q q => ?_⟩
  obtain ⟨μ, ρ, S, rl, q⟩ := q
  refine ⟨μ, ρ, S, rl, (tR.bd q).imp fun v H1 q1 => ?_⟩
  obtain ⟨μ1, S1, d, a1, s1, vr, q1⟩ := q1
  refine ⟨μ1, ρ, S1, rl.next a1 s1, (tR.bd q1).imp fun v2 H2 q2 => ?_⟩
  obtain ⟨μ2, S2, d2, a2, s2, e2, q2⟩ := q2
  cases (show d2 = v2 from e2)
  refine ⟨μ2, ρ, S2, (rl.next a1 s1).next a2 s2, (tR.bd q2).imp fun v3 H3 q3 => ?_⟩
  obtain ⟨μ3, S3, d3, a3, s3, e3, q3⟩ := q3
  cases (show d3 = v3 from e3)
  exact ⟨μ3, S3, d, s3, vr.mono (a2.trans a3), tR.ofO q3⟩
abbrev OpN := List Dv → Sto → Option (Dv × Sto)
def rCall (K : PySem.W.Frag) (C : Nat → Addr) (g : OpN) : List V → Hp → VK → Prop := fun vs H Q => ∃ μ S ds, SR K C μ S H ∧ VRs K H μ ds vs ∧ tR K C W0 (PV K) (ofO (g ds S)) μ [] H Q
abbrev CaS (X : Cx) (C : Nat → Addr) (F : Value) (g : OpN) : Prop := CallR X F (rCall X.K C g)
def eBi (g : OpN) (l : DL) : DE := fun ρ S => (l ρ S).bd fun ds S1 => ofO (g ds S1)
theorem bi_go {gg : OpN} {σ : L2.St} {H : Hp} {Q : VK} (q : tG X.K C W (PV X.K) (eBi gg l) σ H Q) : tCB (rCall X.K C gg) (tG X.K C W (PL X.K) l) σ H Q := by
  obtain ⟨μ, ρ, S, rl, q⟩ := q
  refine ⟨μ, ρ, S, rl, (tR.bd q).imp fun v H1 q1 => ?_⟩
  obtain ⟨μ1, S1, d, a1, s1, vr, q1⟩ := q1
  exact ⟨μ1, S1, d, s1, vr, tR.ofO q1⟩
theorem se_bi {x : Str} {id : String} {gg : OpN} (hc : CaS X C (.builtin id) gg) (hm : X.mg x = none) (hv : bootBuiltins x = some (.builtin id)) (ha : SL X C W (e :: es) l) (hg : Gl X x := by rfl) (hn : x ≠ "__name__" := by decide) (hdb : (x == ("__debug__" : Str)) = false := by decide)
    (he : starEach (e :: es) X.env = (false, eval e X.env) :: starEach es X.env := by rfl) (hpl : (backTo pos (starEach es X.env)).any (·.1) = false := by rfl) : SE X C W (.Call (.Name x p) (e :: es) [] pos) (eBi gg l) :=
  ⟨pe_imp (pe_callB hc hg hm hv ha.pa hn hdb he hpl) fun _ _ _ q => bi_go q⟩
theorem se_ty {x : Str} {T : String} {gg : OpN} (hc : CaS X C (.type T) gg) (hm : X.mg x = none) (hv : bootBuiltins x = some (.type T)) (ha : SL X C W (e :: es) l) (hg : Gl X x := by rfl) (hn : x ≠ "__name__" := by decide) (hdb : (x == ("__debug__" : Str)) = false := by decide)
    (he : starEach (e :: es) X.env = (false, eval e X.env) :: starEach es X.env := by rfl) (hpl : (backTo pos (starEach es X.env)).any (·.1) = false := by rfl) : SE X C W (.Call (.Name x p) (e :: es) [] pos) (eBi gg l) :=
  ⟨pe_imp (pe_callTy hc hg hm hv ha.pa hn hdb he hpl) fun _ _ _ q => bi_go q⟩
def fLen : OpN := fun ds S => match ds with
  | [.str x] => if x.length ≤ lim then some (.int (x.length : Nat), S) else none
  | [d] => match seqOf S d with
    | some es => some (.int (es.length : Nat), S)
    | none => none
  | _ => none
theorem cas_len : CaS X C (.builtin "len") fLen := by
  intro pins s σ H vs us Q I r h
  obtain ⟨μ, S, ds, sr, vr, q⟩ := h
  unfold fLen at q
  split at q
  · rename_i x
    split at q
    · rename_i hl
      obtain ⟨v, t, rfl, h1, h2⟩ := VRs_cons.mp vr
      cases VRs_nil.mp h2
      cases VR_str.mp h1
      exact call_len pins s σ H _ us Q I r ⟨_, x.length, rfl, ⟨Nat.le_trans hl lim_line, rfl⟩, old_val sr (VR_int.mpr rfl) q⟩
    · exact q.elim
  · rename_i d _
    split at q
    · rename_i es e1
      obtain ⟨v, t, rfl, h1, h2⟩ := VRs_cons.mp vr
      cases VRs_nil.mp h2
      obtain ⟨a, ws, rfl, hq, h3⟩ := seqOf_sq sr e1 h1
      refine call_len pins s σ H _ us Q I r ⟨_, ws.length, rfl, ?_, by rw [← h3.length]; exact old_val sr (VR_int.mpr rfl) q⟩
      rcases hq with hq | hq
      · exact .inl ⟨ws, hq, rfl⟩
      · exact .inr ⟨ws, hq, rfl⟩
    · exact q.elim
  · exact q.elim
def fAbs : OpN := fun ds S => match ds with
  | [.int i] => some (.int (if i < 0 then -i else i), S)
  | _ => none
theorem cas_abs : CaS X C (.builtin "abs") fAbs := by
  intro pins s σ H vs us Q I r h
  obtain ⟨μ, S, ds, sr, vr, q⟩ := h
  unfold fAbs at q
  split at q
  · obtain ⟨v, t, rfl, h1, h2⟩ := VRs_cons.mp vr
    cases VRs_nil.mp h2
    cases VR_int.mp h1
    exact call_abs pins s σ H _ us Q I r ⟨_, rfl, old_val sr (VR_int.mpr rfl) q⟩
  · exact q.elim
def fMax2 : OpN := fun ds S => match ds with
  | [.int i, .int j] => some (.int (if j > i then j else i), S)
  | _ => none
def fMin2 : OpN := fun ds S => match ds with
  | [.int i, .int j] => some (.int (if j < i then j else i), S)
  | _ => none
theorem cas_max2 (hc : X.calm = true) : CaS X C (.builtin "max") fMax2 := by
  intro pins s σ H vs us Q I r h
  obtain ⟨μ, S, ds, sr, vr, q⟩ := h
  unfold fMax2 at q
  split at q
  · obtain ⟨v, t, rfl, h1, h2⟩ := VRs_cons.mp vr
    obtain ⟨v2, t2, rfl, h3, h4⟩ := VRs_cons.mp h2
    cases VRs_nil.mp h4
    cases VR_int.mp h1
    cases VR_int.mp h3
    exact call_max2 hc pins s σ H _ us Q I r ⟨_, _, rfl, old_val sr (VR_int.mpr rfl) q⟩
  · exact q.elim
theorem cas_min2 (hc : X.calm = true) : CaS X C (.builtin "min") fMin2 := by
  intro pins s σ H vs us Q I r h
  obtain ⟨μ, S, ds, sr, vr, q⟩ := h
  unfold fMin2 at q
  split at q
  · obtain ⟨v, t, rfl, h1, h2⟩ := VRs_cons.mp vr
    obtain ⟨v2, t2, rfl, h3, h4⟩ := VRs_cons.mp h2
    cases VRs_nil.mp h4
    cases VR_int.mp h1
    cases VR_int.mp h3
    exact call_min2 hc pins s σ H _ us Q I r ⟨_, _, rfl, old_val sr (VR_int.mpr rfl) q⟩
  · exact q.elim
def intsOf : List Dv → Option (List Int)
  | [] => some []
  | .int i :: ds => (intsOf ds).map (i :: ·)
  | _ => none
theorem intsOf_eq : ∀ {ds : List Dv} {ns : List Int}, intsOf ds = some ns → ds = ns.map Dv.int
  | [], _, e => by cases e; rfl
  | .int i :: ds, _, e => by
    simp only [intsOf, Option.map_eq_some_iff] at e
    obtain ⟨ns, e1, rfl⟩ := e
    rw [intsOf_eq e1]
    rfl
  | .non :: _, _, e => by simp [intsOf] at e
  | .bl _ :: _, _, e => by simp [intsOf] at e
  | .str _ :: _, _, e => by simp [intsOf] at e
  | .tup _ :: _, _, e => by simp [intsOf] at e
  | .ntp _ :: _, _, e => by simp [intsOf] at e
  | .fz _ :: _, _, e => by simp [intsOf] at e
  | .ref _ :: _, _, e => by simp [intsOf] at e
@[simp] theorem intsOf_map : ∀ ns : List Int, intsOf (ns.map Dv.int) = some ns
  | [] => rfl
  | n :: ns => by simp [intsOf, intsOf_map ns]
def blsOf : List Dv → Option (List Bool)
  | [] => some []
  | .bl i :: ds => (blsOf ds).map (i :: ·)
  | _ => none
theorem blsOf_eq : ∀ {ds : List Dv} {ns : List Bool}, blsOf ds = some ns → ds = ns.map Dv.bl
  | [], _, e => by cases e; rfl
  | .bl i :: ds, _, e => by
    simp only [blsOf, Option.map_eq_some_iff] at e
    obtain ⟨ns, e1, rfl⟩ := e
    rw [blsOf_eq e1]
    rfl
  | .non :: _, _, e => by simp [blsOf] at e
  | .int _ :: _, _, e => by simp [blsOf] at e
  | .str _ :: _, _, e => by simp [blsOf] at e
  | .tup _ :: _, _, e => by simp [blsOf] at e
  | .ntp _ :: _, _, e => by simp [blsOf] at e
  | .fz _ :: _, _, e => by simp [blsOf] at e
  | .ref _ :: _, _, e => by simp [blsOf] at e
@[simp] theorem blsOf_map : ∀ ns : List Bool, blsOf (ns.map Dv.bl) = some ns
  | [] => rfl
  | n :: ns => by simp [blsOf, blsOf_map ns]
theorem VRs_bls {K : PySem.W.Frag} {H : Hp} {μ : Mu} : ∀ {ns : List Bool} {vs : List V}, VRs K H μ (ns.map Dv.bl) vs ↔ vs = ns.map V.bl
  | [], _ => by simp [VRs_nil]
  | n :: ns, vs => by
    rw [List.map_cons, List.map_cons, VRs_cons]
    constructor
    · rintro ⟨v, r, rfl, h1, h2⟩
      rw [VR_bl.mp h1, VRs_bls.mp h2]
    · rintro rfl
      exact ⟨_, _, rfl, VR_bl.mpr rfl, VRs_bls.mpr rfl⟩
def fAll : OpN := fun ds S => match ds with
  | [d] => match listOf S d with
    | some es => match blsOf es with
      | some bs => some (.bl (bs.all id), S)
      | none => none
    | none => none
  | _ => none
theorem cas_all (hc : X.calm = true) : CaS X C (.builtin "all") fAll := by
  intro pins s σ H vs us Q I r h
  obtain ⟨μ, S, ds, sr, vr, q⟩ := h
  unfold fAll at q
  split at q
  · split at q
    · rename_i es e1
      split at q
      · rename_i bs e2
        obtain ⟨v, t, rfl, h1, h2⟩ := VRs_cons.mp vr
        cases VRs_nil.mp h2
        obtain ⟨a, ws, rfl, hq, h3⟩ := listOf_sq sr e1 h1
        rw [blsOf_eq e2] at h3
        cases VRs_bls.mp h3
        exact cr_all hc pins s σ H _ us Q I r ⟨a, bs, rfl, hq, old_val sr (VR_bl.mpr rfl) q⟩
      · exact q.elim
    · exact q.elim
  · exact q.elim
def insI (n : Int) : List Int → List Int
  | [] => [n]
  | m :: ms => if n ≤ m then n :: m :: ms else m :: insI n ms
def sortI : List Int → List Int
  | [] => []
  | n :: ns => insI n (sortI ns)
theorem insI_perm (n : Int) : ∀ ms : List Int, (insI n ms).Perm (n :: ms)
  | [] => .refl _
  | m :: ms => by
    unfold insI
    split
    · exact .refl _
    · exact ((insI_perm n ms).cons m).trans (.swap n m ms)
theorem sortI_perm : ∀ ns : List Int, (sortI ns).Perm ns
  | [] => .refl _
  | n :: ns => (insI_perm n _).trans ((sortI_perm ns).cons n)
theorem insI_sorted (n : Int) : ∀ ms : List Int, ms.Pairwise (· ≤ ·) → (insI n ms).Pairwise (· ≤ ·)
  | [], _ => by simp [insI]
  | m :: ms, h => by
    unfold insI
    rw [List.pairwise_cons] at h
    split
    · rename_i hle
      refine List.pairwise_cons.mpr ⟨fun x hx => ?_, List.pairwise_cons.mpr h⟩
      rcases List.mem_cons.mp hx with rfl | hx
      · exact hle
      · exact Int.le_trans hle (h.1 x hx)
    · rename_i hle
      refine List.pairwise_cons.mpr ⟨fun x hx => ?_, insI_sorted n ms h.2⟩
      rcases List.mem_cons.mp ((insI_perm n ms).mem_iff.mp hx) with rfl | hx
      · omega
      · exact h.1 x hx
theorem sortI_sorted : ∀ ns : List Int, (sortI ns).Pairwise (· ≤ ·)
  | [] => List.Pairwise.nil
  | n :: ns => insI_sorted n _ (sortI_sorted ns)
theorem sorted_one : ∀ {l m : List Int}, l.Perm m → l.Pairwise (· ≤ ·) → m.Pairwise (· ≤ ·) → l = m
  | [], m, p, _, _ => (List.nil_perm.mp p).symm
  | x :: l, m, p, h1, h2 => by
    cases m with
    | nil => exact absurd p.length_eq (by simp)
    | cons y m =>
      rw [List.pairwise_cons] at h1 h2
      have e : x = y := by
        have a1 : x ∈ y :: m := p.mem_iff.mp List.mem_cons_self
        have a2 : y ∈ x :: l := p.mem_iff.mpr List.mem_cons_self
        rcases List.mem_cons.mp a1 with z | z
        · exact z
        · rcases List.mem_cons.mp a2 with z' | z'
          · exact z'.symm
          · exact Int.le_antisymm (h1.1 _ z') (h2.1 _ z)
      subst e
      rw [sorted_one ((List.perm_cons x).mp p) h1.2 h2.2]
def fSorted (m : Bool) : OpN := fun ds S => match ds with
  | [d] => match listOf S d with
    | some es => match intsOf es with
      | some ns => if ns.length < 64 then some (mk m ((sortI ns).map Dv.int) S) else none
      | none => none
    | none => none
  | _ => none
theorem cas_sorted (m : Bool) : CaS X C (.builtin "sorted") (fSorted m) := by
  intro pins s σ H vs us Q I r h
  obtain ⟨μ, S, ds, sr, vr, q⟩ := h
  unfold fSorted at q
  split at q
  · split at q
    · rename_i es e1
      split at q
      · rename_i bs e2
        split at q
        · rename_i hl
          obtain ⟨v, t, rfl, h1, h2⟩ := VRs_cons.mp vr
          cases VRs_nil.mp h2
          obtain ⟨a, ws, rfl, hq, h3⟩ := listOf_sq sr e1 h1
          rw [intsOf_eq e2] at h3
          cases VRs.ints.mp h3
          refine cr_sorted pins s σ H _ us Q I r ⟨a, bs, rfl, hq, hl, fun ns' p h4 h5 hp => ?_⟩
          have e3 : ns' = sortI bs := sorted_one (h4.trans (sortI_perm bs).symm) h5 (sortI_sorted bs)
          rw [e3]
          exact new_mk sr (VRs.ints.mpr rfl) q p hp
        · exact q.elim
      · exact q.elim
    · exact q.elim
  · exact q.elim
def fTuple : OpN := fun ds S => match ds with
  | [d] => match seqOf S d with
    | some es => some (.tup es, S)
    | none => none
  | _ => none
theorem cas_tuple : CaS X C (.type "tuple") fTuple := by
  intro pins s σ H vs us Q I r h
  obtain ⟨μ, S, ds, sr, vr, q⟩ := h
  unfold fTuple at q
  split at q
  · split at q
    · rename_i d es e1
      obtain ⟨v, t, rfl, h1, h2⟩ := VRs_cons.mp vr
      cases VRs_nil.mp h2
      obtain ⟨a, ws, rfl, hq, h3⟩ := seqOf_sq sr e1 h1
      refine call_tuple_of pins s σ H _ us Q I r ⟨a, ws, rfl, ?_⟩
      rcases hq with hq | hq
      · exact .inl ⟨hq, new_tup sr h3 q⟩
      · exact .inr ⟨hq, old_val sr (VR_tup.mpr ⟨a, ws, rfl, hq, h3⟩) q⟩
    · exact q.elim
  · exact q.elim
def fList (m : Bool) : OpN := fun ds S => match ds with
  | [d] => match seqOf S d with
    | some es => some (mk m es S)
    | none => none
  | _ => none
theorem cas_list (m : Bool) : CaS X C (.type "list") (fList m) := by
  intro pins s σ H vs us Q I r h
  obtain ⟨μ, S, ds, sr, vr, q⟩ := h
  unfold fList at q
  split at q
  · split at q
    · rename_i d es e1
      obtain ⟨v, t, rfl, h1, h2⟩ := VRs_cons.mp vr
      cases VRs_nil.mp h2
      obtain ⟨a, ws, rfl, hq, h3⟩ := seqOf_sq sr e1 h1
      exact call_list_of pins s σ H _ us Q I r ⟨a, ws, rfl, hq, new_mk sr h3 q⟩
    · exact q.elim
  · exact q.elim
def fRepr : OpN := fun ds S => match ds with
  | [d] => match d.py S with
    | some p => if SeqAt.shaped p && PyData.showable p && decide (p.shown.length ≤ lim) then some (.str p.shown, S) else none
    | none => none
  | _ => none
theorem cas_repr (hg : X.A.guards = some []) (hu : X.A.units + 100 < cLine) : CaS X C (.builtin "repr") fRepr := by
  intro pins s σ H vs us Q I r h
  obtain ⟨μ, S, ds, sr, vr, q⟩ := h
  unfold fRepr at q
  split at q
  · split at q
    · rename_i d p e1
      split at q
      · rename_i hc
        simp only [Bool.and_eq_true, decide_eq_true_eq] at hc
        obtain ⟨⟨hsh, hsw⟩, hlen⟩ := hc
        obtain ⟨v, t, rfl, h1, h2⟩ := VRs_cons.mp vr
        cases VRs_nil.mp h2
        obtain ⟨u, rfl, ru⟩ := Vals.one r
        obtain ⟨as, rd⟩ := Dp.reads I p v u (py_dp sr e1 h1) ru
        have fin : ∀ (h' : Heap) (w : Tok) (tk : Nat), (∀ b o, s.heap.get? b = some o → h'.get? b = some o) → EP X pins σ Q (.str p.shown w) { s with heap := h', toks := tk } := fun h' w tk kk =>
          ⟨.str p.shown, H, I.kept kk, ⟨w, rfl⟩, old_val sr (VR_str.mpr rfl) q⟩
        have hd := SeqAt.depth_of_shaped hsh
        have tight : p.shown.length ≤ sizeLine := Nat.le_trans hlen lim_line
        cases p with
        | none => cases rd; exact P.repr_of_none (fin _ _ _ fun _ _ z => z)
        | bool b => cases rd; exact P.repr_of_bool (fin _ _ _ fun _ _ z => z)
        | int i =>
          cases rd
          exact P.repr_of_int (by simpa [PyData.showable] using hsw) (fin _ _ _ fun _ _ z => z)
        | str x => cases rd; exact P.repr_of_str (fin _ _ _ fun _ _ z => z) tight
        | list xs =>
          cases rd with
          | list k1 k2 k3 k4 => exact repr_of_reads' (Reads.list k1 k2 k3 k4) hsw (PyData.noDict_hsm (PyData.hasDict_of_canLay _ (SeqAt.canLay_of_shaped hsh))) hg (by omega) (fun _ _ z => z) (fun h' w tk kk => fin h' w tk kk) tight
        | tuple xs =>
          cases rd with
          | tuple k1 k2 k3 k4 => exact repr_of_reads' (Reads.tuple k1 k2 k3 k4) hsw (PyData.noDict_hsm (PyData.hasDict_of_canLay _ (SeqAt.canLay_of_shaped hsh))) hg (by omega) (fun _ _ z => z) (fun h' w tk kk => fin h' w tk kk) tight
        | dict kvs => exact absurd (SeqAt.canLay_of_shaped hsh) (by simp [PyData.canLay0])
      · exact q.elim
    · exact q.elim
  · exact q.elim
inductive Ty where
  | non | bl | int | str | tup | lst | dic
  deriving DecidableEq
def Ty.nm : Ty → String
  | .non => "NoneType" | .bl => "bool" | .int => "int" | .str => "str" | .tup => "tuple" | .lst => "list" | .dic => "dict"
def isT (a b : Ty) : Bool := decide (a = b) || (decide (a = .bl) && decide (b = .int))
theorem isT_kit {K : PySem.W.Frag} {a b : Ty} (hb : b ≠ .non) : PySem.W.kitOne K (.type a.nm) (.type b.nm) = some (isT a b) := by
  cases a <;> cases b <;> first | exact absurd rfl hb | exact kit_ty (by decide +kernel)
def tyD (S : Sto) : Dv → Option Ty
  | .non => some .non
  | .bl _ => some .bl
  | .int _ => some .int
  | .str _ => some .str
  | .tup _ => some .tup
  | .ntp _ => some .tup
  | .fz _ => some .lst
  | .ref n => match S[n]? with
    | some (.lst _) => some .lst
    | some (.dic _) => some .dic
    | some (.ldic _) => some .dic
    | _ => none
  | .obj _ _ => none
  | .dct _ => some .dic
theorem tyD_x {K : PySem.W.Frag} {H : Hp} {μ : Mu} {S : Sto} (sr : SR K C μ S H) {d : Dv} {v : V} {t : Ty} (e : tyD S d = some t) (h : VR K H μ d v) : TyX K H v (.type t.nm) := by
  cases d with
  | non => cases e; cases VR_non.mp h; exact .base .non
  | bl b => cases e; cases VR_bl.mp h; exact .base (.bl b)
  | int b => cases e; cases VR_int.mp h; exact .base (.int b)
  | str b => cases e; cases VR_str.mp h; exact .base (.str b)
  | tup ds =>
    cases e
    obtain ⟨a, vs, rfl, h1, _⟩ := VR_tup.mp h
    rcases h1 with (h1 | ⟨o, h1⟩) | ⟨o, its, n, h1, h2, _⟩
    · exact .base (.tup h1)
    · exact .fTuple h1
    · exact .kTuple h1 h2
  | ntp ds =>
    cases e
    obtain ⟨a, vs, rfl, ⟨o, _, h1⟩, _⟩ := VR_ntp.mp h
    exact .fTuple h1
  | fz ds =>
    cases e
    obtain ⟨a, vs, rfl, h1, _⟩ := VR_fz.mp h
    rcases h1 with ⟨o, h1⟩ | h1 | ⟨h1, _⟩
    · exact .base (.frz h1)
    · rcases h1 with (h1 | ⟨o, h1⟩) | ⟨o, its, n, h1, h2, _⟩
      · cases h1
      · cases h1
      · exact .kList h1 h2
    · exact .base (.lst h1)
  | obj c fs => cases e
  | dct kvs =>
    cases e
    obtain ⟨a, kws, rfl, _, h1, _⟩ := VR_dct.mp h
    exact .base (.dK h1)
  | ref n =>
    obtain ⟨a, ha, rfl⟩ := VR_ref.mp h
    simp only [tyD] at e
    split at e
    · rename_i ds e1
      cases e
      obtain ⟨ho, e3, vs, rfl, _⟩ := sr.ob n _ a e1 ha
      exact .base (.lst e3)
    · rename_i ds e1
      cases e
      obtain ⟨ho, e3, vs, rfl, _⟩ := sr.ob n _ a e1 ha
      exact .base (.dK e3)
    · rename_i ds e1
      cases e
      obtain ⟨ho, e3, o, vs, rfl, _⟩ := sr.ob n _ a e1 ha
      exact .fDict e3
    · cases e
def eIsi (T : Ty) (f : DE) : DE := fun ρ S => (f ρ S).bd fun d S1 => match tyD S1 d with
  | some t => .ok (.bl (isT t T)) S1
  | none => .stuck
theorem se_isi (T : Ty) {x : Str} {px : Pos} (ha : SE X C W e f) (hm : X.mg "isinstance" = none) (hmT : X.mg x = none) (hT : T ≠ .non := by decide) (hvT : bootBuiltins x = some (.type T.nm) := by decide +kernel) (hg : Gl X "isinstance" := by rfl) (hgT : Gl X x := by rfl)
    (hn : x ≠ "__name__" := by decide) (hdb : (x == ("__debug__" : Str)) = false := by decide)
    (he : starEach [e, .Name x px] X.env = (false, eval e X.env) :: starEach [.Name x px] X.env := by rfl) (he2 : starEach [.Name x px] X.env = (false, eval (.Name x px) X.env) :: starEach [] X.env := by rfl) (hpl : (backTo pos (starEach [.Name x px] X.env)).any (·.1) = false := by rfl) :
    SE X C W (.Call (.Name "isinstance" p) [e, .Name x px] [] pos) (eIsi T f) := by
  have pT : PE X (.Name x px) (tC (.ty T.nm)) := pe_bltn hgT hmT hvT rfl hn hdb
  refine ⟨pe_imp (pe_callB call_isi hg hm PyProof.Rows.boot_isinstance (pa_cons ha.pe (pa_cons pT pa_nil he2) he) (by decide) (by decide) he hpl) fun σ H Q q => ?_⟩
  obtain ⟨μ, ρ, S, rl, q⟩ := q
  refine ⟨μ, ρ, S, rl, (tR.bd q).imp fun v H1 q1 => ?_⟩
  obtain ⟨μ1, S1, d, a1, s1, vr, q1⟩ := q1
  cases e1 : tyD S1 d with
  | none => rw [e1] at q1; exact q1.elim
  | some t =>
    rw [e1] at q1
    exact ⟨v, .ty T.nm, .type t.nm, .type T.nm, isT t T, rfl, .ty _, tyD_x s1 e1 vr, isT_kit hT, old_val s1 (VR_bl.mpr rfl) q1⟩
abbrev OpM := Dv → List Dv → Sto → Option (Dv × Sto)
def eMtL (g : OpM) (f : DE) (l : DL) : DE := fun ρ S => (f ρ S).bd fun d S1 => match listOf S1 d with
  | some _ => (l ρ S1).bd fun ds S2 => ofO (g d ds S2)
  | none => .stuck
def mAppend : OpM := fun d ds S => match d, ds with
  | .ref n, [y] => match S[n]? with
    | some (.lst es) => if es.length < lim then some (.non, S.set n (.lst (es ++ [y]))) else none
    | _ => none
  | _, _ => none
def inD (x y : Dv) (S : Sto) : Option Bool := match x.py S, y.py S with
  | some p, some (.list qs) => if SeqAt.shaped p && SeqAt.shaped (.list qs) then some (qs.any fun z => PyData.eqv z p) else none
  | _, _ => none
def opIn : Op2 := fun x y S => (inD x y S).map fun b => (.bl b, S)
def opNotIn : Op2 := fun x y S => (inD x y S).map fun b => (.bl (!b), S)
def cStore (fe fo fi : DE) : DS := fun ρ S => toS (fe ρ S) ρ fun d S1 => toS (fo ρ S1) ρ fun o S2 => toS (fi ρ S2) ρ fun i S3 => match o, i with
  | .ref n, .int j => match S3[n]? with
    | some (.lst es) => match ixN es.length j with
      | some m => .ok (.nx ρ) (S3.set n (.lst (es.set m d)))
      | none => .stuck
    | _ => .stuck
  | _, _ => .stuck
theorem ss_store {fo fi : DE} (h1 : SE X C W e f) (ho : SE X C W a fo) (hi : SE X C W b fi) (hs : swapsWithSole [.Subscript a b p2] e pos.line X.env = pure false := by rfl) (hw : swappedStores [.Subscript a b p2] e X.env = pure none := by rfl)
    (hh : (assignEach [.Subscript a b p2] X.env).map (·.2) = [assign (.Subscript a b p2) X.env] := by rfl)
    (ha : ∀ v, assign (.Subscript a b p2) X.env v = (do
      let ov ← holding [v] (eval a X.env)
      let iv ← holding [v, ov] (eval b X.env)
      standAt p2
      holding [v, ov, iv] (setItem ov iv v)
      release [v, ov, iv] []) := by intro _; rfl) : SS X C W (.Assign [.Subscript a b p2] e pos) (cStore f fo fi) := by
  refine ⟨ps_imp (ps_asg h1.pe (pg_sub ho.pe hi.pe set_list ha) hs hw hh) fun D σ H q => ?_⟩
  obtain ⟨μ, ρ, S, rl, q⟩ := q
  refine ⟨μ, ρ, S, rl, (toS_go q rl).imp fun v H1 q1 => ?_⟩
  obtain ⟨μ1, S1, d, a1, s1, vr, q1⟩ := q1
  have rl1 := rl.next a1 s1
  refine ⟨μ1, ρ, S1, rl1, (toS_go q1 rl1).imp fun v2 H2 q2 => ?_⟩
  obtain ⟨μ2, S2, d2, a2, s2, vr2, q2⟩ := q2
  have rl2 := rl1.next a2 s2
  refine ⟨μ2, ρ, S2, rl2, (toS_go q2 rl2).imp fun v3 H3 q3 => ?_⟩
  obtain ⟨μ3, S3, d3, a3, s3, vr3, q3⟩ := q3
  split at q3
  · rename_i n j
    split at q3
    · rename_i es e1
      split at q3
      · rename_i m em
        cases VR_int.mp vr3
        obtain ⟨ad, vs, rfl, ha3, h3, h4⟩ := lst_at s3 e1 (vr2.mono a3)
        have af : Aft X.K μ3 H3 μ3 (L2.upd H3 ad (.lst (vs.set m v))) := s3.put_aft ha3 (by rw [h3]; exact True.intro)
        refine ⟨ad, vs, j, m, rfl, rfl, h3, by rw [← h4.length]; exact em, q3 μ3 σ _ af ((rl2.next a3 s3).next af (s3.put (o := .lst (es.set m d)) ha3 (by rw [h3]; exact True.intro) ⟨_, rfl, ?_⟩))⟩
        exact (h4.mono af).set m ((vr.mono (a2.trans a3)).mono af)
      · exact q3.elim
    · exact q3.elim
  · exact q3.elim
def itSeq (d : Dv) : Itf := fun S i => (seqOf S d).map fun ds => ds[i]?
def itRange (lo : Int) (n : Nat) : Itf := fun _ i => some (if i < n then some (.int (lo + i)) else none)
def iSeq (f : DE) : DI := fun ρ S => (f ρ S).bd fun d S1 => match seqOf S1 d with
  | some _ => .ok (itSeq d) S1
  | none => .stuck
noncomputable def rngB (j : Int) : Bool := @decide (-(2 ^ 62) ≤ j ∧ j < 2 ^ 62) (Classical.propDecidable _)
theorem rngB_iff {j : Int} : rngB j = true ↔ -(2 ^ 62) ≤ j ∧ j < 2 ^ 62 := by
  unfold rngB
  exact @decide_eq_true_iff _ (Classical.propDecidable _)
noncomputable def iRange1 (l : DL) : DI := fun ρ S => (l ρ S).bd fun ds S1 => match ds with
  | [.int j] => if rngB j then .ok (itRange 0 j.toNat) S1 else .stuck
  | _ => .stuck
noncomputable def iRange2 (l : DL) : DI := fun ρ S => (l ρ S).bd fun ds S1 => match ds with
  | [.int i, .int j] => if rngB i && rngB j then .ok (itRange i (j - i).toNat) S1 else .stuck
  | _ => .stuck
section
variable {tg : Expr}
theorem jm_range {K : PySem.W.Frag} {μ : Mu} {H : Hp} (lo : Int) (n : Nat) : Jm K C μ H (itRange lo n) (Itr lo n) := by
  intro μ1 S1 H1 af sr i
  simp only [itRange]
  by_cases h : i < n
  · rw [if_pos h]
    exact ⟨h, fun x H' y => by obtain ⟨rfl, rfl⟩ := y; exact ⟨Aft.refl, sr, VR_int.mpr rfl⟩⟩
  · rw [if_neg h]
    exact Nat.le_of_not_lt h
theorem si_range1 (hm : X.mg "range" = none) (ha : SL X C W [a] l) (hg : Gl X "range" := by rfl) (hs : starEach [a] X.env = [(false, eval a X.env)] := by rfl) : SI X C W tg (.Call (.Name "range" p) [a] [] pos) (iRange1 l) := by
  refine ⟨pi_imp (pi_range1 hg hm ha.pa hs) fun σ H R q => ?_⟩
  obtain ⟨μ, ρ, S, rl, q⟩ := q
  refine ⟨μ, ρ, S, rl, (tR.bd q).imp fun v H1 q1 => ?_⟩
  obtain ⟨μ1, S1, d, a1, s1, vr, q1⟩ := q1
  split at q1
  · rename_i j
    split at q1
    · rename_i hc
      have hc := rngB_iff.mp hc
      obtain ⟨z, t, rfl, h1, h2⟩ := VRs_cons.mp vr
      cases VRs_nil.mp h2
      cases VR_int.mp h1
      exact ⟨j, rfl, hc.1, hc.2, q1 μ1 H1 _ Aft.refl s1 (jm_range 0 _)⟩
    · exact q1.elim
  · exact q1.elim
theorem si_range2 (hm : X.mg "range" = none) (ha : SL X C W [a, b] l) (hg : Gl X "range" := by rfl) (hs : starEach [a, b] X.env = [(false, eval a X.env), (false, eval b X.env)] := by rfl) (hs2 : starEach [b] X.env = [(false, eval b X.env)] := by rfl) :
    SI X C W tg (.Call (.Name "range" p) [a, b] [] pos) (iRange2 l) := by
  refine ⟨pi_imp (pi_range2 hg hm ha.pa hs hs2) fun σ H R q => ?_⟩
  obtain ⟨μ, ρ, S, rl, q⟩ := q
  refine ⟨μ, ρ, S, rl, (tR.bd q).imp fun v H1 q1 => ?_⟩
  obtain ⟨μ1, S1, d, a1, s1, vr, q1⟩ := q1
  split at q1
  · rename_i i j
    split at q1
    · rename_i hc
      rw [Bool.and_eq_true, rngB_iff, rngB_iff] at hc
      obtain ⟨z, t, rfl, h1, h2⟩ := VRs_cons.mp vr
      obtain ⟨z2, t2, rfl, h3, h4⟩ := VRs_cons.mp h2
      cases VRs_nil.mp h4
      cases VR_int.mp h1
      cases VR_int.mp h3
      exact ⟨i, j, rfl, ⟨hc.1.1, hc.1.2, hc.2.1, hc.2.2⟩, q1 μ1 H1 _ Aft.refl s1 (jm_range i _)⟩
    · exact q1.elim
  · exact q1.elim
theorem jm_list {μ : Mu} {H : Hp} {d : Dv} {ad : Addr} (vd : VR X.K H μ d (.ref ad)) (hl : ∀ S, seqOf S d = listOf S d) : Jm X.K C μ H (itSeq d) (Itl X.K ad) := by
  intro μ1 S1 H1 af sr i
  simp only [itSeq, hl]
  cases e1 : listOf S1 d with
  | none => trivial
  | some ds =>
    obtain ⟨a', vs, e2, hq, h2⟩ := listOf_sq sr e1 (vd.weak af)
    cases e2
    simp only [Option.map_some]
    cases e3 : ds[i]? with
    | none => exact ⟨vs, hq, by rw [← h2.length]; exact List.getElem?_eq_none_iff.mp e3⟩
    | some z =>
      obtain ⟨v, h3, h4⟩ := h2.get e3
      refine ⟨⟨vs, v, hq, h3⟩, fun x H' y => ?_⟩
      obtain ⟨rfl, y⟩ := y
      have e4 := y vs hq
      rw [h3] at e4
      cases e4
      exact ⟨Aft.refl, sr, h4⟩
theorem jm_tup {μ : Mu} {H : Hp} {ds : List Dv} {ad : Addr} (vd : VR X.K H μ (.tup ds) (.ref ad)) : Jm X.K C μ H (itSeq (.tup ds)) (Itt X.K ad) := by
  intro μ1 S1 H1 af sr i
  simp only [itSeq, seqOf, Option.map_some]
  obtain ⟨a', vs, e2, hq, h2⟩ := VR_tup.mp (vd.weak af)
  cases e2
  cases e3 : ds[i]? with
  | none => exact ⟨vs, hq, by rw [← h2.length]; exact List.getElem?_eq_none_iff.mp e3⟩
  | some z =>
    obtain ⟨v, h3, h4⟩ := h2.get e3
    refine ⟨⟨vs, v, hq, h3⟩, fun x H' y => ?_⟩
    obtain ⟨rfl, y⟩ := y
    have e4 := y vs hq
    rw [h3] at e4
    cases e4
    exact ⟨Aft.refl, sr, h4⟩
theorem si_seq (h1 : SE X C W e f) : SI X C W tg e (iSeq f) := by
  refine ⟨⟨fun pins s σ H R I q => ?_⟩⟩
  obtain ⟨μ, ρ, S, rl, q⟩ := q
  refine thn (h1.pe.run pins s σ H _ I ⟨μ, ρ, S, rl, tR.bd q⟩) fun v s1 hq => ?_
  obtain ⟨x, H1, I1, r1, μ1, S1, d, a1, s1', vr, q1⟩ := hq
  have go : ∀ (J : It), Jm X.K C μ1 H1 (itSeq d) J → seqOf S1 d ≠ none → R J H1 := fun J jm hn => by
    cases e1 : seqOf S1 d with
    | none => exact absurd e1 hn
    | some es => rw [e1] at q1; exact q1 μ1 H1 J Aft.refl s1' jm
  cases e1 : listOf S1 d with
  | some es =>
    have hl : ∀ S, seqOf S d = listOf S d := fun S => by cases d <;> first | rfl | cases e1
    obtain ⟨ad, vs, rfl, hq, h2⟩ := listOf_sq s1' e1 vr
    cases r1
    obtain ⟨its, rv, pp, hz⟩ := I1.list hq
    refine wpAny_pyIter_list pp.isList ?_
    refine ⟨s1.heap.objs.size, [s1.heap.objs.size], _, _, H1, rfl, I1.kept (t' := s1.toks) fun b o e => Heap.get?_push_of_some _ e, turn_list ad _, ⟨_, Heap.get?_push_size _ rfl, rfl, rfl⟩, fun b hb => ?_, go _ (jm_list vr hl) (by rw [hl, e1]; simp)⟩
    have eb : b = s1.heap.objs.size := by simpa using hb
    rw [eb]
    exact I1.fpOk (Nat.le_refl _) (I1.hok.fresh (Nat.le_refl _))
  | none =>
    cases d with
    | tup ds =>
      obtain ⟨ad, vs, rfl, hq, h2⟩ := VR_tup.mp vr
      cases r1
      obtain ⟨its, rv, pp, hz⟩ := I1.tuple hq
      refine wpAny_pyIter_tuple (show s1.heap.IsTuple ad its.toArray from pp) ?_
      refine ⟨s1.heap.objs.size, [s1.heap.objs.size], _, _, H1, rfl, I1.kept (t' := s1.toks) fun b o e => Heap.get?_push_of_some _ e, turn_tuple ad _, ⟨_, Heap.get?_push_size _ rfl, rfl, rfl⟩, fun b hb => ?_, go _ (jm_tup vr) (by simp [seqOf])⟩
      have eb : b = s1.heap.objs.size := by simpa using hb
      rw [eb]
      exact I1.fpOk (Nat.le_refl _) (I1.hok.fresh (Nat.le_refl _))
    | _ =>
      simp only [seqOf, e1] at q1
      exact q1.elim
def itZip (d e : Dv) : Itf := fun S i => match seqOf S d, seqOf S e with
  | some ds, some es => some (match ds[i]?, es[i]? with
    | some x, some y => some (.tup [x, y])
    | _, _ => none)
  | _, _ => none
def isTup : Dv → Bool
  | .tup _ => true
  | _ => false
theorem new_pair {K : PySem.W.Frag} {μ : Mu} {S : Sto} {H : Hp} {x y : Dv} {v w : V} {T : Addr} (sr : SR K C μ S H) (hT : H T = none) (h1 : VR K H μ x v) (h2 : VR K H μ y w) :
    Aft K μ H μ (L2.upd H T (.tup [v, w])) ∧ SR K C μ S (L2.upd H T (.tup [v, w])) ∧ VR K (L2.upd H T (.tup [v, w])) μ (.tup [x, y]) (.ref T) := by
  have af : Aft K μ H μ (L2.upd H T (.tup [v, w])) := Aft.new hT
  exact ⟨af, sr.lay hT, VR_tup.mpr ⟨T, _, rfl, SqT.of upd_same, VRs_cons.mpr ⟨v, _, rfl, h1.mono af, VRs_cons.mpr ⟨w, _, rfl, h2.mono af, VRs_nil.mpr rfl⟩⟩⟩⟩
end
end
end Fc
set_option exponentiation.threshold 256
set_option maxHeartbeats 4000000
set_option maxHeartbeats 4000000
namespace Fc
open PySem L2
def Says (den : Den) : Prop := ∀ ns : List Int, ns.length ≤ 63 → (∀ n ∈ ns, n.natAbs.log2 ≤ 1048576) → ∃ S', den [.fz (ns.map Dv.int)] [] = .ok (.bl true) S'
theorem log2_bits (n : Int) : n.natAbs.log2 ≤ Builtin.Int.intBits n := by
  unfold Builtin.Int.intBits
  split
  · rename_i h
    simp at h
    subst h
    decide
  · omega
section
variable {P : Program} {w : World} {K : PySem.W.Frag} {mg mb : Str → Option Value} {C : Nat → Addr} {k : Nat} {den : Den}
theorem law_at {fa a : Addr} {s1 : Shared} {vs : List Value} {ns : List Int} {H : Hp} (hD : ∀ base : Heap, K.In base → base.Ns mainGlobals mg → Df P w K mg base C "law" 1 k den) (hfa : mg "law" = some (.ref fa)) (hr : Room k callerA)
    (inK : K.In (hidT s1.heap H)) (hmod : Mod K mg (hidT s1.heap H)) (hok : HOk P w H s1.heap) (hgen : s1.gens = #[]) (hS : Fzl K H ⟨[], []⟩ a (ns.map V.int)) (hden : ∃ S', den [.fz (ns.map Dv.int)] [] = .ok (.bl true) S')
    (only : ∀ b, H b = none ∨ ∃ o xs, H b = some (.frz o (.lst xs))) :
    codeAny (model P w) callerA (.call (.ref fa) ⟨[.ref a], []⟩) (fun r s' => r = .ok (.ret (.bool true)) ∧ OldK s1.heap s'.heap ∧ s'.os = s1.os ∧ PyProof.Rows.AllBare s'.gens) s1 := by
  obtain ⟨f, fd, ps, h1, h2, h3, h4, F⟩ := (hD _ inK hmod.glob).ex
  have ef : f = fa := by
    have := h1.symm.trans hfa
    injection this with this
    injection this
  subst ef
  have e0 : Env0 P w K mg (hidT s1.heap H) callerA [] s1 H := ⟨rfl, hmod, fun b o e => of_hidT e, Nat.le_of_eq (hidT_size _ _), trivial, fun b hb => absurd hb (by simp [frs]), hok, PyProof.Rows.AllBare.of_eq hgen⟩
  have hbind := h3 s1 [.ref a] (hmod.kin.keeps fun b o e => (of_hidT e).1) (by simp [h4])
  rw [List.append_nil] at hbind
  obtain ⟨S', eden⟩ := hden
  have hsp : spG K C ps.length den [.ref a] H (fun v _ => v = .bl true) (fun _ _ _ => False) := by
    refine ⟨by simp [h4], ⟨[], []⟩, [], [.fz (ns.map Dv.int)], ⟨rfl, List.nodup_nil, fun x hx => (by simp at hx), fun x hx => (by simp at hx), fun n o x e _ => by simp at e⟩, VRs_cons.mpr ⟨.ref a, [], rfl, VR_fz.mpr ⟨a, _, rfl, hS, VRs.ints.mpr rfl⟩, VRs_nil.mpr rfl⟩, ?_⟩
    rw [eden]
    exact fun μ' H' v _ _ z => VR_bl.mp z
  refine codeAny_mono (F.run callerA [] s1 H ⟨[.ref a], []⟩ [.ref a] [.ref a] _ _ hr rfl e0 hbind (.cons rfl .nil) hsp) fun r s' h => ?_
  match r, h with
  | .error e, h => obtain ⟨_, _, _, _, _, _, _, _, _, _, _, _, z⟩ := h; exact z.elim
  | .ok .next, h => exact False.elim h
  | .ok .brk, h => exact False.elim h
  | .ok .cont, h => exact False.elim h
  | .ok (.ret u), h =>
    obtain ⟨v, H', os, bare, un, hok', r', q⟩ := h
    cases (show v = .bl true from q)
    cases (show u = Value.bool true from r')
    refine ⟨rfl, OldK.of_keep fun b o e => ?_, os, bare⟩
    rcases only b with z | ⟨ob, xs, z⟩
    · exact un.keep b o e z (by simp [frs]) (by simp)
    · have z2 := un.frzs b ob _ z
      have g1 := (hok b _ z).1
      have g2 := (hok' b _ z2).1
      rw [e] at g1
      cases g1
      exact g2
theorem law_code {fa a : Addr} {s1 : Shared} {vs : List Value} {ns : List Int} (inK : K.In s1.heap) (hns : s1.heap.Ns mainGlobals mg) (hb : s1.heap.Ns builtinsNs mb) (hbb : ∀ x : Str, x ≠ "__name__" → mb x = bootBuiltins x) (hlim : s1.heap.NoLimit) (hgen : s1.gens = #[])
    (ha : s1.heap.get? a = some { cls := .type "list", data := .seq vs.toArray }) (hi : PyProof.Rows.IntsAre vs ns) (hl : ns.length ≤ sizeLine) (hr : Room k callerA)
    (hD : ∀ base : Heap, K.In base → base.Ns mainGlobals mg → Df P w K mg base C "law" 1 k den) (hfa : mg "law" = some (.ref fa)) (hden : ∃ S', den [.fz (ns.map Dv.int)] [] = .ok (.bl true) S') :
    codeAny (model P w) callerA (.call (.ref fa) ⟨[.ref a], []⟩) (fun r s' => r = .ok (.ret (.bool true)) ∧ OldK s1.heap s'.heap ∧ s'.os = s1.os ∧ PyProof.Rows.AllBare s'.gens) s1 := by
  have rv := vals_ints hi
  have modOf : ∀ H : Hp, (∀ b, H b ≠ none → b = a) → (H a ≠ none → K.lookup a = none) → Mod K mg (hidT s1.heap H) := fun H hA hK => by
    have dict_free : ∀ {b : Addr} {o : Obj} {es : Array DictEntry} {ep : Nat}, s1.heap.get? b = some o → o.data = .dict es ep → H b = none := fun {b o es ep} e d => by
      by_cases hn : H b = none
      · exact hn
      · have eb := hA b hn
        subst eb
        rw [ha] at e
        cases e
        cases d
    have ns_at : ∀ {b : Addr} {m : Str → Option Value}, s1.heap.Ns b m → (hidT s1.heap H).Ns b m := fun {b m} z => by
      obtain ⟨o, es, ep, e, d, r⟩ := z
      exact ⟨o, es, ep, hidT_get e (dict_free e d), d, r⟩
    refine ⟨fun b o e => hidT_get (inK b o e) ?_, ns_at hns, ⟨mb, ns_at hb, hbb⟩, ?_⟩
    · by_cases hn : H b = none
      · exact hn
      · have eb := hA b hn
        subst eb
        rw [hK hn] at e
        cases e
    · obtain ⟨mc, g1, g2⟩ := hlim
      exact ⟨mc, ns_at g1, g2⟩
  cases hk : K.lookup a with
  | some o =>
    have e := inK a o hk
    rw [ha] at e
    cases e
    have M := modOf (fun _ => none) (fun b z => absurd rfl z) fun z => absurd rfl z
    refine law_at (H := fun _ => none) (vs := vs) hD hfa hr M.kin M (fun b u z => by cases z) hgen (.inr (.inl (.inr ⟨_, vs.toArray, _, hk, rfl, rfl, rfl, ?_, by simpa using rv⟩))) hden fun _ => .inl rfl
    have := hi.length
    rw [List.size_toArray]
    omega
  | none =>
    let H : Hp := fun b => if b = a then some (.frz { cls := .type "list", data := .seq vs.toArray } (.lst (ns.map V.int))) else none
    have hH : ∀ b, b ≠ a → H b = none := fun b hb => if_neg hb
    have hHa : H a = some (.frz { cls := .type "list", data := .seq vs.toArray } (.lst (ns.map V.int))) := if_pos rfl
    have M := modOf H (fun b z => by
      by_cases hb : b = a
      · exact hb
      · exact absurd (hH b hb) z) fun _ => hk
    refine law_at (H := H) (vs := vs) hD hfa hr M.kin M (fun b u z => ?_) hgen (.inl ⟨_, hHa⟩) hden fun b => ?_
    · by_cases hb : b = a
      · subst hb
        rw [hHa] at z
        cases z
        exact ⟨ha, by rw [List.length_map]; exact hl, vs, _, rv, ha⟩
      · rw [hH b hb] at z
        cases z
    · by_cases hb : b = a
      · subst hb
        exact .inr ⟨_, _, hHa⟩
      · exact .inl (hH b hb)
end
end Fc
set_option exponentiation.threshold 256
set_option maxHeartbeats 4000000
set_option maxHeartbeats 4000000
namespace Fc
open PySem L2
section
variable {X : Cx} {C : Nat → Addr} {W : WX} {k : Nat}
theorem Ctx.blk (c : Ctx X W k) {s : Shared} {H : Hp} {scope : Scope} {cenv : Env} {fp : List Addr} : Ctx (X.blk s H scope cenv fp) W0 k := ⟨c.calm, c.room, c.gd, takes0, PassesOwn.never, c.nd⟩
theorem Ctx.h64 (c : Ctx X W k) : X.A.units + 64 < cLine := by have := c.room.un; omega
theorem Ctx.h100 (c : Ctx X W k) : X.A.units + 100 < cLine := by have := c.room.un; omega
end
theorem gc_int {K : PySem.W.Frag} {mg : Str → Option Value} {x : Str} {i : Int} {t : Tok} (h : mg x = some (.int i t)) : GC K mg x (.int i) := ⟨_, .int i, h, ⟨t, rfl⟩, fun _ _ => VR_int.mpr rfl⟩
theorem gc_fr {K : PySem.W.Frag} {mg : Str → Option Value} {x : Str} {a : Addr} {i j : Int} {t u : Tok} {dd : Option Addr} {n : Nat} {sl : Array (Option Value)} (h : mg x = some (.ref a)) (hl : K.lookup a = some ⟨.type "tuple", dd, .seq #[.int i t, .int j u] n, sl⟩) :
    GC K mg x (.tup [.int i, .int j]) :=
  ⟨_, .ref a, h, rfl, fun H μ => VR_tup.mpr ⟨a, [.int i, .int j], rfl, .inr ⟨_, _, n, hl, rfl, rfl, by simp [sizeLine_eq], .cons ⟨t, rfl⟩ (.cons ⟨u, rfl⟩ .nil)⟩, VRs.ints (ns := [i, j]) |>.mpr rfl⟩⟩
structure XC (K : PySem.W.Frag) (mg : Str → Option Value) (x : Str) (a : Addr) : Prop where
  g : mg x = some (.ref a)
  k : PySem.W.keepIn K (.ref a) = true
  b : PySem.W.subIn K (.ref a) (.type "BaseException") = some true
  t : PySem.W.typeIn K (.ref a) = some (.type "type")
  q : PySem.W.excIn K a [.type "ValueError", .type "Exception", .type "BaseException", .type "object"] "ValueError.__new__" = true
end Fc
set_option exponentiation.threshold 256
set_option maxHeartbeats 4000000
set_option maxHeartbeats 4000000
namespace Fc
open PySem L2
section
variable {K : PySem.W.Frag} {C : Nat → Addr} {H : Hp} {μ : Mu} {S : Sto}
theorem KRs.look {f : Str} : ∀ {fs : List (Str × Dv)} {gs : List (Str × V)}, KRs K H μ fs gs → match fs.lookup f with
    | some d => ∃ v, gs.lookup f = some v ∧ VR K H μ d v
    | none => gs.lookup f = none
  | [], gs, h => by
    cases (show gs = [] from h)
    rfl
  | (g, d) :: fs, gs, h => by
    obtain ⟨v, t, rfl, h1, h2⟩ := h
    have ih := KRs.look (f := f) h2
    simp only [List.lookup_cons]
    cases f == g with
    | true => exact ⟨v, rfl, h1⟩
    | false => exact ih
theorem KRs.length {κ : Type} : ∀ {fs : List (κ × Dv)} {gs : List (κ × V)}, KRs K H μ fs gs → fs.length = gs.length
  | [], gs, h => by
    cases (show gs = [] from h)
    rfl
  | (g, d) :: fs, gs, h => by
    obtain ⟨v, t, rfl, h1, h2⟩ := h
    simp [KRs.length h2]
def putD (f : Str) (v : Dv) : List (Str × Dv) → List (Str × Dv)
  | [] => [(f, v)]
  | (g, x) :: r => if g = f then (g, v) :: r else (g, x) :: putD f v r
theorem KRs.put {f : Str} {d : Dv} {v : V} (hv : VR K H μ d v) : ∀ {fs : List (Str × Dv)} {gs : List (Str × V)}, KRs K H μ fs gs → KRs K H μ (putD f d fs) (putF f v gs)
  | [], gs, h => by
    cases (show gs = [] from h)
    exact ⟨v, [], rfl, hv, rfl⟩
  | (g, x) :: fs, gs, h => by
    obtain ⟨y, t, rfl, h1, h2⟩ := h
    simp only [putD, putF]
    by_cases e : g = f
    · rw [if_pos e, if_pos e]
      exact ⟨v, t, rfl, hv, h2⟩
    · rw [if_neg e, if_neg e]
      exact ⟨y, _, rfl, h1, KRs.put hv h2⟩
end
structure CF (K : PySem.W.Frag) (cs : List Nat) : Prop where
  cls : ∀ c ∈ cs, Cls K (clsA K c)
structure NF (K : PySem.W.Frag) (cs : List Nat) (f : Str) : Prop where
  no : ∀ c ∈ cs, NoAttr K (clsA K c) f
section
variable {X : Cx} {C : Nat → Addr} {W : WX} {j k n c : Nat} {cs : List Nat} {e o value : Expr} {es : List Expr} {fe fo fv : DE} {l : DL} {den : Den} {f m x : Str} {p pos pos' apos : Pos}
end
structure At (P : Program) (w : World) (K : PySem.W.Frag) (mg : Str → Option Value) (base : Heap) (C : Nat → Addr) (f : Addr) (n k : Nat) (den : Den) : Prop where
  ex : ∃ fd ps, Binds K fd ps [] ∧ ps.length = n ∧ FnG P w K mg base C k f fd ps den
section
variable {P : Program} {w : World} {K : PySem.W.Frag} {mg : Str → Option Value} {base : Heap} {C : Nat → Addr} {x : Str} {f : Addr} {n j k : Nat} {den den' : Den}
theorem At.mono (F : At P w K mg base C f n j den) (h : j ≤ k) : At P w K mg base C f n k den := by
  obtain ⟨fd, ps, h1, h2, h3⟩ := F.ex
  exact ⟨fd, ps, h1, h2, h3.mono h⟩
theorem At.imp (F : At P w K mg base C f n k den) (h : ∀ μ S ds (H : Hp) (W : WX) (Q : VK), SR K C μ S H → tR K C W (PV K) (den' ds S) μ [] H Q → tR K C W (PV K) (den ds S) μ [] H Q) : At P w K mg base C f n k den' := by
  obtain ⟨fd, ps, h3, h4, h5⟩ := F.ex
  refine ⟨fd, ps, h3, h4, ⟨fun A outer s H args us vs Q E hr hg he hb hv hs => h5.run A outer s H args us vs Q E hr hg he hb hv ?_⟩⟩
  obtain ⟨hl, μ, S, ds, sr, vr, q⟩ := hs
  exact ⟨hl, μ, S, ds, sr, vr, h μ S ds H _ Q sr q⟩
theorem At.tidy {m : Nat} {body : DS} (F : At P w K mg base C f n k (runB m body)) : At P w K mg base C f n k (runF m body) :=
  F.imp fun _ _ _ _ _ _ sr q => tidy_go sr q
end
structure Pr (P : Program) (w : World) (K : PySem.W.Frag) (mg : Str → Option Value) (base : Heap) (C : Nat → Addr) (c : Nat) (f : Str) (k : Nat) (den : Den) : Prop where
  ex : ∃ p g, Cls K (clsA K c) ∧ PropOf K (clsA K c) f p g ∧ At P w K mg base C g 1 k den
structure Md (P : Program) (w : World) (K : PySem.W.Frag) (mg : Str → Option Value) (base : Heap) (C : Nat → Addr) (c : Nat) (m : Str) (n k : Nat) (den : Den) : Prop where
  ex : ∃ g, Cls K (clsA K c) ∧ Meth K (clsA K c) m g ∧ At P w K mg base C g n k den
structure Nw (P : Program) (w : World) (K : PySem.W.Frag) (mg : Str → Option Value) (base : Heap) (C : Nat → Addr) (c n k : Nat) (den : Den) : Prop where
  ex : ∃ g, Mk K (clsA K c) g ∧ mg (clsNm c) = some (.ref (clsA K c)) ∧ At P w K mg base C g n k den
section
variable {X : Cx} {C : Nat → Addr} {W : WX} {j k n c : Nat} {cs : List Nat} {tab : List (Nat × Den)} {e o value : Expr} {es : List Expr} {fe fo fv : DE} {l : DL} {den : Den} {f m x : Str} {p pos pos' apos : Pos}
end
end Fc
set_option exponentiation.threshold 256
set_option maxHeartbeats 4000000
set_option maxHeartbeats 4000000
namespace Fc
open PySem L2
def excNm : Nat → Str
  | 0 => "SidesError" | 1 => "ThrowsError" | 2 => "ChancesError" | 3 => "OutcomeError" | 4 => "TableError" | 5 => "WordError" | 6 => "SidesDifferError" | 7 => "SideError" | 8 => "DecidedError" | 9 => "NothingThrownError" | 10 => "TextError" | 11 => "ChoiceError" | _ => "ValueError"
def excA (K : PySem.W.Frag) (n : Nat) : Addr := He.ga K (excNm n)
def mA (x m : Str) (K : PySem.W.Frag) : Addr := He.ma K (He.ga K x) m
def gA (x : Str) (K : PySem.W.Frag) : Addr := He.ga K x
abbrev FaX := PySem.W.Frag → Bool
def faA (f : He.Fa) : FaX := fun K => f.ok K
def faTup (x : Str) (i j : Int) : FaX := fun K => match PySem.W.nsIn K mainGlobals x with
  | some (some (.ref a)) => (match K.lookup a with
    | some ⟨.type c, _, .seq its _, _⟩ => decide (c = "tuple") && (match its.toList with
      | [.int k _, .int l _] => decide (k = i) && decide (l = j)
      | _ => false)
    | _ => false)
  | _ => false
theorem tup_ok {K : PySem.W.Frag} {h : Heap} {mg : Str → Option Value} (X : K.In h) (G : h.Ns mainGlobals mg) {x : Str} {i j : Int} (c : faTup x i j K = true) : GC K mg x (.tup [.int i, .int j]) := by
  unfold faTup at c
  split at c
  · rename_i a e1
    split at c
    · rename_i cl dd its n sl e2
      obtain ⟨h1, h2⟩ := He.ba c
      have h1 := of_decide_eq_true h1
      subst h1
      split at h2
      · rename_i k t l u e3
        obtain ⟨h3, h4⟩ := He.ba h2
        have h3 := of_decide_eq_true h3
        have h4 := of_decide_eq_true h4
        subst h3 h4
        have e4 : its = #[.int k t, .int l u] := by
          apply Array.toList_inj.mp
          rw [e3]
        subst e4
        exact gc_fr (PySem.W.mg_of X G e1) e2
      · cases h2
    · cases c
  · cases c
theorem int_ok' {K : PySem.W.Frag} {h : Heap} {mg : Str → Option Value} (X : K.In h) (G : h.Ns mainGlobals mg) {x : Str} {i : Int} (c : faA (.int x i) K = true) : GC K mg x (.int i) := by
  obtain ⟨t, e⟩ := He.int_ok X G c
  exact gc_int e
structure DfX where
  at_ : PySem.W.Frag → Addr
  name : Str
  qual : Str
  st : Stmt
def DfX.val (d : DfX) : He.FnV := some (d.name, d.qual, defArgs d.st, .stmts (defBody d.st), defScope d.st, mainGlobals, [], .none, builtinsNs)
def DfX.look (K : PySem.W.Frag) (d : DfX) : He.FnV := match K.lookup (d.at_ K) with
  | some ⟨_, _, .func fd, _⟩ => some (fd.name, fd.qualname, fd.params, fd.body, fd.scope, fd.globals, fd.closure, fd.defaults, fd.builtins)
  | _ => none
def DfX.ok (K : PySem.W.Frag) (d : DfX) : Bool := PySem.W.keepIn K (.ref (d.at_ K)) && (match K.lookup (d.at_ K) with
  | some ⟨_, _, .func fd, _⟩ => PySem.W.codeIn K fd.code d.qual
  | _ => false)
theorem DfX.fun_ {K : PySem.W.Frag} {d : DfX} (e : d.look K = d.val) (c : d.ok K = true) : ∃ fd, Fun K d.name d.qual d.st (d.at_ K) fd := by
  obtain ⟨kp, c2⟩ := He.ba c
  unfold DfX.look at e
  cases q : K.lookup (d.at_ K) with
  | none =>
    rw [q] at c2
    cases c2
  | some o =>
    obtain ⟨oc, od, dt, osl⟩ := o
    rw [q] at c2 e
    cases dt with
    | func fd =>
      obtain ⟨n1, n2, n3, n4, n5, n6, n7, n8, n9, n10, n11, n12, n13, n14, n15⟩ := fd
      have e2 : (some (n1, n2, n3, n4, n5, n6, n7, n8, n15) : He.FnV) = some (d.name, d.qual, defArgs d.st, .stmts (defBody d.st), defScope d.st, mainGlobals, [], .none, builtinsNs) := e
      simp only [Option.some.injEq, Prod.mk.injEq] at e2
      obtain ⟨h1, h2, h3, h4, h5, h6, h7, h8, h9⟩ := e2
      subst h1 h2 h3 h4 h5 h6 h7 h8 h9
      exact ⟨_, ⟨oc, od, n9, n10, n11, n12, n13, n14, osl, rfl, q, c2⟩, kp⟩
    | _ => cases c2
abbrev AlX : Type := Bool × List He.FnV
def obsX (fa : List FaX) (fn : List DfX) (K : PySem.W.Frag) : AlX := ((fa.all fun f => f K) && fn.all fun d => d.ok K, fn.map fun d => d.look K)
def valX (fn : List DfX) : AlX := (true, fn.map DfX.val)
def SaysX (fa : List FaX) (fn : List DfX) (K : PySem.W.Frag) : Prop := obsX fa fn K = valX fn
def refsX (o : Obj) : List Addr := He.refsO o ++ (match o.dict with
  | some d => [d]
  | none => [])
def addX (p : Nat × List Addr) (a : Addr) : Nat × List Addr := match Nat.beq (Nat.mod (Nat.shiftRight p.1 a) 2) 1 with
  | true => p
  | false => HandSHeadRun.frNat (Nat.lor p.1 (Nat.shiftLeft 1 a)) fun b => (b, a :: p.2)
def addsX : List Addr → Nat × List Addr → Nat × List Addr
  | [], p => p
  | a :: as, p => addsX as (addX p a)
def nextX (g : Addr → Option Obj) : List Addr → Nat × List Addr → Nat × List Addr
  | [], p => p
  | a :: as, p => nextX g as (match g a with
    | some o => addsX (refsX o) p
    | none => p)
def growX (g : Addr → Option Obj) : Nat → Nat → List Addr → List Addr → List Addr
  | 0, _, all, _ => all
  | n + 1, seen, all, last => match nextX g last (seen, []) with
    | (seen', new) => growX g n seen' (new ++ all) new
def asX (g : Addr → Option Obj) (n : Nat) : List Addr := growX g n (Nat.shiftLeft 1 mainGlobals) [mainGlobals] [mainGlobals]
def obsXG (n : Nat) (fa : List FaX) (fn : List DfX) (g : Addr → Option Obj) : AlX := obsX fa fn (He.frG g (asX g n))
def hookX (n : Nat) (fa : List FaX) (fn : List DfX) : PySem.W.Hook where
  α := AlX
  obs := fun s => obsXG n fa fn s.heap.get?
  val := fun _ => valX fn
  says := fun _ h => ∃ K : PySem.W.Frag, K.In h ∧ SaysX fa fn K
  of := fun _ _ e => ⟨_, He.frG_in, e⟩
  keeps := fun _ _ _ ⟨K, hK, c⟩ k => ⟨K, PySem.W.Frag.In.keeps hK k, c⟩
theorem obsXG_eq {n : Nat} {fa : List FaX} {fn : List DfX} {g : Addr → Option Obj} {s : Shared} (h : ∀ a, g a = s.heap.get? a) : obsXG n fa fn g = (hookX n fa fn).obs s := by
  have e : g = s.heap.get? := funext h
  rw [e] <;> rfl
section
variable {fa : List FaX} {fn : List DfX} {K : PySem.W.Frag}
theorem SaysX.fact (c : SaysX fa fn K) (i : Nat) {f : FaX} (h : fa[i]? = some f := by rfl) : f K = true := by
  have c1 := (He.ba (show ((fa.all fun f => f K) && fn.all fun d => d.ok K) = true from congrArg (fun z : AlX => z.1) c)).1
  exact List.all_eq_true.mp c1 f (List.mem_of_getElem? h)
theorem SaysX.def_ (c : SaysX fa fn K) (i : Nat) {d : DfX} (h : fn[i]? = some d := by rfl) : ∃ fd, Fun K d.name d.qual d.st (d.at_ K) fd := by
  have c2 := (He.ba (show ((fa.all fun f => f K) && fn.all fun d => d.ok K) = true from congrArg (fun z : AlX => z.1) c)).2
  have e : fn.map (fun d => d.look K) = fn.map DfX.val := congrArg (fun z : AlX => z.2) c
  have e2 : (fn.map fun d => d.look K)[i]? = (fn.map DfX.val)[i]? := by rw [e]
  rw [List.getElem?_map, List.getElem?_map, h] at e2
  exact DfX.fun_ (Option.some.inj e2) (List.all_eq_true.mp c2 d (List.mem_of_getElem? h))
end
theorem walk_denX {l : PySem.W.OpenLaw} {q : Program} {loose : List Str} {XP : (Str → Option Value) → Heap → Prop} {d : DefRec} {k n : Nat} {den : Den} {fa : List FaX} {fn : List DfX}
    (hn : l.most = some 63) (hdf : d.params.defaults = []) (hname : d.name = "law") (hr : Room k callerA)
    (F : ∀ (w : World) (mg : Str → Option Value) (h : Heap) (K : PySem.W.Frag), K.In h → h.Ns mainGlobals mg → SaysX fa fn K → ∃ C, ∀ base : Heap, K.In base → base.Ns mainGlobals mg → Df l.prog w K mg base C "law" 1 k den)
    (hden : Says den) : PySem.W.WalkO q loose XP (hookX n fa fn).says l.row.toRowW d [] (fun f vs => PySem.call f vs) := by
  refine Att.attach_callB hn hdf fun w s0 s1 mg mb fa' o pm cd doc a vs ns G Y ho hd hcd hmg hobj hints hlen hbits hg => ?_
  obtain ⟨K, inK, sx⟩ := Y
  obtain ⟨C, hD⟩ := F w mg _ K inK G.T.g sx
  rw [hname] at hmg
  exact law_code inK G.T.g G.T.b G.T.builtins G.T.nolimit hg hobj hints (Nat.le_trans hlen (by decide)) hr hD hmg (hden ns hlen fun n hn => Nat.le_trans (log2_bits n) (hbits n hn))
end Fc
set_option exponentiation.threshold 256
set_option maxHeartbeats 4000000
set_option maxHeartbeats 4000000
namespace Fc
open PySem L2 StX
structure AtS (P : Program) (w : World) (K : PySem.W.Frag) (mg : Str → Option Value) (base : Heap) (C : Nat → Addr) (f : Addr) (k : Nat) (den : Den) : Prop where
  run : ∀ (A : Around) (outer : List Env) (s : Shared) (H : Hp) (us : List Value) (vs : List V) (Q : VK) (E : XK), Room k A → A.guards = some [] → Env0 P w K mg base A outer s H → Vals vs us →
    (∃ μ S ds, SR K C μ S H ∧ VRs K H μ ds vs ∧ tR K C (WEx E) (PV K) (den ds S) μ [] H Q) → codeAny (model P w) A (.call (.ref f) ⟨us, []⟩) (CR (L2.CX P w) outer P w H s Q E) s
structure MdS (P : Program) (w : World) (K : PySem.W.Frag) (mg : Str → Option Value) (base : Heap) (C : Nat → Addr) (c : Nat) (m : Str) (k : Nat) (den : Den) : Prop where
  ex : ∃ g, Cls K (clsA K c) ∧ Meth K (clsA K c) m g ∧ AtS P w K mg base C g k den
def starD (N : Nat) (body : DS) : Den := fun ds S => match ds with
  | d :: rest => if rest.length ≤ lim then runB N body [d, .tup rest] S else .stuck
  | [] => .stuck
noncomputable def starF (N : Nat) (body : DS) : Den := fun ds S => tidy S (starD N body ds S)
section
variable {P : Program} {w : World} {K : PySem.W.Frag} {mg : Str → Option Value} {base : Heap} {C : Nat → Addr} {x : Str} {f : Addr} {n j k : Nat} {den den' : Den}
theorem AtS.mono (F : AtS P w K mg base C f j den) (h : j ≤ k) : AtS P w K mg base C f k den := ⟨fun A outer s H us vs Q E hr => F.run A outer s H us vs Q E (hr.mono h)⟩
theorem AtS.tidy {N : Nat} {body : DS} (F : AtS P w K mg base C f k (starD N body)) : AtS P w K mg base C f k (starF N body) :=
  ⟨fun A outer s H us vs Q E hr hg e0 r ⟨μ, S, ds, sr, vr, q⟩ => F.run A outer s H us vs Q E hr hg e0 r ⟨μ, S, ds, sr, vr, tidy_go sr q⟩⟩
theorem Md.mono {c : Nat} {m : Str} (F : Md P w K mg base C c m n j den) (h : j ≤ k) : Md P w K mg base C c m n k den := by
  obtain ⟨g, h1, h2, h3⟩ := F.ex
  exact ⟨g, h1, h2, h3.mono h⟩
theorem MdS.mono {c : Nat} {m : Str} (F : MdS P w K mg base C c m j den) (h : j ≤ k) : MdS P w K mg base C c m k den := by
  obtain ⟨g, h1, h2, h3⟩ := F.ex
  exact ⟨g, h1, h2, h3.mono h⟩
theorem Pr.mono {c : Nat} {m : Str} (F : Pr P w K mg base C c m j den) (h : j ≤ k) : Pr P w K mg base C c m k den := by
  obtain ⟨p, g, h1, h2, h3⟩ := F.ex
  exact ⟨p, g, h1, h2, h3.mono h⟩
theorem Nw.mono {c : Nat} (F : Nw P w K mg base C c n j den) (h : j ≤ k) : Nw P w K mg base C c n k den := by
  obtain ⟨g, h1, h2, h3⟩ := F.ex
  exact ⟨g, h1, h2, h3.mono h⟩
end
section
variable {X : Cx} {C : Nat → Addr} {W : WX} {j k n c : Nat} {cs : List Nat} {tab : List (Nat × Den)} {e o value : Expr} {es : List Expr} {fe fo fv : DE} {l : DL} {den : Den} {f m x : Str} {p pos pos' apos : Pos}
end
end Fc
set_option exponentiation.threshold 256
set_option maxHeartbeats 4000000
set_option maxHeartbeats 4000000
namespace Fc
open PySem L2
def subX (c cl : Nat) : Bool := c == cl || cl == 11
def tryH : List (Nat × DS) → Nat → Ev → Sto → Res Out
  | [], c, ρ, S => .ok (.ex c ρ) S
  | (cl, f) :: r, c, ρ, S => if subX c cl then f ρ S else tryH r c ρ S
structure EM (K : PySem.W.Frag) (C : Nat → Addr) (cs : List Nat) (cl : Nat) : Prop where
  is : ∀ c ∈ cs, PySem.W.exmOne K (.ref (C c)) (.ref (C cl)) = some (subX c cl)
section
variable {X : Cx} {C : Nat → Addr} {W : WX} {k : Nat}
inductive HdS (X : Cx) (C : Nat → Addr) (W : WX) (cs : List Nat) : List ExceptHandler → List (Nat × DS) → Prop
  | nil : HdS X C W cs [] []
  | cons {x : Str} {cl : Nat} {f : DS} {b₀ : Stmt} {suite : List Stmt} {np pos' : Pos} {hds : List ExceptHandler} {l : List (Nat × DS)} (hx : X.mg x = some (.ref (C cl))) (he : EM X.K C cs cl)
      (hsu : ∀ (a : Addr) (pn : List (Addr × Obj)), SSs (X.suite a pn) C W (b₀ :: suite) f) (r : HdS X C W cs hds l) (hg : Gl X x := by rfl) (hdb : (x == ("__debug__" : Str)) = false := by decide) :
      HdS X C W cs (.ExceptHandler (some (.Name x np)) none (b₀ :: suite) pos' :: hds) ((cl, f) :: l)
def wishes (K : PySem.W.Frag) (C : Nat → Addr) (W : WX) : List (Nat × DS) → List (Value × (Addr → Value → Option Addr → TS))
  | [] => []
  | (cl, f) :: r => (.ref (C cl), fun _ _ _ => tS K C W f) :: wishes K C W r
theorem HdS.ok {cs : List Nat} : ∀ {hds : List ExceptHandler} {l : List (Nat × DS)}, HdS X C W cs hds l → HdsOk X hds (wishes X.K C W l)
  | _, _, .nil => .nil
  | _, _, .cons hx he hsu r hg hdb => .cons ⟨hg, hdb, .inl hx⟩ (fun a oe cls d pn _ _ => (hsu a ((a, oe) :: pn)).ps) r.ok
theorem HdS.many {cs : List Nat} {D : Ends} {c : Nat} (hc : c ∈ cs) {μ : Mu} {ρ : Ev} {S : Sto} {σ : L2.St} {H : Hp} (rl : Rl X.K C μ ρ S σ H) : ∀ {hds : List ExceptHandler} {l : List (Nat × DS)}, HdS X C W cs hds l → tSt X.K C W (tryH l c ρ S) μ H D → wMany X.K W D (wishes X.K C W l) (.ref (C c)) none σ H
  | _, _, .nil, q => q μ σ H Aft.refl rl
  | _, _, .cons (cl := cl) (f := f) (l := l) hx he hsu r hg hdb, q => by
    refine ⟨subX c cl, he.is c hc, fun hb a _ => ?_, fun hb => ?_⟩
    · simp only [tryH, hb, if_true] at q
      exact ⟨μ, ρ, S, rl, q⟩
    · simp only [tryH, hb, Bool.false_eq_true, if_false] at q
      exact HdS.many hc rl r q
end
end Fc
set_option exponentiation.threshold 256
set_option maxHeartbeats 4000000
set_option maxHeartbeats 4000000
namespace Fc
open PySem L2
inductive All2 (p : Nat → Prop) : List Nat → Prop
  | nil : All2 p []
  | cons {a : Nat} {l : List Nat} : p a → All2 p l → All2 p (a :: l)
theorem all_nil {p : Nat → Prop} : All2 p [] := .nil
theorem all_cons {p : Nat → Prop} {a : Nat} {l : List Nat} (h : p a) (r : All2 p l) : All2 p (a :: l) := .cons h r
end Fc
set_option maxHeartbeats 0
namespace Fc
open PySem L2
abbrev top (i : Nat) : Stmt := PySem.Challenge.pw_flipchoice_k01_chances_known.main.body.getD i (.Pass ⟨0, 0, 0, 0⟩)
abbrev D_law_no_chances : Stmt := top 26
abbrev D_is_integer : Stmt := top 3
abbrev D_greatest_divisor : Stmt := top 4
abbrev D_is_fraction : Stmt := top 6
abbrev D_ratio : Stmt := top 5
abbrev D_plus : Stmt := top 7
abbrev D_added : Stmt := top 8
abbrev D_common_bottom : Stmt := top 9
abbrev D_is_chances : Stmt := top 13
abbrev D_law_cell_at : Stmt := top 15
abbrev D_law_pen : Stmt := top 16
abbrev D_law_draw : Stmt := top 17
abbrev D_law_fraction : Stmt := top 20
abbrev D_law_chances : Stmt := top 24
abbrev D_law_pick : Stmt := top 18
abbrev D_law_odd : Stmt := top 25
abbrev D_law_near : Stmt := top 29
abbrev D_law_is_whole : Stmt := top 23
abbrev D_law_is_fraction : Stmt := top 27
abbrev D_law_add : Stmt := top 21
abbrev D_law_sum : Stmt := top 22
abbrev D_law_are_chances : Stmt := top 28
abbrev D_law_same : Stmt := top 19
abbrev D_law : Stmt := top 30
def dx_law_no_chances : DfX := ⟨gA "_law_no_chances", "_law_no_chances", "_law_no_chances", D_law_no_chances⟩
def dx_is_integer : DfX := ⟨gA "is_integer", "is_integer", "is_integer", D_is_integer⟩
def dx_greatest_divisor : DfX := ⟨gA "greatest_divisor", "greatest_divisor", "greatest_divisor", D_greatest_divisor⟩
def dx_is_fraction : DfX := ⟨gA "is_fraction", "is_fraction", "is_fraction", D_is_fraction⟩
def dx_ratio : DfX := ⟨gA "ratio", "ratio", "ratio", D_ratio⟩
def dx_plus : DfX := ⟨gA "plus", "plus", "plus", D_plus⟩
def dx_added : DfX := ⟨gA "added", "added", "added", D_added⟩
def dx_common_bottom : DfX := ⟨gA "common_bottom", "common_bottom", "common_bottom", D_common_bottom⟩
def dx_is_chances : DfX := ⟨gA "is_chances", "is_chances", "is_chances", D_is_chances⟩
def dx_law_cell_at : DfX := ⟨gA "_law_cell_at", "_law_cell_at", "_law_cell_at", D_law_cell_at⟩
def dx_law_pen : DfX := ⟨gA "_law_pen", "_law_pen", "_law_pen", D_law_pen⟩
def dx_law_draw : DfX := ⟨gA "_law_draw", "_law_draw", "_law_draw", D_law_draw⟩
def dx_law_fraction : DfX := ⟨gA "_law_fraction", "_law_fraction", "_law_fraction", D_law_fraction⟩
def dx_law_chances : DfX := ⟨gA "_law_chances", "_law_chances", "_law_chances", D_law_chances⟩
def dx_law_pick : DfX := ⟨gA "_law_pick", "_law_pick", "_law_pick", D_law_pick⟩
def dx_law_odd : DfX := ⟨gA "_law_odd", "_law_odd", "_law_odd", D_law_odd⟩
def dx_law_near : DfX := ⟨gA "_law_near", "_law_near", "_law_near", D_law_near⟩
def dx_law_is_whole : DfX := ⟨gA "_law_is_whole", "_law_is_whole", "_law_is_whole", D_law_is_whole⟩
def dx_law_is_fraction : DfX := ⟨gA "_law_is_fraction", "_law_is_fraction", "_law_is_fraction", D_law_is_fraction⟩
def dx_law_add : DfX := ⟨gA "_law_add", "_law_add", "_law_add", D_law_add⟩
def dx_law_sum : DfX := ⟨gA "_law_sum", "_law_sum", "_law_sum", D_law_sum⟩
def dx_law_are_chances : DfX := ⟨gA "_law_are_chances", "_law_are_chances", "_law_are_chances", D_law_are_chances⟩
def dx_law_same : DfX := ⟨gA "_law_same", "_law_same", "_law_same", D_law_same⟩
def dx_law : DfX := ⟨gA "law", "law", "law", D_law⟩
def fas : List FaX := [faA (.free "abs"), faA (.free "all"), faA (.free "bool"), faA (.free "int"), faA (.free "isinstance"), faA (.free "len"), faA (.free "list"), faA (.free "max"), faA (.free "min"), faA (.free "range"), faA (.free "repr"), faA (.free "sorted"), faA (.free "tuple"), faA (.free "zip"), faA (.int "MOST_BOTTOM" 30), faA (.int "MOST_OUTCOMES" 6), faTup "ONE" 1 1, faTup "ZERO" 0 1, faA (.glo "_law_no_chances"), faA (.glo "is_integer"), faA (.glo "greatest_divisor"), faA (.glo "is_fraction"), faA (.glo "ratio"), faA (.glo "plus"), faA (.glo "added"), faA (.glo "common_bottom"), faA (.glo "is_chances"), faA (.glo "_law_cell_at"), faA (.glo "_law_pen"), faA (.glo "_law_draw"), faA (.glo "_law_fraction"), faA (.glo "_law_chances"), faA (.glo "_law_pick"), faA (.glo "_law_odd"), faA (.glo "_law_near"), faA (.glo "_law_is_whole"), faA (.glo "_law_is_fraction"), faA (.glo "_law_add"), faA (.glo "_law_sum"), faA (.glo "_law_are_chances"), faA (.glo "_law_same"), faA (.glo "law")]
def fns : List DfX := [dx_law_no_chances, dx_is_integer, dx_greatest_divisor, dx_is_fraction, dx_ratio, dx_plus, dx_added, dx_common_bottom, dx_is_chances, dx_law_cell_at, dx_law_pen, dx_law_draw, dx_law_fraction, dx_law_chances, dx_law_pick, dx_law_odd, dx_law_near, dx_law_is_whole, dx_law_is_fraction, dx_law_add, dx_law_sum, dx_law_are_chances, dx_law_same, dx_law]
def nm0 : List PySem.Str := ["__name__", "ZERO", "ONE", "is_integer", "greatest_divisor", "ratio", "is_fraction", "plus", "added", "common_bottom", "MOST_OUTCOMES", "MOST_BOTTOM", "is_chances", "_law_cell_at", "_law_pen", "_law_draw", "_law_pick", "_law_same", "_law_fraction", "_law_add", "_law_sum", "_law_is_whole", "_law_chances", "_law_odd", "_law_no_chances"]
def nm1 : List PySem.Str := ["_law_is_fraction", "_law_are_chances", "_law_near"]
def nms : List PySem.Str := nm0 ++ nm1
abbrev Rw : PySem.W.OpenRow := PySem.W.OpenLaw.row PySem.Challenge.rw_flipchoice_k01_chances_known
abbrev qv : Program := PySem.W.view Rw.prog [30]
abbrev hkX : PySem.W.Hook := hookX 5 fas fns
def obX (s : PySem.W.SharedT) : AlX := obsXG 5 fas fns (HandSHeadRun.getT s)
theorem obX_eq (s : PySem.W.SharedT) : obX s = hkX.obs s.abs := obsXG_eq (HandSHeadRun.getT_eq s)
noncomputable abbrev endX (w : World) (os : OsState) := HandSHeadRun.endF (HandSHeadRun.stepQ (HandSHeadRun.denQ HandSHeadRun.tabQ) Rw.prog w) 40000 Rw.prog w os
theorem runX1 (w : World) (os : OsState) : (endX w os).map (fun s => (HandSHeadRun.looksF Rw.prog (PySem.W.boot_heap w.params) s.abs, HandSHeadRun.seenQ qv nms (PySem.importedModules Rw.prog.main.body) (fun s => PySem.W.xlAt qv [] s && PySem.W.recOk Rw.toRowW.records s) s.abs)) = some (true, PySem.W.openGood qv nms) := by
  kernel_rfl
theorem runX2 (w : World) (os : OsState) : (endX w os).map (fun s => obsXG 5 (fas.take (fas.length / 2)) (fns.take (fns.length / 2)) (HandSHeadRun.getT s)) = some (valX (fns.take (fns.length / 2))) := by
  kernel_rfl
theorem runX3 (w : World) (os : OsState) : (endX w os).map (fun s => obsXG 5 (fas.drop (fas.length / 2)) (fns.drop (fns.length / 2)) (HandSHeadRun.getT s)) = some (valX (fns.drop (fns.length / 2))) := by
  kernel_rfl
theorem obs_join {n a b : Nat} {fa : List FaX} {fn : List DfX} {g : Addr → Option Obj} (h1 : obsXG n (fa.take a) (fn.take b) g = valX (fn.take b)) (h2 : obsXG n (fa.drop a) (fn.drop b) g = valX (fn.drop b)) : obsXG n fa fn g = valX fn := by
  unfold obsXG obsX valX at *
  simp only [Prod.mk.injEq, Bool.and_eq_true] at h1 h2
  have e1 := List.take_append_drop a fa
  have e2 := List.take_append_drop b fn
  generalize fa.take a = a1 at *
  generalize fa.drop a = a2 at *
  generalize fn.take b = b1 at *
  generalize fn.drop b = b2 at *
  subst e1
  subst e2
  rw [List.all_append, List.all_append, List.map_append, List.map_append, h1.1.1, h1.1.2, h1.2, h2.1.1, h2.1.2, h2.2]
  rfl
theorem join4 {α β γ δ ε ζ : Type} (x : Option α) {f : α → β} {g : α → γ} {h : α → δ} {o1 : α → ε} {o2 : α → ζ} {a : β} {b : γ} {c : δ} {v1 : ε} {v2 : ζ} (hj : ∀ s, o1 s = v1 → o2 s = v2 → h s = c) (h1 : x.map (fun s => (f s, g s)) = some (a, b)) (h2 : x.map o1 = some v1) (h3 : x.map o2 = some v2) : x.map (fun s => (f s, g s, h s)) = some (a, b, c) := by
  cases x with
  | none => cases h1
  | some s =>
    have q1 : some (f s, g s) = some (a, b) := h1
    have q2 : some (o1 s) = some v1 := h2
    have q3 : some (o2 s) = some v2 := h3
    injection q1 with q1
    injection q1 with q4 q5
    injection q2 with q2
    injection q3 with q3
    show some (f s, g s, h s) = some (a, b, c)
    rw [q4, q5, hj s q2 q3]
theorem runX (w : World) : HandSHeadRun.RunEq Rw qv hkX obX 40000 nms w := fun os => join4 _ (fun s q1 q2 => obs_join q1 q2) (runX1 w os) (runX2 w os) (runX3 w os)
end Fc
set_option exponentiation.threshold 256
set_option maxHeartbeats 4000000
set_option maxHeartbeats 4000000
namespace Fc
open PySem L2 RZ PySem.Spec PyProof.Rows
def ZSq (p : Bool) (h : Heap) (l : Addr) (xs : Array Value) : Prop := if p then h.IsTuple l xs else h.IsList l xs
def ZIt (p : Bool) (h : Heap) (a l : Addr) (i : Nat) : Prop := if p then h.IsTupleIter a l i else h.IsListIter a l i
theorem ZSq.extBut {p : Bool} {h h' : Heap} {a b xs} (x : ZSq p h a xs) (hs : Heap.ExtBut b h h') (hab : a ≠ b) : ZSq p h' a xs := by
  cases p
  · exact Heap.IsList.extBut x hs hab
  · exact Heap.IsTuple.extBut x hs hab
theorem ZIt.extBut {p : Bool} {h h' : Heap} {a b t i} (x : ZIt p h a t i) (hs : Heap.ExtBut b h h') (hab : a ≠ b) : ZIt p h' a t i := by
  cases p
  · exact Heap.IsListIter.extBut x hs hab
  · exact Heap.IsTupleIter.extBut x hs hab
theorem ZIt.at {p : Bool} {h h' : Heap} {a t i} (x : ZIt p h a t i) (e : ∀ o, h.get? a = some o → h'.get? a = some o) : ZIt p h' a t i := by
  cases p
  · exact Heap.IsListIter.at x e
  · exact Heap.IsTupleIter.at x e
theorem ZIt.obj {p : Bool} {h : Heap} {a t i} (x : ZIt p h a t i) : ∃ o, h.get? a = some o ∧ o.data = .fields #[.ref t, .int i 0] := by
  cases p
  · obtain ⟨o, e, _, d⟩ := x; exact ⟨o, e, d⟩
  · obtain ⟨o, e, _, d⟩ := x; exact ⟨o, e, d⟩
theorem ZIt.lt {p : Bool} {h : Heap} {a t i} (x : ZIt p h a t i) : a < h.objs.size := by
  obtain ⟨o, e, _⟩ := x.obj
  exact Heap.lt_size e
section
variable {prog : Program} {w : World} {A : Around} {E : Value → Shared → Prop} {s : Shared} {p q : Bool}
theorem zit_item {it l : Addr} {i : Nat} {items} {x : Value} {Q : Value → Shared → Prop} (hit : ZIt p s.heap it l i)
    (hl : ZSq p s.heap l items) (hx : items[i]? = some x) (hQ : ∀ h', ZIt p h' it l (i + 1) → Heap.SameBut it s.heap h' → Q x { s with heap := h' }) :
    wpAny (model prog w) A (Builtin.SmallTypes.nextOf (.ref it)) Q E s := by
  cases p
  · exact wpAny_nextOf_list_item hit hl hx hQ
  · exact nextOf_tuple_item hit hl hx hQ
theorem zit_end {it l : Addr} {i : Nat} {items} {Q : Value → Shared → Prop} (hh : A.handled = none) (hit : ZIt p s.heap it l i) (hl : ZSq p s.heap l items) (hx : items[i]? = none)
    (hE : ∀ h' e, Heap.ExtBut it s.heap h' → (∃ o, h'.get? e = some o ∧ o.cls = .type "StopIteration") → E (.ref e) { s with heap := h' }) : wpAny (model prog w) A (Builtin.SmallTypes.nextOf (.ref it)) Q E s := by
  cases p
  · exact wpAny_nextOf_list_end hh hit hl hx hE
  · exact nextOf_tuple_end hh hit hl hx hE
theorem zm_next_item {zz ti to j1 j2 m1 m2 : Addr} {n1 n2 : Nat} {us ws : Array Value} {x y a b : Value} {Q : Value → Shared → Prop} (dd : ZipApart zz ti to j1 j2 m1 m2)
    (gz : IsZip s.heap zz ti to .none) (gti : IsPair s.heap ti (.ref j1) (.ref j2)) (gto : IsPair s.heap to a b)
    (g1 : ZIt p s.heap j1 m1 n1) (g2 : ZIt q s.heap j2 m2 n2) (gl1 : ZSq p s.heap m1 us) (gl2 : ZSq q s.heap m2 ws) (gx : us[n1]? = some x) (gy : ws[n2]? = some y)
    (gQ : ∀ h', IsZip h' zz ti to (rawInt s.heap.objs.size) → IsPair h' to x y → ZIt p h' j1 m1 (n1 + 1) → ZIt q h' j2 m2 (n2 + 1) → IsPair h' s.heap.objs.size x y → h'.objs.size = s.heap.objs.size + 1 →
      (∀ c o, c ≠ zz → c ≠ to → c ≠ j1 → c ≠ j2 → s.heap.get? c = some o → h'.get? c = some o) → Q (.ref s.heap.objs.size) { s with heap := h' }) :
    wpAny (model prog w) A (Builtin.«zip.__next__» ⟨[.ref zz], []⟩) (fun fin s' => ∃ v, fin = .done (.ret v) ∧ Q v s') E s := by
  show wpAny _ _ (field (.ref zz) 2 >>= _) _ _ _
  refine wpAny_bind (wpAny_field gz rfl (x := .bool false) rfl ?_)
  show wpAny _ _ (field (.ref zz) 3 >>= _) _ _ _
  refine wpAny_bind (wpAny_field gz rfl (x := .ref ti) rfl ?_)
  refine wpAny_bind (wpAny_seqItems gti rfl ?_)
  show wpAny _ _ (Builtin.SmallTypes.ownedTupleIsFree (.ref zz) >>= _) _ _ _
  refine wpAny_bind ?_
  unfold Builtin.SmallTypes.ownedTupleIsFree
  refine wpAny_bind (wpAny_field gz rfl (x := .none) rfl (wpAny_pure ?_))
  simp only [if_true]
  refine wpAny_bind (wpAny_rule ?_)
  refine wpAny_bind (wpAny_field gz rfl (x := .ref to) rfl ?_)
  refine wpAny_bind (wpAny_setField_rec gz (by simp) fun h₁ gz₁ hs₁ => ?_)
  replace gz₁ : IsZip h₁ zz ti to .ellipsis := gz₁
  refine wpAny_bind ?_
  simp only [List.zipIdx_cons, List.zipIdx_nil, List.forIn_cons, List.forIn_nil]
  refine wpAny_bind (wpAny_bind (wpAny_onRaise ?_))
  show wpAny _ _ (Builtin.SmallTypes.nextOf (.ref j1) >>= _) _ _ _
  refine wpAny_bind (zit_item (g1.extBut hs₁.extBut dd.i1z) (gl1.extBut hs₁.extBut dd.l1z) gx fun h₂ g1₂ hs₂ => wpAny_pure ?_)
  have gto₂ : IsPair h₂ to a b := hs₂.extBut _ _ dd.TOi1 (hs₁.extBut _ _ dd.TOz gto)
  refine wpAny_bind (wpAny_seqItems gto₂ rfl ?_)
  refine wpAny_bind (wpAny_updateSeq_pair gto₂ fun h₃ gto₃ hs₃ => ?_)
  replace gto₃ : IsPair h₃ to x b := gto₃
  refine wpAny_bind (wpAny_letGo (wpAny_pure ?_))
  refine wpAny_bind (wpAny_bind (wpAny_onRaise ?_))
  show wpAny _ _ (Builtin.SmallTypes.nextOf (.ref j2) >>= _) _ _ _
  refine wpAny_bind (zit_item (((g2.extBut hs₁.extBut dd.i2z).extBut hs₂.extBut dd.i12.symm).extBut hs₃.extBut dd.TOi2.symm)
    (((gl2.extBut hs₁.extBut dd.l2z).extBut hs₂.extBut dd.l2i1).extBut hs₃.extBut dd.l2TO) gy fun h₄ g2₄ hs₄ => wpAny_pure ?_)
  have gto₄ : IsPair h₄ to x b := hs₄.extBut _ _ dd.TOi2 gto₃
  refine wpAny_bind (wpAny_seqItems gto₄ rfl ?_)
  refine wpAny_bind (wpAny_updateSeq_pair gto₄ fun h₅ gto₅ hs₅ => ?_)
  replace gto₅ : IsPair h₅ to x y := gto₅
  refine wpAny_bind (wpAny_letGo (wpAny_pure (wpAny_pure ?_)))
  refine wpAny_bind (wpAny_seqItems gto₅ rfl ?_)
  refine wpAny_bind (wpAny_newTuple ?_)
  have hsz : h₅.objs.size = s.heap.objs.size := by rw [hs₅.1, hs₄.1, hs₃.1, hs₂.1, hs₁.1]
  have gz₅ : IsZip h₅ zz ti to .ellipsis := hs₅.extBut _ _ dd.TOz.symm (hs₄.extBut _ _ dd.i2z.symm (hs₃.extBut _ _ dd.TOz.symm (hs₂.extBut _ _ dd.i1z.symm gz₁)))
  have hk₅ : ∀ c o, c ≠ zz → c ≠ to → c ≠ j1 → c ≠ j2 → s.heap.get? c = some o → h₅.get? c = some o := fun c o c1 c2 c3 c4 e =>
    hs₅.extBut _ _ c2 (hs₄.extBut _ _ c4 (hs₃.extBut _ _ c2 (hs₂.extBut _ _ c3 (hs₁.extBut _ _ c1 e))))
  have g1₅ : ZIt p h₅ j1 m1 (n1 + 1) := ((g1₂.extBut hs₃.extBut dd.TOi1.symm).extBut hs₄.extBut dd.i12).extBut hs₅.extBut dd.TOi1.symm
  have g2₅ : ZIt q h₅ j2 m2 (n2 + 1) := g2₄.extBut hs₅.extBut dd.TOi2.symm
  have hzlt : zz < h₅.objs.size := Heap.lt_size gz₅
  have hTOlt : to < h₅.objs.size := Heap.lt_size gto₅
  have hi1lt : j1 < h₅.objs.size := by exact g1₅.lt
  have hi2lt : j2 < h₅.objs.size := by exact g2₅.lt
  show wpAny _ _ (Builtin.SmallTypes.ownedTupleHandOut (.ref zz) (.ref h₅.objs.size) >>= _) _ _ _
  refine wpAny_bind ?_
  unfold Builtin.SmallTypes.ownedTupleHandOut
  have gz₆ : IsZip (h₅.push { cls := .type "tuple", data := .seq #[x, y] }) zz ti to .ellipsis := Heap.get?_push_of_some _ gz₅
  refine wpAny_bind (wpAny_setField_rec gz₆ (by simp) fun h₇ gz₇ hs₇ => ?_)
  replace gz₇ : IsZip h₇ zz ti to (rawInt h₅.objs.size) := gz₇
  refine wpAny_setField_rec gz₇ (by simp) fun h₈ gz₈ hs₈ => ?_
  replace gz₈ : IsZip h₈ zz ti to (rawInt h₅.objs.size) := gz₈
  have up : ∀ c o, c ≠ zz → h₅.get? c = some o → h₈.get? c = some o := fun c o c1 e => hs₈.extBut _ _ c1 (hs₇.extBut _ _ c1 (Heap.get?_push_of_some _ e))
  have hT₈ : IsPair h₈ h₅.objs.size x y := hs₈.extBut _ _ (Nat.ne_of_gt hzlt) (hs₇.extBut _ _ (Nat.ne_of_gt hzlt) (Heap.get?_push_size _ rfl))
  have hz8 : h₈.objs.size = h₅.objs.size + 1 := by rw [hs₈.1, hs₇.1, Heap.size_push]
  rw [hsz] at gz₈ hT₈ hz8
  refine wpAny_pure ⟨_, rfl, ?_⟩
  show Q (.ref h₅.objs.size) _
  rw [hsz]
  exact gQ h₈ gz₈ (up _ _ dd.TOz gto₅) (g1₅.at fun o e => up _ o dd.i1z e) (g2₅.at fun o e => up _ o dd.i2z e) hT₈ hz8 fun c o c1 c2 c3 c4 e => up c o c1 (hk₅ c o c1 c2 c3 c4 e)
theorem zm_next_end {zz ti to j1 j2 m1 m2 : Addr} {n1 n2 : Nat} {us ws : Array Value} {a b : Value} {Q : Fin → Shared → Prop} (gh : A.handled = none) (dd : ZipApart zz ti to j1 j2 m1 m2)
    (gz : IsZip s.heap zz ti to .none) (gti : IsPair s.heap ti (.ref j1) (.ref j2)) (gto : IsPair s.heap to a b)
    (g1 : ZIt p s.heap j1 m1 n1) (g2 : ZIt q s.heap j2 m2 n2) (gl1 : ZSq p s.heap m1 us) (gl2 : ZSq q s.heap m2 ws) (gend : us[n1]? = none ∨ ws[n2]? = none)
    (gE : ∀ h' e, (∀ c o, c ≠ zz → c ≠ to → c ≠ j1 → c ≠ j2 → s.heap.get? c = some o → h'.get? c = some o) → (∃ o, h'.get? e = some o ∧ o.cls = .type "StopIteration") → E (.ref e) { s with heap := h' }) :
    wpAny (model prog w) A (Builtin.«zip.__next__» ⟨[.ref zz], []⟩) Q E s := by
  show wpAny _ _ (field (.ref zz) 2 >>= _) _ _ _
  refine wpAny_bind (wpAny_field gz rfl (x := .bool false) rfl ?_)
  show wpAny _ _ (field (.ref zz) 3 >>= _) _ _ _
  refine wpAny_bind (wpAny_field gz rfl (x := .ref ti) rfl ?_)
  refine wpAny_bind (wpAny_seqItems gti rfl ?_)
  show wpAny _ _ (Builtin.SmallTypes.ownedTupleIsFree (.ref zz) >>= _) _ _ _
  refine wpAny_bind ?_
  unfold Builtin.SmallTypes.ownedTupleIsFree
  refine wpAny_bind (wpAny_field gz rfl (x := .none) rfl (wpAny_pure ?_))
  simp only [if_true]
  refine wpAny_bind (wpAny_rule ?_)
  refine wpAny_bind (wpAny_field gz rfl (x := .ref to) rfl ?_)
  refine wpAny_bind (wpAny_setField_rec gz (by simp) fun h₁ gz₁ hs₁ => ?_)
  replace gz₁ : IsZip h₁ zz ti to .ellipsis := gz₁
  refine wpAny_bind ?_
  simp only [List.zipIdx_cons, List.zipIdx_nil, List.forIn_cons, List.forIn_nil]
  refine wpAny_bind (wpAny_bind (wpAny_onRaise ?_))
  show wpAny _ _ (Builtin.SmallTypes.nextOf (.ref j1) >>= _) _ _ _
  cases gx : us[n1]? with
  | none =>
    refine wpAny_bind (zit_end gh (g1.extBut hs₁.extBut dd.i1z) (gl1.extBut hs₁.extBut dd.l1z) gx fun h₂ e hs₂ he => ?_)
    obtain ⟨oe, hoe, hce⟩ := he
    have gz₂ : IsZip h₂ zz ti to .ellipsis := hs₂ _ _ dd.i1z.symm gz₁
    have hez : e ≠ zz := fun x => by subst x; rw [gz₂] at hoe; cases hoe; simp at hce
    refine wpAny_setField_rec gz₂ (by simp) fun h₃ _ hs₃ => gE h₃ e (fun c o c1 _ c3 _ x => hs₃.extBut _ _ c1 (hs₂ _ _ c3 (hs₁.extBut _ _ c1 x))) ⟨oe, hs₃.extBut _ _ hez hoe, hce⟩
  | some x =>
    have gy : ws[n2]? = none := by rcases gend with h | h; rw [gx] at h; cases h; exact h
    refine wpAny_bind (zit_item (g1.extBut hs₁.extBut dd.i1z) (gl1.extBut hs₁.extBut dd.l1z) gx fun h₂ g1₂ hs₂ => wpAny_pure ?_)
    have gto₂ : IsPair h₂ to a b := hs₂.extBut _ _ dd.TOi1 (hs₁.extBut _ _ dd.TOz gto)
    refine wpAny_bind (wpAny_seqItems gto₂ rfl ?_)
    refine wpAny_bind (wpAny_updateSeq_pair gto₂ fun h₃ gto₃ hs₃ => ?_)
    refine wpAny_bind (wpAny_letGo (wpAny_pure ?_))
    refine wpAny_bind (wpAny_bind (wpAny_onRaise ?_))
    show wpAny _ _ (Builtin.SmallTypes.nextOf (.ref j2) >>= _) _ _ _
    refine wpAny_bind (zit_end gh (((g2.extBut hs₁.extBut dd.i2z).extBut hs₂.extBut dd.i12.symm).extBut hs₃.extBut dd.TOi2.symm)
      (((gl2.extBut hs₁.extBut dd.l2z).extBut hs₂.extBut dd.l2i1).extBut hs₃.extBut dd.l2TO) gy fun h₄ e hs₄ he => ?_)
    obtain ⟨oe, hoe, hce⟩ := he
    have gz₄ : IsZip h₄ zz ti to .ellipsis := hs₄ _ _ dd.i2z.symm (hs₃.extBut _ _ dd.TOz.symm (hs₂.extBut _ _ dd.i1z.symm gz₁))
    have hez : e ≠ zz := fun x => by subst x; rw [gz₄] at hoe; cases hoe; simp at hce
    refine wpAny_setField_rec gz₄ (by simp) fun h₅ _ hs₅ => gE h₅ e (fun c o c1 c2 c3 c4 x => hs₅.extBut _ _ c1 (hs₄ _ _ c4 (hs₃.extBut _ _ c2 (hs₂.extBut _ _ c3 (hs₁.extBut _ _ c1 x))))) ⟨oe, hs₅.extBut _ _ hez hoe, hce⟩
theorem zm_py_item {zz ti to j1 j2 m1 m2 : Addr} {n1 n2 : Nat} {us ws : Array Value} {x y a b : Value} {Q : Option Value → Shared → Prop} (dd : ZipApart zz ti to j1 j2 m1 m2)
    (gz : IsZip s.heap zz ti to .none) (gti : IsPair s.heap ti (.ref j1) (.ref j2)) (gto : IsPair s.heap to a b)
    (g1 : ZIt p s.heap j1 m1 n1) (g2 : ZIt q s.heap j2 m2 n2) (gl1 : ZSq p s.heap m1 us) (gl2 : ZSq q s.heap m2 ws) (gx : us[n1]? = some x) (gy : ws[n2]? = some y)
    (gQ : ∀ h', IsZip h' zz ti to (rawInt s.heap.objs.size) → IsPair h' to x y → ZIt p h' j1 m1 (n1 + 1) → ZIt q h' j2 m2 (n2 + 1) → IsPair h' s.heap.objs.size x y → h'.objs.size = s.heap.objs.size + 1 →
      (∀ c o, c ≠ zz → c ≠ to → c ≠ j1 → c ≠ j2 → s.heap.get? c = some o → h'.get? c = some o) → Q (some (.ref s.heap.objs.size)) { s with heap := h' }) :
    wpAny (model prog w) A (pyNext (.ref zz)) Q E s := by
  have hT : s.TypeIs (.ref zz) "zip" := ⟨_, gz, rfl⟩
  unfold pyNext
  exact wpAny_bind (wpAny_attempt (wpAny_callSpecial?_slot (name := Str.ofString "__next__") hT F.slot_zip_next
    (wpAny_call_entry F.slot_zip_next hT F.entry_zip_next
      (zm_next_item dd gz gti gto g1 g2 gl1 gl2 gx gy fun h' a1 a2 a3 a4 a5 a6 a7 => wpAny_pure (gQ h' a1 a2 a3 a4 a5 a6 a7)) (F.args_zip_next_1 _))))
theorem zm_py_end {zz ti to j1 j2 m1 m2 : Addr} {n1 n2 : Nat} {us ws : Array Value} {a b : Value} {Q : Option Value → Shared → Prop} (gh : A.handled = none) (dd : ZipApart zz ti to j1 j2 m1 m2)
    (gz : IsZip s.heap zz ti to .none) (gti : IsPair s.heap ti (.ref j1) (.ref j2)) (gto : IsPair s.heap to a b)
    (g1 : ZIt p s.heap j1 m1 n1) (g2 : ZIt q s.heap j2 m2 n2) (gl1 : ZSq p s.heap m1 us) (gl2 : ZSq q s.heap m2 ws) (gend : us[n1]? = none ∨ ws[n2]? = none)
    (gQ : ∀ h', (∀ c o, c ≠ zz → c ≠ to → c ≠ j1 → c ≠ j2 → s.heap.get? c = some o → h'.get? c = some o) → Q none { s with heap := h' }) : wpAny (model prog w) A (pyNext (.ref zz)) Q E s := by
  have hT : s.TypeIs (.ref zz) "zip" := ⟨_, gz, rfl⟩
  unfold pyNext
  refine wpAny_bind (wpAny_attempt (wpAny_callSpecial?_slot (name := Str.ofString "__next__") hT F.slot_zip_next
    (wpAny_call_entry F.slot_zip_next hT F.entry_zip_next (zm_next_end gh dd gz gti gto g1 g2 gl1 gl2 gend fun h' e hk he => ?_) (F.args_zip_next_1 _))))
  obtain ⟨o, ho, hc⟩ := he
  refine wpAny_bind (wpAny_isInstance (T := "StopIteration") (b := true) ⟨o, ho, hc⟩ isSubtype_stop ?_)
  exact wpAny_pure (gQ _ hk)
def icls (p : Bool) : String := if p then "tuple_iterator" else "list_iterator"
abbrev zmA (p : Bool) (h : Heap) (a : Addr) : Heap := h.push { cls := .type (icls p), data := .fields #[.ref a, .int 0 0] }
abbrev zmB (p q : Bool) (h : Heap) (a b : Addr) : Heap := (zmA p h a).push { cls := .type (icls q), data := .fields #[.ref b, .int 0 0] }
abbrev zmC (p q : Bool) (h : Heap) (a b : Addr) : Heap := (zmB p q h a b).push { cls := .type "tuple", data := .seq #[.ref h.objs.size, .ref (zmA p h a).objs.size] }
abbrev zmD (p q : Bool) (h : Heap) (a b : Addr) : Heap := (zmC p q h a b).push { cls := .type "tuple", data := .seq #[.none, .none] }
abbrev zmE (p q : Bool) (h : Heap) (a b : Addr) : Heap := (zmD p q h a b).push { cls := .type "zip", data := .fields #[.none, .bool false, .bool false, .ref (zmB p q h a b).objs.size, .ref (zmC p q h a b).objs.size] }
theorem meets_lt (a b : Addr) (us ws : Array Value) : Meets (Builtin.«zip.__new__» ⟨[.type "zip", .ref a, .ref b], []⟩) (fun _ R s => ZSq false s.heap a us ∧ ZSq true s.heap b ws ∧
      R (.ok (.ret (.ref (zmD false true s.heap a b).objs.size))) { s with heap := zmE false true s.heap a b }) :=
  .of_wp fun prog w A R s h => by
    obtain ⟨hp, g, d, tk, os⟩ := s
    obtain ⟨ha, hb, h⟩ := h
    have hsub := sub_zip
    have la : Heap.IsList (Shared.heap ⟨hp, g, d, tk, os⟩) a us := ha
    have lb : Heap.IsTuple (Shared.heap ⟨hp.push { cls := .type "list_iterator", data := .fields #[.ref a, .int 0 0] }, g, d, tk, os⟩) b ws := Heap.IsTuple.push hb _
    wp_walk using wpAny_pyIter_list la, wpAny_pyIter_tuple lb
    exact ⟨_, rfl, h⟩
theorem meets_tl (a b : Addr) (us ws : Array Value) : Meets (Builtin.«zip.__new__» ⟨[.type "zip", .ref a, .ref b], []⟩) (fun _ R s => ZSq true s.heap a us ∧ ZSq false s.heap b ws ∧
      R (.ok (.ret (.ref (zmD true false s.heap a b).objs.size))) { s with heap := zmE true false s.heap a b }) :=
  .of_wp fun prog w A R s h => by
    obtain ⟨hp, g, d, tk, os⟩ := s
    obtain ⟨ha, hb, h⟩ := h
    have hsub := sub_zip
    have la : Heap.IsTuple (Shared.heap ⟨hp, g, d, tk, os⟩) a us := ha
    have lb : Heap.IsList (Shared.heap ⟨hp.push { cls := .type "tuple_iterator", data := .fields #[.ref a, .int 0 0] }, g, d, tk, os⟩) b ws := Heap.IsList.push hb _
    wp_walk using wpAny_pyIter_tuple la, wpAny_pyIter_list lb
    exact ⟨_, rfl, h⟩
theorem meets_zm (p q : Bool) (a b : Addr) (us ws : Array Value) : Meets (Builtin.«zip.__new__» ⟨[.type "zip", .ref a, .ref b], []⟩) (fun _ R s => ZSq p s.heap a us ∧ ZSq q s.heap b ws ∧
      R (.ok (.ret (.ref (zmD p q s.heap a b).objs.size))) { s with heap := zmE p q s.heap a b }) := by
  cases p
  · cases q
    · exact meets_zip_new a b us ws
    · exact meets_lt a b us ws
  · cases q
    · exact meets_tl a b us ws
    · exact meets_zipT_new a b us ws
theorem ZIt.mk {p : Bool} {h : Heap} {a t : Addr} (e : h.get? a = some { cls := .type (icls p), data := .fields #[.ref t, .int 0 0] }) : ZIt p h a t 0 := by
  cases p
  · exact ⟨_, e, rfl, rfl⟩
  · exact ⟨_, e, rfl, rfl⟩
theorem call_zm {a b : Addr} {us ws : Array Value} {Q : Value → Shared → Prop} (ha : ZSq p s.heap a us) (hb : ZSq q s.heap b ws)
    (h : ∀ h', IsZip h' (s.heap.objs.size + 4) (s.heap.objs.size + 2) (s.heap.objs.size + 3) .none → IsPair h' (s.heap.objs.size + 2) (.ref s.heap.objs.size) (.ref (s.heap.objs.size + 1)) →
      IsPair h' (s.heap.objs.size + 3) .none .none → ZIt p h' s.heap.objs.size a 0 → ZIt q h' (s.heap.objs.size + 1) b 0 → h'.objs.size = s.heap.objs.size + 5 →
      (∀ c o, s.heap.get? c = some o → h'.get? c = some o) → Q (.ref (s.heap.objs.size + 4)) { s with heap := h' }) : wpAny (model prog w) A (call (.type "zip") [.ref a, .ref b]) Q E s := by
  refine callType_new F.called_zip (by decide) (F.typeCall_zip_2 _ _) (F.newCall_zip_2 _ _) (fun obj => F.args_object_init_3 obj _ _) F.entry_zip_new (meets_zm p q a b us ws) ⟨ha, hb, ?_⟩
  have y1 : (zmA p s.heap a).objs.size = s.heap.objs.size + 1 := Heap.size_push ..
  have y2 : (zmB p q s.heap a b).objs.size = s.heap.objs.size + 2 := by rw [Heap.size_push, y1]
  have y3 : (zmC p q s.heap a b).objs.size = s.heap.objs.size + 3 := by rw [Heap.size_push, y2]
  have y4 : (zmD p q s.heap a b).objs.size = s.heap.objs.size + 4 := by rw [Heap.size_push, y3]
  have y5 : (zmE p q s.heap a b).objs.size = s.heap.objs.size + 5 := by rw [Heap.size_push, y4]
  have k5 : (zmE p q s.heap a b).get? (zmD p q s.heap a b).objs.size = some _ := Heap.get?_push_size _ rfl
  have k4 : (zmE p q s.heap a b).get? (zmC p q s.heap a b).objs.size = some _ := Heap.get?_push_of_some _ (Heap.get?_push_size _ rfl)
  have k3 : (zmE p q s.heap a b).get? (zmB p q s.heap a b).objs.size = some _ := Heap.get?_push_of_some _ (Heap.get?_push_of_some _ (Heap.get?_push_size _ rfl))
  have k2 : (zmE p q s.heap a b).get? (zmA p s.heap a).objs.size = some _ := Heap.get?_push_of_some _ (Heap.get?_push_of_some _ (Heap.get?_push_of_some _ (Heap.get?_push_size _ rfl)))
  have k1 : (zmE p q s.heap a b).get? s.heap.objs.size = some _ := Heap.get?_push_of_some _ (Heap.get?_push_of_some _ (Heap.get?_push_of_some _ (Heap.get?_push_of_some _ (Heap.get?_push_size _ rfl))))
  show _ ∧ _
  rw [y2, y3, y4] at k5
  rw [y1, y2] at k3
  rw [y3] at k4
  rw [y1] at k2
  rw [y4]
  exact ⟨⟨_, k5, rfl⟩, h _ k5 k3 k4 (.mk k1) (.mk k2) y5 fun c o x =>
    Heap.get?_push_of_some _ (Heap.get?_push_of_some _ (Heap.get?_push_of_some _ (Heap.get?_push_of_some _ (Heap.get?_push_of_some _ x))))⟩
end
def SqP (p : Bool) (K : PySem.W.Frag) (H : Hp) (a : Addr) (xs : List V) : Prop := if p then SqT K H a xs else SqL K H a xs
section
variable {X : Cx} {pins : List (Addr × Obj)} {σ : L2.St} {H : Hp} {s : Shared} {p : Bool} {a : Addr} {xs ys : List V}
theorem _root_.L2.Inv.sqp (I : Inv X pins σ H s) (h : SqP p X.K H a xs) : ∃ its : List Value, Vals xs its ∧ ZSq p s.heap a its.toArray ∧ xs.length ≤ sizeLine := by
  cases p
  · obtain ⟨its, r, e, z⟩ := I.list h
    exact ⟨its, r, e.isList, z⟩
  · exact I.tuple h
theorem _root_.L2.Inv.sqp_inj (I : Inv X pins σ H s) (h : SqP p X.K H a xs) (h' : SqP p X.K H a ys) : xs = ys := by
  cases p
  · exact I.list_inj h h'
  · exact I.tuple_inj h h'
theorem ZSq.lt {h : Heap} {a : Addr} {us} (x : ZSq p h a us) : a < h.objs.size := by
  cases p
  · obtain ⟨o, e, _⟩ := id x; exact Heap.lt_size e
  · obtain ⟨o, e, _⟩ := id x; exact Heap.lt_size e
end
def ItzG (pa pb : Bool) (K : PySem.W.Frag) (a b : Addr) : It :=
  ⟨fun i H => ∃ (xs ys : List V) (x y : V), SqP pa K H a xs ∧ SqP pb K H b ys ∧ xs[i]? = some x ∧ ys[i]? = some y,
    fun i H v H' => ∃ T x y, v = .ref T ∧ H T = none ∧ H' = upd H T (.tup [x, y]) ∧ (∀ xs, SqP pa K H a xs → xs[i]? = some x) ∧ ∀ ys, SqP pb K H b ys → ys[i]? = some y,
    fun i H => ∃ xs ys : List V, SqP pa K H a xs ∧ SqP pb K H b ys ∧ (xs.length ≤ i ∨ ys.length ≤ i)⟩
theorem turn_zm {pa pb : Bool} {P : Program} {w : World} {K : PySem.W.Frag} {elts : List Expr} {kk : Nat} {tpos : Pos} {a b zz ti to j1 j2 : Addr} (dd : ZipApart zz ti to j1 j2 a b) :
    Turn P w K (.Tuple elts kk tpos) (ItzG pa pb K a b) [zz, ti, to, j1, j2] zz (fun i h => IsZip h zz ti to .none ∧ IsPair h ti (.ref j1) (.ref j2) ∧ (∃ x y, IsPair h to x y) ∧ ZIt pa h j1 a i ∧ ZIt pb h j2 b i) where
  mem := by simp
  obj := fun i h st c hc => by
    obtain ⟨gz, gti, ⟨x, y, gto⟩, hh1, hh2⟩ := st
    obtain ⟨o1, e1, d1⟩ := hh1.obj
    obtain ⟨o2, e2, d2⟩ := hh2.obj
    have e' : c = zz ∨ c = ti ∨ c = to ∨ c = j1 ∨ c = j2 := by simpa using hc
    rcases e' with q | q | q | q | q
    · rw [q]; exact ⟨_, gz, fun v q => nomatch q⟩
    · rw [q]; exact ⟨_, gti, fun v q => nomatch q⟩
    · rw [q]; exact ⟨_, gto, fun v q => nomatch q⟩
    · rw [q]; exact ⟨o1, e1, fun v q => by rw [d1] at q; cases q⟩
    · rw [q]; exact ⟨o2, e2, fun v q => by rw [d2] at q; cases q⟩
  keep := fun i h h' st k => by
    obtain ⟨gz, gti, ⟨x, y, gto⟩, h1, h2⟩ := st
    exact ⟨k zz (by simp) _ gz, k ti (by simp) _ gti, ⟨x, y, k to (by simp) _ gto⟩, h1.at fun o q => k j1 (by simp) o q, h2.at fun o q => k j2 (by simp) o q⟩
  item := by
    intro X hP hw hK hc i pins s σ H E I hf st hg
    subst hP hw hK
    obtain ⟨gz, gti, ⟨x0, y0, gto⟩, h1, h2⟩ := st
    obtain ⟨xs, ys, x, y, gx, gy, hx, hy⟩ := hg
    obtain ⟨ux, rx, p, _⟩ := I.sqp gx
    obtain ⟨uy, ry, py, _⟩ := I.sqp gy
    obtain ⟨u, hu, ru⟩ := rx.get hx
    obtain ⟨u2, hu2, ru2⟩ := ry.get hy
    have hzl : zz < s.heap.objs.size := Heap.lt_size gz
    refine zm_py_item dd gz gti gto h1 h2 p py (x := u) (y := u2) (by simpa using hu) (by simpa using hu2) fun h' z' TO' h1' h2' hT hsz hk => ?_
    refine ⟨_, rfl, wpAny_letOwnedTupleGo_zip (s := { s with heap := h' }) z' fun h'' z'' sb => ?_⟩
    have hT2 : h''.get? s.heap.objs.size = some { cls := .type "tuple", data := .seq #[u, u2] } := (sb.2 _ (Nat.ne_of_gt hzl)).trans hT
    have new : ObjOk X.prog X.w (upd H s.heap.objs.size (.tup [x, y])) h'' s.heap.objs.size (.tup [x, y]) :=
      ⟨by show 2 ≤ sizeLine; decide, [u, u2], .cons ru (.cons ru2 .nil), ⟨_, hT2, rfl, _, rfl⟩⟩
    have I1 : Inv X pins σ (upd H s.heap.objs.size (.tup [x, y])) { s with heap := h'' } :=
      I.turnedNew (t' := s.toks) (ch := [zz, ti, to, j1, j2]) (fun c o hb q => (sb.2 c (fun q' => hb (by simp [q']))).trans (hk c o (fun q' => hb (by simp [q'])) (fun q' => hb (by simp [q'])) (fun q' => hb (by simp [q'])) (fun q' => hb (by simp [q'])) q)) hf (Nat.le_refl _) new
    refine ⟨.ref s.heap.objs.size, _, I1, rfl, ⟨_, x, y, rfl, I.hok.fresh (Nat.le_refl _), rfl, fun l hl => by rw [I.sqp_inj hl gx]; exact hx, fun l hl => by rw [I.sqp_inj hl gy]; exact hy⟩, ⟨z'', ?_, ⟨u, u2, ?_⟩, ?_, ?_⟩, fun c gm => ?_⟩
    · exact (sb.2 _ dd.TIz).trans (hk _ _ dd.TIz dd.TITO dd.TIi1 dd.TIi2 gti)
    · exact (sb.2 _ dd.TOz).trans TO'
    · exact h1'.at fun o q => (sb.2 _ dd.i1z).trans q
    · exact h2'.at fun o q => (sb.2 _ dd.i2z).trans q
    · have hlt : c < s.heap.objs.size := by
        have e' : c = zz ∨ c = ti ∨ c = to ∨ c = j1 ∨ c = j2 := by simpa using gm
        rcases e' with q | q | q | q | q
        · rw [q]; exact hzl
        · rw [q]; exact Heap.lt_size gti
        · rw [q]; exact Heap.lt_size gto
        · rw [q]; exact h1.lt
        · rw [q]; exact h2.lt
      rw [upd_ne (Nat.ne_of_lt hlt)]
      exact (hf c gm).1
  done := by
    intro X hP hw hK hc i pins s σ H E I hf st hg
    subst hP hw hK
    obtain ⟨gz, gti, ⟨x0, y0, gto⟩, h1, h2⟩ := st
    obtain ⟨xs, ys, gx, gy, hend⟩ := hg
    obtain ⟨ux, rx, p, _⟩ := I.sqp gx
    obtain ⟨uy, ry, py, _⟩ := I.sqp gy
    have l1 := rx.length
    have l2 := ry.length
    have he : ux.toArray[i]? = none ∨ uy.toArray[i]? = none := by
      rcases hend with q | q
      · exact .inl (by simp; omega)
      · exact .inr (by simp; omega)
    exact zm_py_end (I.ok.hd hc) dd gz gti gto h1 h2 p py he fun h' hk => ⟨rfl, I.turnedL (t' := s.toks) (ch := [zz, ti, to, j1, j2]) (fun c o hb q =>
      hk c o (fun q' => hb (by simp [q'])) (fun q' => hb (by simp [q'])) (fun q' => hb (by simp [q'])) (fun q' => hb (by simp [q'])) q) hf⟩
  self := fun A i s Q E st h => wpAny_pyIter_zip st.1 h
def iZm (K : PySem.W.Frag) (ta : TA) : TI := fun σ H R => ta σ H fun vs H1 => ∃ pa pb a b xs ys, vs = [.ref a, .ref b] ∧ SqP pa K H1 a xs ∧ SqP pb K H1 b ys ∧ R (ItzG pa pb K a b) H1
theorem pi_zm {X : Cx} {e e2 : Expr} {ta : TA} {p pos tpos : Pos} {elts : List Expr} {kk : Nat} (hg : Gl X "zip") (hm : X.mg "zip" = none) (ha : PA X [e, e2] ta)
    (hs : starEach [e, e2] X.env = (false, eval e X.env) :: starEach [e2] X.env := by rfl) (hpl : (backTo pos (starEach [e2] X.env)).any (·.1) = false := by rfl) : PI X (.Tuple elts kk tpos) (.Call (.Name "zip" p) [e, e2] [] pos) (iZm X.K ta) := by
  refine ⟨fun pins s σ H R I h => ?_⟩
  refine Call_ (ld_blt I hg hm PyProof.Rows.boot_zip (PyProof.Rows.callWith_type1 (thn (ha.run pos pins s σ H _ I h) fun us t ⟨vs, H1, I1, r1, q1⟩ => ?_) hs hpl))
  obtain ⟨pa, pb, a, b, xs, ys, rfl, gx, gy, q⟩ := q1
  cases r1 with
  | cons r rr =>
    cases rr with
    | cons r' rr =>
      cases rr
      cases r
      cases r'
      have new5 : ∀ c, c ∈ [t.heap.objs.size + 4, t.heap.objs.size + 2, t.heap.objs.size + 3, t.heap.objs.size, t.heap.objs.size + 1] → FpOk X pins H1 c := fun c gm => by
        have hle : t.heap.objs.size ≤ c := by
          simp only [List.mem_cons, List.not_mem_nil, or_false] at gm
          rcases gm with e | e | e | e | e <;> rw [e] <;> omega
        exact I1.fpOk hle (I1.hok.fresh hle)
      obtain ⟨ux, rx, px, _⟩ := I1.sqp gx
      obtain ⟨uy, ry, py, _⟩ := I1.sqp gy
      refine call_zm px py fun h' gz gti gto h1 h2 hsz hk => wpAny_pyIter_zip gz ?_
      have I2 : Inv X pins σ H1 { t with heap := h' } := I1.kept (t' := t.toks) hk
      exact ⟨t.heap.objs.size + 4, [t.heap.objs.size + 4, t.heap.objs.size + 2, t.heap.objs.size + 3, t.heap.objs.size, t.heap.objs.size + 1], _, _, H1, rfl, I2, turn_zm (PySem.W.ktu_apart t.heap.objs.size a b px.lt py.lt), ⟨gz, gti, ⟨_, _, gto⟩, h1, h2⟩, new5, q⟩
section
variable {X : Cx} {C : Nat → Addr} {W : WX} {a b : Expr} {l : DL} {p pos : Pos}
def iZ (l : DL) : DI := fun ρ S => (l ρ S).bd fun ds S1 => match ds with
  | [d, e] => match seqOf S1 d, seqOf S1 e with
    | some _, some _ => .ok (itZip d e) S1
    | _, _ => .stuck
  | _ => .stuck
theorem seq_sqp {K : PySem.W.Frag} {H : Hp} {μ : Mu} {S : Sto} (sr : SR K C μ S H) {d : Dv} {v : V} {ds : List Dv} (e : seqOf S d = some ds) (h : VR K H μ d v) : ∃ a vs, v = .ref a ∧ SqP (isTup d) K H a vs ∧ VRs K H μ ds vs := by
  cases d with
  | tup es =>
    cases e
    obtain ⟨a, vs, rfl, h1, h2⟩ := VR_tup.mp h
    exact ⟨a, vs, rfl, h1, h2⟩
  | fz es =>
    obtain ⟨a, vs, rfl, h1, h2⟩ := listOf_sq (d := .fz es) sr e h
    exact ⟨a, vs, rfl, h1, h2⟩
  | ref n =>
    obtain ⟨a, vs, rfl, h1, h2⟩ := listOf_sq (d := .ref n) sr e h
    exact ⟨a, vs, rfl, h1, h2⟩
  | _ => cases e
theorem jm_zm {μ : Mu} {H : Hp} {d e : Dv} {ad bd : Addr} (vd : VR X.K H μ d (.ref ad)) (ve : VR X.K H μ e (.ref bd)) : Jm X.K C μ H (itZip d e) (ItzG (isTup d) (isTup e) X.K ad bd) := by
  intro μ1 S1 H1 af sr i
  simp only [itZip]
  cases e1 : seqOf S1 d with
  | none => trivial
  | some ds =>
    cases e2 : seqOf S1 e with
    | none => trivial
    | some es =>
      obtain ⟨a', vs, q1, hq, h2⟩ := seq_sqp sr e1 (vd.weak af)
      cases q1
      obtain ⟨b', ws, q2, hq', h2'⟩ := seq_sqp sr e2 (ve.weak af)
      cases q2
      simp only
      cases e3 : ds[i]? with
      | none => exact ⟨vs, ws, hq, hq', .inl (by rw [← h2.length]; exact List.getElem?_eq_none_iff.mp e3)⟩
      | some x =>
        cases e4 : es[i]? with
        | none => exact ⟨vs, ws, hq, hq', .inr (by rw [← h2'.length]; exact List.getElem?_eq_none_iff.mp e4)⟩
        | some y =>
          obtain ⟨v, h3, h4⟩ := h2.get e3
          obtain ⟨w, h5, h6⟩ := h2'.get e4
          refine ⟨⟨vs, ws, v, w, hq, hq', h3, h5⟩, fun z H' yy => ?_⟩
          obtain ⟨T, x', y', rfl, hT, rfl, g1, g2⟩ := yy
          have g1' := g1 vs hq
          have g2' := g2 ws hq'
          rw [h3] at g1'
          rw [h5] at g2'
          cases g1'
          cases g2'
          exact new_pair sr hT h4 h6
theorem si_z {elts : List Expr} {kk : Nat} {tpos : Pos} (hm : X.mg "zip" = none) (ha : SL X C W [a, b] l) (hg : Gl X "zip" := by rfl) (hs : starEach [a, b] X.env = (false, eval a X.env) :: starEach [b] X.env := by rfl) (hpl : (backTo pos (starEach [b] X.env)).any (·.1) = false := by rfl) :
    SI X C W (.Tuple elts kk tpos) (.Call (.Name "zip" p) [a, b] [] pos) (iZ l) := by
  refine ⟨pi_imp (pi_zm hg hm ha.pa hs hpl) fun σ H R q => ?_⟩
  obtain ⟨μ, ρ, S, rl, q⟩ := q
  refine ⟨μ, ρ, S, rl, (tR.bd q).imp fun v H1 q1 => ?_⟩
  obtain ⟨μ1, S1, dl, a1, s1, vr, q1⟩ := q1
  split at q1
  · rename_i d e
    split at q1
    · rename_i ds es e1 e2
      obtain ⟨z, t, rfl, h1, h2⟩ := VRs_cons.mp vr
      obtain ⟨z2, t2, rfl, h3, h4⟩ := VRs_cons.mp h2
      cases VRs_nil.mp h4
      obtain ⟨ad, vs, rfl, hq, _⟩ := seq_sqp s1 e1 h1
      obtain ⟨bd, ws, rfl, hq2, _⟩ := seq_sqp s1 e2 h3
      exact ⟨_, _, ad, bd, vs, ws, rfl, hq, hq2, q1 μ1 H1 _ Aft.refl s1 (jm_zm h1 h3)⟩
    · exact q1.elim
  · exact q1.elim
end
end Fc
set_option exponentiation.threshold 256
set_option maxHeartbeats 4000000
set_option maxHeartbeats 4000000
namespace Fc
open PySem L2 RZ PySem.Spec PyProof.Rows Builtin
section
variable {prog : Program} {w : World} {A : Around} {E : Value → Shared → Prop} {s : Shared} {p : Bool}
end
def itEn (d : Dv) : Itf := fun S i => match seqOf S d with
  | some ds => some (match ds[i]? with
    | some x => some (.tup [.int (i : Nat), x])
    | none => none)
  | none => none
def iEn (l : DL) : DI := fun ρ S => (l ρ S).bd fun ds S1 => match ds with
  | [d] => match seqOf S1 d with
    | some _ => .ok (itEn d) S1
    | none => .stuck
  | _ => .stuck
section
variable {X : Cx} {C : Nat → Addr} {W : WX} {a : Expr} {l : DL} {p pos : Pos}
end
end Fc
set_option exponentiation.threshold 256
set_option maxHeartbeats 4000000
set_option maxHeartbeats 4000000
namespace Fc
open PySem L2
def keyOf : Dv → Option Key
  | .int i => some (.inl i)
  | .str x => some (.inr x)
  | _ => none
abbrev Kd := List (Key × Dv)
def valD (kvs : Kd) (k : Key) : Option Dv := (kvs.find? fun kv => decide (kv.1 = k)).map (·.2)
def putKD (kvs : Kd) (k : Key) (v : Dv) : Kd :=
  if (kvs.any fun kv => decide (kv.1 = k)) = true then kvs.map (fun kv => if kv.1 = k then (kv.1, v) else kv) else kvs ++ [(k, v)]
def dropKD (kvs : Kd) (k : Key) : Kd := kvs.filter fun kv => decide (kv.1 ≠ k)
section
variable {K : PySem.W.Frag} {C : Nat → Addr} {H : Hp} {μ : Mu} {S : Sto}
theorem keyOf_V {d : Dv} {v : V} {k : Key} (e : keyOf d = some k) (h : VR K H μ d v) : v = kV k := by
  cases d with
  | int i => cases e; exact VR_int.mp h
  | str x => cases e; exact VR_str.mp h
  | _ => cases e
theorem KRs.val {k : Key} : ∀ {l : Kd} {m : List (Key × V)}, KRs K H μ l m → match valD l k with
    | some d => ∃ v, valV m k = some v ∧ VR K H μ d v
    | none => valV m k = none
  | [], m, h => by
    cases (show m = [] from h)
    rfl
  | (g, d) :: l, m, h => by
    obtain ⟨v, t, rfl, h1, h2⟩ := h
    have ih := KRs.val (k := k) h2
    by_cases e : g = k
    · have e1 : valD ((g, d) :: l) k = some d := by simp [valD, List.find?_cons, e]
      rw [e1]
      exact ⟨v, valV_pos (p := (g, v)) e, h1⟩
    · have e1 : valD ((g, d) :: l) k = valD l k := by simp [valD, List.find?_cons, e]
      rw [e1, valV_neg (p := (g, v)) e]
      exact ih
theorem KRs.any {k : Key} : ∀ {l : Kd} {m : List (Key × V)}, KRs K H μ l m → (l.any fun kv => decide (kv.1 = k)) = (m.any fun kv => decide (kv.1 = k))
  | [], m, h => by
    cases (show m = [] from h)
    rfl
  | (g, d) :: l, m, h => by
    obtain ⟨v, t, rfl, h1, h2⟩ := h
    simp only [List.any_cons, KRs.any h2]
theorem KRs.drop {k : Key} : ∀ {l : Kd} {m : List (Key × V)}, KRs K H μ l m → KRs K H μ (dropKD l k) (dropK m k)
  | [], m, h => by
    cases (show m = [] from h)
    rfl
  | (g, x) :: l, m, h => by
    obtain ⟨y, t, rfl, h1, h2⟩ := h
    unfold dropKD dropK
    by_cases e : g = k
    · rw [List.filter_cons_of_neg (by simp [e]), List.filter_cons_of_neg (by simp [e])]
      exact KRs.drop h2
    · rw [List.filter_cons_of_pos (by simp [e]), List.filter_cons_of_pos (by simp [e])]
      exact ⟨y, _, rfl, h1, KRs.drop h2⟩
theorem KRs.get {κ : Type} : ∀ {l : List (κ × Dv)} {m : List (κ × V)} {i : Nat}, KRs K H μ l m → match l[i]? with
    | some (k, d) => ∃ v, m[i]? = some (k, v) ∧ VR K H μ d v
    | none => m.length ≤ i
  | [], m, i, h => by
    cases (show m = [] from h)
    simp
  | (g, x) :: l, m, 0, h => by
    obtain ⟨y, t, rfl, h1, h2⟩ := h
    exact ⟨y, rfl, h1⟩
  | (g, x) :: l, m, i + 1, h => by
    obtain ⟨y, t, rfl, h1, h2⟩ := h
    have ih := KRs.get (i := i) h2
    simp only [List.getElem?_cons_succ, List.length_cons]
    split
    · rename_i k d e
      rw [e] at ih
      exact ih
    · rename_i e
      rw [e] at ih
      simp only at ih
      omega
end
def dicOf (S : Sto) : Dv → Option Kd
  | .ref n => match S[n]? with
    | some (.dic kvs) => some kvs
    | some (.ldic kvs) => some kvs
    | _ => none
  | .dct kvs => some kvs
  | _ => none
section
variable {X : Cx} {C : Nat → Addr} {W : WX} {k j n : Nat} {e o i a b value : Expr} {es : List Expr} {f g fo fi fe fk fv : DE} {l : DL} {pos p p2 p3 apos cpos tpos : Pos} {st : Stmt} {body : List Stmt} {cb : DS} {tg : Tg}
def eDNew : DE := fun _ S => .ok (.ref S.length) (S ++ [.dic []])
def eDEm : DE := fun _ S => .ok (.dct []) S
theorem se_dem : SE X C W (.Dict [] [] pos) eDEm := by
  refine ⟨pe_imp pe_dnewK fun σ H Q q => ?_⟩
  obtain ⟨μ, ρ, S, rl, q⟩ := q
  intro p hp
  refine q μ _ _ (Aft.new hp) (rl.sr.lay hp) (VR_dct.mpr ⟨p, [], rfl, ⟨rl.sr.notin hp, fun z => rl.sr.hids p z hp⟩, upd_same, VRk_nil.mpr rfl⟩)
def fDict : OpN := fun ds S => match ds with
  | [d] => match dicOf S d with
    | some kvs => some (.ref S.length, S ++ [.dic kvs])
    | none => none
  | _ => none
def eDGet (fo fi : DE) : DE := fun ρ S => (fo ρ S).bd fun d S1 => (fi ρ S1).bd fun y S2 => match dicOf S2 d, keyOf y with
  | some kvs, some k => match valD kvs k with
    | some x => .ok x S2
    | none => .stuck
  | _, _ => .stuck
def eDGet2 (fo fi fv : DE) : DE := fun ρ S => (fo ρ S).bd fun d S1 => match dicOf S1 d with
  | some _ => (fi ρ S1).bd fun y S2 => (fv ρ S2).bd fun z S3 => match dicOf S3 d, keyOf y with
    | some kvs, some k => .ok ((valD kvs k).getD z) S3
    | _, _ => .stuck
  | none => .stuck
def eDPop (fo fi : DE) : DE := fun ρ S => (fo ρ S).bd fun d S1 => match dicOf S1 d with
  | some _ => (fi ρ S1).bd fun y S2 => match d, keyOf y with
    | .ref n, some k => match S2[n]? with
      | some (.dic kvs) => match valD kvs k with
        | some x => .ok x (S2.set n (.dic (dropKD kvs k)))
        | none => .stuck
      | _ => .stuck
    | _, _ => .stuck
  | none => .stuck
def eDIn (neg : Bool) (fi fo : DE) : DT := fun ρ S => (fi ρ S).bd fun y S1 => (fo ρ S1).bd fun d S2 => match dicOf S2 d, keyOf y with
  | some kvs, some k => .ok (neg != (valD kvs k).isSome) S2
  | _, _ => .stuck
def cDPut (fe fo fi : DE) : DS := fun ρ S => toS (fe ρ S) ρ fun x S1 => toS (fo ρ S1) ρ fun d S2 => toS (fi ρ S2) ρ fun y S3 => match d, keyOf y with
  | .ref n, some k => match S3[n]? with
    | some (.dic kvs) => if kvs.length < lim then .ok (.nx ρ) (S3.set n (.dic (putKD kvs k x))) else .stuck
    | _ => .stuck
  | _, _ => .stuck
def cAugS (gg : Op2) (fo fi fe : DE) : DS := fun ρ S => toS (fo ρ S) ρ fun d S1 => toS (fi ρ S1) ρ fun y S2 => match d, y with
  | .ref n, .int j => match S2[n]? with
    | some (.lst es) => match atI es j with
      | some x => toS (fe ρ S2) ρ fun z S3 => match gg x z S3 with
        | some (r, S4) => match S4[n]? with
          | some (.lst es2) => match ixN es2.length j with
            | some m => .ok (.nx ρ) (S4.set n (.lst (es2.set m r)))
            | none => .stuck
          | _ => .stuck
        | none => .stuck
      | none => .stuck
    | _ => .stuck
  | _, _ => .stuck
end
end Fc
set_option exponentiation.threshold 256
set_option maxHeartbeats 4000000
set_option maxHeartbeats 4000000
namespace Fc
open PySem L2
section
variable {X : Cx} {C : Nat → Addr} {W : WX} {k j n : Nat} {e o i a b value tge : Expr} {elts es : List Expr} {f g fo fi fe fk fv fd : DE} {l : DL} {kk : Nat} {pos p p2 p3 apos cpos tpos : Pos} {st : Stmt} {body : List Stmt} {cb : DS} {tg : Tg}
end
end Fc
set_option exponentiation.threshold 256
set_option maxHeartbeats 4000000
set_option maxHeartbeats 4000000
namespace Fc
open PySem L2
def stoL (o i d : Dv) (S : Sto) : Option Sto := match o, i with
  | .ref n, .int j => match S[n]? with
    | some (.lst es) => (ixN es.length j).map fun m => S.set n (.lst (es.set m d))
    | _ => none
  | _, _ => none
def cSub2 (fe fo1 fi1 fo2 fi2 : DE) : DS := fun ρ S => toS (fe ρ S) ρ fun d S1 => match d with
  | .tup [d1, d2] => toS (fo1 ρ S1) ρ fun o1 S2 => toS (fi1 ρ S2) ρ fun i1 S3 => match stoL o1 i1 d1 S3 with
    | some S4 => toS (fo2 ρ S4) ρ fun o2 S5 => toS (fi2 ρ S5) ρ fun i2 S6 => match stoL o2 i2 d2 S6 with
      | some S7 => .ok (.nx ρ) S7
      | none => .stuck
    | none => .stuck
  | _ => .stuck
section
variable {X : Cx} {C : Nat → Addr} {W : WX} {k : Nat} {e o i o2 i2 : Expr} {fe fo fi fo2 fi2 : DE} {pos p p2 p3 : Pos} {kk : Nat}
end
end Fc
set_option exponentiation.threshold 256
set_option maxHeartbeats 4000000
set_option maxHeartbeats 4000000
namespace Fc
open PySem L2
theorem forL_run {it : Itf} {tg : Tg} {b : DS} {N : Nat} (Inv : Nat → Ev → Sto → Prop) (P : Out → Sto → Prop)
    (step : ∀ i ρ S, i < N → Inv i ρ S → ∃ x ρ1, it S i = some (some x) ∧ tg.asg x ρ = some ρ1 ∧ ∃ o S2, b ρ1 S = .ok o S2 ∧ (match o with
      | .nx ρ2 => Inv (i + 1) ρ2 S2
      | .ct ρ2 => Inv (i + 1) ρ2 S2
      | .bk ρ2 => P (.nx ρ2) S2
      | o => P o S2))
    (hend : ∀ ρ S, Inv N ρ S → it S N = some none ∧ P (.nx ρ) S) : ∀ (f i : Nat) (ρ : Ev) (S : Sto), i ≤ N → N - i < f → Inv i ρ S → ∃ o S', forL it tg b f i ρ S = .ok o S' ∧ P o S' := by
  intro f
  induction f with
  | zero => intro i ρ S _ h; omega
  | succ f ih =>
    intro i ρ S hi hf h
    unfold forL
    by_cases e : i = N
    · subst e
      obtain ⟨e1, p⟩ := hend ρ S h
      rw [e1]
      exact ⟨_, _, rfl, p⟩
    · obtain ⟨x, ρ1, e1, e2, o, S2, e3, ho⟩ := step i ρ S (by omega) h
      rw [e1]
      simp only [e2]
      rw [e3]
      cases o with
      | nx ρ2 => exact ih (i + 1) ρ2 S2 (by omega) (by omega) ho
      | ct ρ2 => exact ih (i + 1) ρ2 S2 (by omega) (by omega) ho
      | bk ρ2 => exact ⟨_, _, rfl, ho⟩
      | rt d => exact ⟨_, _, rfl, ho⟩
      | ex c d => exact ⟨_, _, rfl, ho⟩
section
variable {f g : DS} {t : DT} {ρ ρ0 ρ1 : Ev} {S S1 S2 : Sto} {r : Res Out} {d : Dv} {c n : Nat} {args : List Dv}
theorem seq_go (h1 : f ρ S = .ok (.nx ρ1) S1) (h2 : g ρ1 S1 = r) : cSeq f g ρ S = r := by simp only [cSeq, h1, h2]
theorem seq_rt (h1 : f ρ S = .ok (.rt d) S1) : cSeq f g ρ S = .ok (.rt d) S1 := by simp only [cSeq, h1]
theorem nil_go : cNil ρ S = .ok (.nx ρ) S := rfl
theorem if_f (h1 : t ρ S = .ok false S1) (h2 : g ρ S1 = r) : cIf t f g ρ S = r := by simp [cIf, h1, h2]
theorem for_go {fi : DI} {tg : Tg} {it : Itf} (h1 : fi ρ S = .ok it S1) (h2 : forL it tg f big 0 ρ S1 = r) : cFor fi tg f ρ S = r := by simp only [cFor, h1, toS_ok, h2]
theorem set_go {e : DE} {i : Nat} (h1 : e ρ S = .ok d S1) : cSet i e ρ S = .ok (.nx (ρ.set i (some d))) S1 := by simp only [cSet, h1, toS_ok]
theorem ret_go {e : DE} (h1 : e ρ S = .ok d S1) : cRet e ρ S = .ok (.rt d) S1 := by simp only [cRet, h1, toS_ok]
theorem run_rt {b : DS} (he : args.map some ++ List.replicate (n - args.length) none = ρ0) (h : b ρ0 S = .ok (.rt d) S1) : runB n b args S = .ok d S1 := by simp only [runB, he, h]
theorem run_nx {b : DS} (he : args.map some ++ List.replicate (n - args.length) none = ρ0) (h : b ρ0 S = .ok (.nx ρ1) S1) : runB n b args S = .ok .non S1 := by simp only [runB, he, h]
theorem run_ex {b : DS} (he : args.map some ++ List.replicate (n - args.length) none = ρ0) (h : b ρ0 S = .ok (.ex c ρ1) S1) : runB n b args S = .exn c S1 := by simp only [runB, he, h]
end
def dNeg : Dv → Option Dv := fun d => match d with
  | .int i => some (.int (-i))
  | _ => none
theorem se_neg2 {X : Cx} {C : Nat → Addr} {W : WX} {e : Expr} {f : DE} {pos : Pos} (h1 : SE X C W e f) : SE X C W (.UnaryOp .USub e pos) (eUn dNeg f) := se_neg h1
theorem neg_int (i : Int) : dNeg (.int i) = some (.int (-i)) := rfl
theorem getElem?_grow {S : Sto} {n : Nat} {o : Ob} (h : S[n]? = some o) (G : Sto) : (S ++ G)[n]? = some o := by
  rw [List.getElem?_append_left (List.getElem?_eq_some_iff.mp h).1]
  exact h
theorem listOf_grow {S : Sto} {d : Dv} {ds : List Dv} (h : listOf S d = some ds) (G : Sto) : listOf (S ++ G) d = some ds := by
  cases d with
  | fz es => exact h
  | ref n =>
    simp only [listOf] at h ⊢
    split at h
    · rename_i es e1
      cases h
      rw [getElem?_grow e1 G]
    · cases h
  | _ => cases h
theorem seqOf_grow {S : Sto} {d : Dv} {ds : List Dv} (h : seqOf S d = some ds) (G : Sto) : seqOf (S ++ G) d = some ds := by
  cases d with
  | tup es => exact h
  | fz es => exact listOf_grow (S := S) (d := .fz es) h G
  | ref n => exact listOf_grow (S := S) (d := .ref n) h G
  | _ => cases h
theorem it_seq {S : Sto} {d : Dv} {ds : List Dv} (h : seqOf S d = some ds) (G : Sto) (i : Nat) : itSeq d (S ++ G) i = some ds[i]? := by
  simp only [itSeq, seqOf_grow h G, Option.map_some]
section
variable {S : Sto} {ds : List Dv}
theorem ty_non : tyD S .non = some .non := rfl
theorem ty_bl {b : Bool} : tyD S (.bl b) = some .bl := rfl
theorem ty_int {i : Int} : tyD S (.int i) = some .int := rfl
theorem ty_str {x : Str} : tyD S (.str x) = some .str := rfl
theorem ty_tup : tyD S (.tup ds) = some .tup := rfl
theorem ty_fz : tyD S (.fz ds) = some .lst := rfl
theorem seq_tup : seqOf S (.tup ds) = some ds := rfl
theorem seq_fz : seqOf S (.fz ds) = some ds := rfl
theorem list_fz : listOf S (.fz ds) = some ds := rfl
theorem len_tup : fLen [.tup ds] S = some (.int (ds.length : Nat), S) := rfl
end
theorem at_newk (S G : Sto) (k : Nat) : (S ++ G)[S.length + k]? = G[k]? := by
  rw [List.getElem?_append_right (by omega)]
  congr 1
  omega
theorem asg_nm (i : Nat) (d : Dv) (ρ : Ev) : (Tg.nm i).asg d ρ = some (ρ.set i (some d)) := by simp [Tg.asg]
theorem asg_tp (ts : List Tg) (ds : List Dv) (ρ : Ev) : (Tg.tp ts).asg (.tup ds) ρ = Tg.asgs ts ds ρ := by simp [Tg.asg]
theorem asgs_nil (ρ : Ev) : Tg.asgs [] [] ρ = some ρ := by simp [Tg.asgs]
theorem asgs_cons (t : Tg) (ts : List Tg) (d : Dv) (ds : List Dv) (ρ : Ev) : Tg.asgs (t :: ts) (d :: ds) ρ = (t.asg d ρ).bind fun ρ1 => Tg.asgs ts ds ρ1 := by simp [Tg.asgs]
theorem lm0 : (0 ≤ lim) = True := by simp [lim]
theorem lm1 : (1 ≤ lim) = True := by simp [lim]
theorem lm2 : (2 ≤ lim) = True := by simp [lim]
theorem lm3 : (3 ≤ lim) = True := by simp [lim]
theorem lm4 : (4 ≤ lim) = True := by simp [lim]
theorem lm5 : (5 ≤ lim) = True := by simp [lim]
theorem lm6 : (6 ≤ lim) = True := by simp [lim]
theorem lm7 : (7 ≤ lim) = True := by simp [lim]
theorem lm8 : (8 ≤ lim) = True := by simp [lim]
theorem lm9 : (9 ≤ lim) = True := by simp [lim]
theorem set_newk (S G : Sto) (k : Nat) (o : Ob) : (S ++ G).set (S.length + k) o = S ++ G.set k o := by
  rw [List.set_append_right _ _ (by omega)]
  congr 2
  omega
theorem set_new0 (S G : Sto) (o : Ob) : (S ++ G).set S.length o = S ++ G.set 0 o := set_newk S G 0 o
theorem at_new (S G : Sto) : (S ++ G)[S.length]? = G[0]? := at_newk S G 0
section
variable {S : Sto} {i j : Int}
theorem zAdd {m : Bool} : opAdd m (.int i) (.int j) S = some (.int (i + j), S) := rfl
theorem zSub : opSub (.int i) (.int j) S = some (.int (i - j), S) := rfl
theorem zMul {m : Bool} (h : mulOk i j = true) : opMul m (.int i) (.int j) S = some (.int (i * j), S) := if_pos h
theorem zDiv (h : divOk j = true) : opDiv (.int i) (.int j) S = some (.int (i / j), S) := if_pos h
theorem zMod (h : 0 < j) : opMod (.int i) (.int j) S = some (.int (i % j), S) := if_pos h
theorem zIxL {n : Nat} {ds : List Dv} {v : Dv} (h : S[n]? = some (.lst ds)) (h2 : atI ds i = some v) : opIx (.ref n) (.int i) S = some (v, S) := by simp [opIx, seqOf, listOf, h, h2]
end
section
variable {S : Sto} {n m : Nat} {i : Int} {ds : List Dv}
theorem list_ref : listOf S (.ref n) = (match S[n]? with
    | some (.lst ds) => some ds
    | _ => none) := rfl
theorem seq_ref : seqOf S (.ref n) = (match S[n]? with
    | some (.lst ds) => some ds
    | _ => none) := rfl
theorem ix_ref : opIx (.ref n) (.int i) S = (match S[n]? with
    | some (.lst ds) => (match atI ds i with
      | some d => some (d, S)
      | none => none)
    | _ => none) := by
  simp only [opIx, seq_ref]
  rcases S[n]? with _ | _ | _ | _ | _ <;> rfl
theorem ix_tup : opIx (.tup ds) (.int i) S = (match atI ds i with
      | some d => some (d, S)
      | none => none) := rfl
theorem ix_fz : opIx (.fz ds) (.int i) S = (match atI ds i with
      | some d => some (d, S)
      | none => none) := rfl
theorem app_ref {y : Dv} : mAppend (.ref n) [y] S = (match S[n]? with
    | some (.lst es) => if es.length < lim then some (.non, S.set n (.lst (es ++ [y]))) else none
    | _ => none) := rfl
theorem len_ref : fLen [.ref n] S = (match S[n]? with
    | some (.lst ds) => some (.int (ds.length : Nat), S)
    | _ => none) := by
  simp only [fLen, seq_ref]
  rcases S[n]? with _ | _ | _ | _ | _ <;> rfl
end
theorem eqD_int (i j : Int) (S : Sto) : eqD (.int i) (.int j) S = some (decide (i = j)) := by
  simp [eqD]
theorem mk_t (ds : List Dv) (S : Sto) : mk true ds S = (.ref S.length, S ++ [.lst ds]) := rfl
theorem mk_f (ds : List Dv) (S : Sto) : mk false ds S = (.fz ds, S) := rfl
theorem add_fz {m : Bool} {ds es : List Dv} {S : Sto} : opAdd m (.fz ds) (.fz es) S = (if ds.length + es.length ≤ lim then some (mk m (ds ++ es) S) else none) := rfl
theorem add_rf {m : Bool} {n : Nat} {es : List Dv} {S : Sto} : opAdd m (.ref n) (.fz es) S = (match S[n]? with
    | some (.lst ds) => if ds.length + es.length ≤ lim then some (mk m (ds ++ es) S) else none
    | _ => none) := by
  simp only [opAdd, listOf]
  rcases S[n]? with _ | _ | _ | _ | _ <;> rfl
theorem add_tt {m : Bool} {ds es : List Dv} {S : Sto} : opAdd m (.tup ds) (.tup es) S = (if ds.length + es.length ≤ lim then some (.tup (ds ++ es), S) else none) := rfl
theorem sl_tup {m : Bool} {ds : List Dv} {lo hi : Option Int} {S : Sto} : slD m (.tup ds) lo hi S = some (.tup (cutD ds lo hi), S) := rfl
theorem sl_fz {m : Bool} {ds : List Dv} {lo hi : Option Int} {S : Sto} : slD m (.fz ds) lo hi S = some (mk m (cutD ds lo hi) S) := rfl
theorem len_fz {ds : List Dv} {S : Sto} : fLen [.fz ds] S = some (.int (ds.length : Nat), S) := rfl
theorem tuple_fz {ds : List Dv} {S : Sto} : fTuple [.fz ds] S = some (.tup ds, S) := rfl
theorem tuple_ref {n : Nat} {S : Sto} : fTuple [.ref n] S = (match S[n]? with
    | some (.lst ds) => some (.tup ds, S)
    | _ => none) := by
  simp only [fTuple, seqOf, listOf]
  rcases S[n]? with _ | _ | _ | _ | _ <;> rfl
theorem dic_ref {n : Nat} {S : Sto} : dicOf S (.ref n) = (match S[n]? with
    | some (.dic kvs) => some kvs
    | some (.ldic kvs) => some kvs
    | _ => none) := rfl
theorem lim_big {n : Nat} (h : n ≤ lim) : n < big := by
  rw [big_eq]
  have := lim_eq
  omega
theorem it_seq0 {S : Sto} {d : Dv} {ds : List Dv} (h : seqOf S d = some ds) (i : Nat) : itSeq d S i = some ds[i]? := by
  have := it_seq h [] i
  rwa [List.append_nil] at this
def Goes {α : Type} (it : Itf) (S : Sto) (xs : List α) (enc : α → Dv) : Prop := ∀ i, it S i = some (xs[i]?.map enc)
theorem goes_seq {α : Type} {S : Sto} {d : Dv} {xs : List α} {enc : α → Dv} (h : seqOf S d = some (xs.map enc)) : Goes (itSeq d) S xs enc := fun i => by
  rw [it_seq0 h, List.getElem?_map]
theorem goes_range {S : Sto} (lo : Int) (n : Nat) : Goes (itRange lo n) S (List.range n) fun i => .int (lo + (i : Nat)) := fun i => by
  simp only [itRange]
  by_cases h : i < n
  · rw [if_pos h, List.getElem?_range h]
    rfl
  · rw [if_neg h, List.getElem?_eq_none (by simpa using Nat.le_of_not_lt h)]
    rfl
theorem goes_zip {α β : Type} {S : Sto} {d e : Dv} {xs : List α} {ys : List β} {enc : α → Dv} {enc' : β → Dv} (h : seqOf S d = some (xs.map enc)) (h' : seqOf S e = some (ys.map enc')) : Goes (itZip d e) S (xs.zip ys) fun p => .tup [enc p.1, enc' p.2] := fun i => by
  simp only [itZip, h, h', List.getElem?_map, List.zip, List.getElem?_zipWith]
  cases xs[i]? <;> cases ys[i]? <;> rfl
theorem for_list {α τ : Type} {it : Itf} {tg : Tg} {b : DS} (xs : List α) (enc : α → Dv) (E : τ → Ev) (T : τ → Sto) (f : τ → α → τ) (I : List α → τ → Prop) (t0 : τ)
    (hit : ∀ t, Goes it (T t) xs enc) (hN : xs.length < big) (h0 : I [] t0)
    (step : ∀ pre x post t, xs = pre ++ x :: post → I pre t → I (pre ++ [x]) (f t x) ∧ ∃ ρ1, tg.asg (enc x) (E t) = some ρ1 ∧ b ρ1 (T t) = .ok (.nx (E (f t x))) (T (f t x))) :
    forL it tg b big 0 (E t0) (T t0) = .ok (.nx (E (xs.foldl f t0))) (T (xs.foldl f t0)) ∧ I xs (xs.foldl f t0) := by
  have key := forL_run (it := it) (tg := tg) (b := b) (N := xs.length) (fun i ρ S => ρ = E ((xs.take i).foldl f t0) ∧ S = T ((xs.take i).foldl f t0) ∧ I (xs.take i) ((xs.take i).foldl f t0))
    (fun o S => o = .nx (E (xs.foldl f t0)) ∧ S = T (xs.foldl f t0) ∧ I xs (xs.foldl f t0))
    (fun i ρ S hi hh => by
      obtain ⟨rfl, rfl, hI⟩ := hh
      have hx : xs[i]? = some xs[i] := List.getElem?_eq_getElem hi
      have e : xs = xs.take i ++ xs[i] :: xs.drop (i + 1) := by
        rw [List.getElem_cons_drop, List.take_append_drop]
      obtain ⟨h1, ρ1, h2, h3⟩ := step _ _ _ _ e hI
      have tk : xs.take (i + 1) = xs.take i ++ [xs[i]] := by
        rw [List.take_add_one, hx]
        rfl
      refine ⟨enc xs[i], ρ1, by rw [hit, hx]; rfl, h2, _, _, h3, ?_, ?_, ?_⟩
      · rw [tk, List.foldl_append]; rfl
      · rw [tk, List.foldl_append]; rfl
      · rw [tk, List.foldl_append]; exact h1)
    (fun ρ S hh => by
      obtain ⟨rfl, rfl, hI⟩ := hh
      rw [List.take_length] at hI ⊢
      exact ⟨by rw [hit, List.getElem?_eq_none (Nat.le_refl _)]; rfl, rfl, rfl, hI⟩)
    big 0 (E t0) (T t0) (Nat.zero_le _) (by omega) ⟨rfl, rfl, h0⟩
  obtain ⟨o, S', e, rfl, rfl, hI⟩ := key
  exact ⟨e, hI⟩
theorem for_pure {α τ : Type} {it : Itf} {tg : Tg} {b : DS} {S : Sto} (xs : List α) (enc : α → Dv) (E : τ → Ev) (f : τ → α → τ) (I : List α → τ → Prop) (t0 : τ)
    (hit : Goes it S xs enc) (hN : xs.length ≤ lim) (h0 : I [] t0)
    (step : ∀ pre x post t, xs = pre ++ x :: post → I pre t → I (pre ++ [x]) (f t x) ∧ ∃ ρ1, tg.asg (enc x) (E t) = some ρ1 ∧ b ρ1 S = .ok (.nx (E (f t x))) S) :
    forL it tg b big 0 (E t0) S = .ok (.nx (E (xs.foldl f t0))) S ∧ I xs (xs.foldl f t0) :=
  for_list xs enc E (fun _ => S) f I t0 (fun _ => hit) (lim_big hN) h0 step
theorem lcV_filter {α : Type} {it : Itf} {tg : Tg} {cond : DT} {elt : DE} {ρ : Ev} {S : Sto} (xs : List α) (enc : α → Dv) (c : α → Bool) (h : α → Dv) (hit : Goes it S xs enc) (hl : xs.length ≤ lim)
    (hx : ∀ x ∈ xs, ∃ ρ2, tg.asg (enc x) ρ = some ρ2 ∧ cond ρ2 S = .ok (c x) S ∧ (c x = true → elt ρ2 S = .ok (h x) S)) :
    lcV it tg cond elt ρ big 0 [] S = .ok (.fz ((xs.filter c).map h)) S := by
  have key : ∀ (m i : Nat), i ≤ xs.length → xs.length - i < m → lcV it tg cond elt ρ m i (((xs.take i).filter c).map h) S = .ok (.fz ((xs.filter c).map h)) S := by
    intro m
    induction m with
    | zero => intro i _ h; omega
    | succ m ih =>
      intro i hi hm
      unfold lcV
      by_cases e : i = xs.length
      · subst e
        rw [hit, List.getElem?_eq_none (Nat.le_refl _), List.take_length]
        rfl
      · have hi2 : i < xs.length := by omega
        have hxi : xs[i]? = some xs[i] := List.getElem?_eq_getElem hi2
        obtain ⟨ρ2, e1, e2, e3⟩ := hx xs[i] (List.getElem_mem hi2)
        have tk : xs.take (i + 1) = xs.take i ++ [xs[i]] := by
          rw [List.take_add_one, hxi]
          rfl
        rw [hit, hxi]
        simp only [Option.map_some, e1, e2, Res.bdN_ok]
        have nx := ih (i + 1) hi2 (by omega)
        rw [tk, List.filter_append, List.map_append] at nx
        cases hc : c xs[i] with
        | false =>
          rw [List.filter_cons_of_neg (by rw [hc]; simp), List.filter_nil, List.map_nil, List.append_nil] at nx
          rw [if_neg Bool.false_ne_true]
          exact nx
        | true =>
          rw [List.filter_cons_of_pos hc, List.filter_nil, List.map_cons, List.map_nil] at nx
          rw [if_pos rfl, e3 hc, Res.bdN_ok, if_pos]
          · exact nx
          · rw [List.length_map]
            have h1 := List.length_filter_le c (xs.take i)
            have h2 : (xs.take i).length ≤ i := by simp; omega
            omega
  have := key big 0 (Nat.zero_le _) (by have := lim_big hl; omega)
  simpa using this
theorem lcV_map {α : Type} {it : Itf} {tg : Tg} {elt : DE} {ρ : Ev} {S : Sto} (xs : List α) (enc : α → Dv) (h : α → Dv) (hit : Goes it S xs enc) (hl : xs.length ≤ lim)
    (hx : ∀ x ∈ xs, ∃ ρ2, tg.asg (enc x) ρ = some ρ2 ∧ elt ρ2 S = .ok (h x) S) : lcV it tg tTrue elt ρ big 0 [] S = .ok (.fz (xs.map h)) S := by
  have e := lcV_filter (cond := tTrue) xs enc (fun _ => true) h hit hl fun x hm => by
    obtain ⟨ρ2, e1, e2⟩ := hx x hm
    exact ⟨ρ2, e1, rfl, fun _ => e2⟩
  rwa [List.filter_eq_self.mpr fun _ _ => rfl] at e
section
variable {f g : DS} {ρ ρ0 ρ1 : Ev} {S S1 S2 G : Sto} {d : Dv} {ds : List Dv} {c n : Nat} {args : List Dv} {b : DS}
theorem f_val (he : args.map some ++ List.replicate (n - args.length) none = ρ0) (h : b ρ0 S = .ok (.rt d) (S ++ G)) (hp : d.plain = true) : runF n b args S = .ok d S := by
  unfold runF
  rw [run_rt he h, tidy_ok hp]
theorem f_val0 (he : args.map some ++ List.replicate (n - args.length) none = ρ0) (h : b ρ0 S = .ok (.rt d) S) (hp : d.plain = true) : runF n b args S = .ok d S :=
  f_val (G := []) he (by rw [List.append_nil]; exact h) hp
theorem f_non (he : args.map some ++ List.replicate (n - args.length) none = ρ0) (h : b ρ0 S = .ok (.nx ρ1) (S ++ G)) : runF n b args S = .ok .non S := by
  unfold runF
  rw [run_nx he h, tidy_ok rfl]
theorem f_exn (he : args.map some ++ List.replicate (n - args.length) none = ρ0) (h : b ρ0 S = .ok (.ex c ρ1) (S ++ G)) : runF n b args S = .exn c S := by
  unfold runF
  rw [run_ex he h, tidy_exn]
end
theorem log2_lt {n k : Nat} (h : n < 2 ^ k) (hk : 0 < k) : n.log2 < k := by
  by_cases h0 : n = 0
  · subst h0
    simpa using hk
  · exact (Nat.log2_lt h0).mpr h
theorem mulOk_of {i j : Int} {a b : Nat} (h1 : i.natAbs < 2 ^ a) (h2 : j.natAbs < 2 ^ b) (ha : 0 < a) (hb : 0 < b) (h : a + b ≤ 100000000) : mulOk i j = true := by
  have e1 := log2_lt h1 ha
  have e2 := log2_lt h2 hb
  simp only [mulOk, decide_eq_true_eq]
  omega
theorem divOk_of {j : Int} {a : Nat} (h0 : 0 < j) (h1 : j.natAbs < 2 ^ a) (ha : 0 < a) (h : a ≤ 9000) : divOk j = true := by
  have e1 := log2_lt h1 ha
  simp only [divOk, Bool.and_eq_true, decide_eq_true_eq]
  exact ⟨h0, by omega⟩
theorem abs_mul {i j : Int} {a b : Nat} (h1 : i.natAbs < 2 ^ a) (h2 : j.natAbs < 2 ^ b) : (i * j).natAbs < 2 ^ (a + b) := by
  rw [Int.natAbs_mul, Nat.pow_add]
  by_cases h0 : j.natAbs = 0
  · rw [h0, Nat.mul_zero]
    exact Nat.mul_pos (Nat.two_pow_pos _) (Nat.two_pow_pos _)
  · exact Nat.lt_of_lt_of_le (Nat.mul_lt_mul_of_pos_right h1 (by omega)) (Nat.mul_le_mul_left _ (Nat.le_of_lt h2))
theorem at0 {α : Type} (a : α) (l : List α) : atI (a :: l) 0 = some a := by
  have := atI_nat (xs := a :: l) (j := 0) (v := a) rfl
  simpa using this
theorem at1 {α : Type} (a b : α) (l : List α) : atI (a :: b :: l) 1 = some b := by
  have := atI_nat (xs := a :: b :: l) (j := 1) (v := b) rfl
  simpa using this
theorem at2 {α : Type} (a b c : α) (l : List α) : atI (a :: b :: c :: l) 2 = some c := by
  have := atI_nat (xs := a :: b :: c :: l) (j := 2) (v := c) rfl
  simpa using this
theorem abs_if (a : Int) : (if a < 0 then -a else a) = ((a.natAbs : Nat) : Int) := by split <;> omega
end Fc
set_option exponentiation.threshold 256
set_option maxHeartbeats 4000000
set_option maxHeartbeats 4000000
namespace Fc
open PySem L2
section
open PySem.W PyProof.Rows
variable {X : Cx} {C : Nat → Addr}
end
end Fc
set_option exponentiation.threshold 256
set_option maxHeartbeats 4000000
set_option maxHeartbeats 4000000
namespace Fc
open PySem PySem.Spec PyProof.Rows L2
section
variable {prog : Program} {w : World} {A : Around} {E : Value → Shared → Prop} {s : Shared}
theorem adjust_rev (n : Nat) : Builtin.Slice.sliceAdjust none none (-1) (n : Int) = ((n : Int) - 1, -1) := by
  unfold Builtin.Slice.sliceAdjust
  simp
theorem places_rev (n : Nat) : Builtin.Slice.slicePlaces ((n : Int) - 1) (-1) (-1) = n := by
  unfold Builtin.Slice.slicePlaces
  simp
  split <;> omega
theorem sliceApplied_rev {sl : Addr} {vs : Value} {n : Nat} {Q : Int × Int × Nat → Shared → Prop} (hs : s.heap.IsSliceOf sl .none .none vs) (ps : IsPart vs (some (-1))) (h : Q ((n : Int) - 1, -1, n) s) :
    wpAny (model prog w) A (Builtin.Slice.sliceApplied (.ref sl) (pure (n : Int))) Q E s := by
  obtain ⟨u, rfl⟩ : ∃ u, vs = .int (-1) u := by
    cases ps
    exact ⟨_, rfl⟩
  obtain ⟨os, hos, hcs, hds⟩ := id hs
  unfold Builtin.Slice.sliceApplied Builtin.Slice.sliceFields
  refine wpAny_bind (wpAny_bind (wpAny_field hos hds (x := .none) rfl (wpAny_bind (wpAny_field hos hds (x := .none) rfl (wpAny_bind (wpAny_field hos hds (x := .int (-1) u) rfl (wpAny_pure ?_)))))))
  refine wpAny_bind (slicePart_int ?_)
  show wpAny _ _ (if ((-1 : Int) == 0) = true then _ else _) _ _ s
  rw [if_neg (by decide)]
  refine wpAny_bind (slicePart_none (wpAny_bind (slicePart_none (wpAny_bind (wpAny_pure ?_)))))
  show wpAny _ _ (match Builtin.Slice.sliceAdjust none none (-1) (n : Int) with | (lo, hi) => pure (lo, (-1 : Int), Builtin.Slice.slicePlaces lo hi (-1))) _ _ s
  rw [adjust_rev n]
  show wpAny _ _ (pure ((n : Int) - 1, (-1 : Int), Builtin.Slice.slicePlaces ((n : Int) - 1) (-1) (-1))) _ _ s
  rw [places_rev n]
  exact wpAny_pure h
theorem fm_congr {α β : Type} {f g : α → Option β} : ∀ {l : List α}, (∀ x ∈ l, f x = g x) → l.filterMap f = l.filterMap g
  | [], _ => rfl
  | x :: l, h => by
    rw [List.filterMap_cons, List.filterMap_cons, h x (by simp), fm_congr fun y hy => h y (by simp [hy])]
theorem pick_rev (xs : Array Value) : ((List.range xs.size).filterMap fun (k : Nat) => xs[(((xs.size : Int) - 1) + (k : Int) * -1).toNat]?).toArray = xs.toList.reverse.toArray := by
  congr 1
  apply List.ext_getElem?
  intro i
  have e : ((List.range xs.size).filterMap fun (k : Nat) => xs[(((xs.size : Int) - 1) + (k : Int) * -1).toNat]?) = (List.range xs.size).filterMap fun k => xs.toList[xs.size - 1 - k]? := by
    refine fm_congr fun k hk => ?_
    have : (((xs.size : Int) - 1) + (k : Int) * -1).toNat = xs.size - 1 - k := by omega
    rw [this, Array.getElem?_toList]
  rw [e]
  have e2 : ((List.range xs.size).filterMap fun k => xs.toList[xs.size - 1 - k]?) = xs.toList.reverse := by
    have h1 : xs.toList.reverse = (List.range xs.size).map fun k => (xs.toList[xs.size - 1 - k]?).getD .none := by
      apply List.ext_getElem?
      intro j
      rw [List.getElem?_map]
      by_cases hj : j < xs.size
      · rw [List.getElem?_range hj, List.getElem?_reverse (by simpa using hj)]
        simp only [Array.length_toList, Option.map_some]
        have : xs.size - 1 - j < xs.toList.length := by simp; omega
        rw [List.getElem?_eq_getElem this]
        rfl
      · rw [List.getElem?_eq_none (by simp; omega), List.getElem?_eq_none (by simp; omega)]
        rfl
    rw [h1, ← List.filterMap_eq_map]
    refine fm_congr fun k hk => ?_
    have hk := List.mem_range.mp hk
    have : xs.size - 1 - k < xs.toList.length := by simp; omega
    simp only [Function.comp_apply, List.getElem?_eq_getElem this]
    rfl
  rw [e2]
theorem getItem_tuple_rev {t sl : Addr} {items : Array Value} {vs : Value} {Q : Value → Shared → Prop} (ht : IsTup s.heap t items) (hs : s.heap.IsSliceOf sl .none .none vs) (ps : IsPart vs (some (-1)))
    (h : Q (.ref s.heap.objs.size) { s with heap := s.heap.push { cls := .type "tuple", data := .seq items.toList.reverse.toArray } })
    (hsz : items.size ≤ sizeLine) : wpAny (model prog w) A (getItem (.ref t) (.ref sl)) Q E s := by
  have hdrop : sizeOk (.seq items.toList.reverse.toArray) := by
    show items.toList.reverse.toArray.size ≤ sizeLine
    rw [List.size_toArray, List.length_reverse, Array.length_toList]
    exact hsz
  obtain ⟨os, hos, hcs, hds⟩ := id hs
  have hTs : s.TypeIs (.ref sl) "slice" := ⟨os, hos, hcs⟩
  unfold getItem
  try with_reducible refine wpAny_holding ?_
  first | refine wpAny_bind (wpAny_pure ?_) | skip
  refine wpAny_bind (wpAny_sequenceKey ht.typeIs (by decide) ?_)
  refine wpAny_bind (wpAny_callSpecial?_slot (name := Str.ofString "__getitem__") ht.typeIs PyProof.Rows.slot_tuple_getitem
    (wpAny_call_entry PyProof.Rows.slot_tuple_getitem ht.typeIs entry_tuple_getitem ?_ (args_tuple_getitem _ _)))
  show wpAny _ _ (Builtin.Tuple.tupleItemsOf (.ref t) >>= _) _ _ s
  refine wpAny_bind (tupleItemsOf_ ht ?_)
  refine wpAny_bind (wpAny_typeOf hTs ?_)
  rw [if_pos (by decide)]
  refine wpAny_bind (sliceApplied_rev hs ps ?_)
  have hno : ¬ ((((items.size : Int) - 1) == 0 && (-1 : Int) == 1 && items.size == items.size) = true) := by
    simp
  show wpAny _ _ (if (((items.size : Int) - 1) == 0 && (-1 : Int) == 1 && items.size == items.size) = true then _ else _) _ _ s
  rw [if_neg hno, pick_rev items]
  first
    | exact wpAny_bind (m := Builtin.Tuple.tupleExact _) (wpAny_newObj_type (wpAny_pure ⟨_, rfl, wpAny_pure h⟩) hdrop)
    | exact wpAny_bind (m := Builtin.Tuple.tupleExact _) (wpAny_newObj_type (wpAny_bind (wpAny_pure (wpAny_pure ⟨_, rfl, wpAny_pure h⟩))) hdrop)
    | exact wpAny_bind (wpAny_bind (m := Builtin.Tuple.tupleExact _) (wpAny_newObj_type (wpAny_pure (wpAny_pure ⟨_, rfl, wpAny_pure h⟩)) hdrop))
    | exact wpAny_bind (wpAny_bind (m := Builtin.Tuple.tupleExact _) (wpAny_newObj_type (wpAny_pure ⟨_, rfl, wpAny_pure h⟩) hdrop))
end
section
variable {X : Cx}
def tRevT (K : PySem.W.Frag) (te : TE) : TE := fun σ H Q => te σ H fun x H1 => ∃ a xs, x = .ref a ∧ ((SqL K H1 a xs ∧ ∀ p, H1 p = none → Q (.ref p) (upd H1 p (.lst xs.reverse))) ∨ (SqT K H1 a xs ∧ ∀ p, H1 p = none → Q (.ref p) (upd H1 p (.tup xs.reverse))))
theorem pe_revT {e : Expr} {te : TE} {k : Nat} {p1 p2 p3 pos : Pos} (he : PE X e te) : PE X (.Subscript e (.Slice none none (some (.UnaryOp .USub (.Constant (.int 1) k p1) p2)) p3) pos) (tRevT X.K te) := by
  refine ⟨fun pins s σ H Q I h => ?_⟩
  refine Subscript_ (thn (he.run pins s σ H _ I h) fun v s1 ⟨x, H1, I1, r1, q1⟩ => ?_)
  obtain ⟨a, xs, ex, q⟩ := q1
  subst ex
  cases r1
  have hst : PO X (some (.UnaryOp .USub (.Constant (.int 1) k p1) p2)) (tPart (tUn (rU fun i => .int (-i)) (tC (.int 1)))) := po_some (pe_un un_neg pe_int)
  refine wpAny_Slice (thn (po_none.run pins s1 σ H1 (fun o H2 => o = none ∧ H2 = H1) I1 ⟨rfl, rfl⟩) fun vl s2 ⟨l, H2, I2, pl, el, e2⟩ => ?_)
  subst el e2
  refine thn (po_none.run pins s2 σ H2 (fun o H3 => o = none ∧ H3 = H2) I2 ⟨rfl, rfl⟩) fun vu s3 ⟨u, H3, I3, pu, eu, e3⟩ => ?_
  subst eu e3
  refine thn (hst.run pins s3 σ H3 (fun o H4 => o = some (-1) ∧ H4 = H3) I3 ⟨1, rfl, -1, rfl, rfl, rfl⟩) fun vs s4 ⟨o, H4, I4, ps, eo, e4⟩ => ?_
  subst eo e4
  have I5 : Inv X pins σ H4 { s4 with heap := s4.heap.push { cls := .type "slice", data := .fields #[vl, vu, vs] } } := I4.kept (t' := s4.toks) fun b ob q => Heap.get?_push_of_some _ q
  cases pl
  cases pu
  rcases q with ⟨hx, q⟩ | ⟨hx, q⟩
  · obtain ⟨its, r, ht, hz⟩ := I5.list hx
    have hlen := r.length
    show wpAny (model X.prog X.w) X.A (subscriptTail e (.Slice none none (some (.UnaryOp .USub (.Constant (.int 1) k p1) p2)) p3) (.ref a) (.ref s4.heap.objs.size)) (EP X pins σ Q) X.xe { s4 with heap := s4.heap.push { cls := .type "slice", data := .fields #[.none, .none, vs] } }
    refine tail_any (ops := [.ref a, .ref s4.heap.objs.size]) ht.isList.typeIs (PySem.slot_list_getitem.lookup) ?_ (by with_unfolding_all rfl)
    refine wpAny_getItem_list_slice ht.isList (Heap.IsSliceOf.new _ .none .none vs) .none .none ps (by decide) ?_ (by rw [List.size_toArray]; omega)
    rw [PySem.W.krv_pick]
    refine ⟨.ref _, _, I5.laid (t' := s4.toks) (o := .lst xs.reverse) (fun b ob q => Heap.get?_push_of_some _ q) (Nat.le_refl _) ?_, rfl, q _ (I5.hok.fresh (Nat.le_refl _))⟩
    exact ⟨by rw [List.length_reverse]; exact hz, _, 0, r.reverse, Heap.get?_push_size _ rfl⟩
  · obtain ⟨its, r, ht, hz⟩ := I5.tuple hx
    have hlen := r.length
    show wpAny (model X.prog X.w) X.A (subscriptTail e (.Slice none none (some (.UnaryOp .USub (.Constant (.int 1) k p1) p2)) p3) (.ref a) (.ref s4.heap.objs.size)) (EP X pins σ Q) X.xe { s4 with heap := s4.heap.push { cls := .type "slice", data := .fields #[.none, .none, vs] } }
    refine tail_any (ops := [.ref a, .ref s4.heap.objs.size]) ht.typeIs (PyProof.Rows.slot_tuple_getitem.lookup) ?_ (by with_unfolding_all rfl)
    refine getItem_tuple_rev ht (Heap.IsSliceOf.new _ .none .none vs) ps ?_ (by rw [List.size_toArray]; omega)
    refine ⟨.ref _, _, I5.laid (t' := s4.toks) (o := .tup xs.reverse) (fun b ob q => Heap.get?_push_of_some _ q) (Nat.le_refl _) ?_, rfl, q _ (I5.hok.fresh (Nat.le_refl _))⟩
    exact ⟨by rw [List.length_reverse]; exact hz, _, r.reverse, IsTup.new _ _⟩
end
def revD (m : Bool) (x : Dv) (S : Sto) : Option (Dv × Sto) := match x with
  | .tup ds => some (.tup ds.reverse, S)
  | d => match listOf S d with
    | some ds => some (mk m ds.reverse S)
    | none => none
def eRev (m : Bool) (f : DE) : DE := fun ρ S => (f ρ S).bd fun d S1 => ofO (revD m d S1)
theorem rev_VR {K : PySem.W.Frag} {H : Hp} {μ : Mu} : ∀ {ds : List Dv} {vs : List V}, VRs K H μ ds vs → VRs K H μ ds.reverse vs.reverse := by
  intro ds
  induction ds with
  | nil => intro vs h; rw [VRs_nil.mp h]; exact VRs_nil.mpr rfl
  | cons d ds ih =>
    intro vs h
    obtain ⟨v, t, rfl, h1, h2⟩ := VRs_cons.mp h
    rw [List.reverse_cons, List.reverse_cons]
    exact (ih h2).append (VRs_cons.mpr ⟨v, [], rfl, h1, VRs_nil.mpr rfl⟩)
theorem se_rev {X : Cx} {C : Nat → Addr} {W : WX} (m : Bool) {e : Expr} {f : DE} {k : Nat} {p1 p2 p3 pos : Pos} (he : SE X C W e f) : SE X C W (.Subscript e (.Slice none none (some (.UnaryOp .USub (.Constant (.int 1) k p1) p2)) p3) pos) (eRev m f) := by
  refine ⟨pe_imp (pe_revT he.pe) fun σ H Q q => ?_⟩
  obtain ⟨μ, ρ, S, rl, q⟩ := q
  refine ⟨μ, ρ, S, rl, (tR.bd q).imp fun v H1 q1 => ?_⟩
  obtain ⟨μ1, S1, d, a1, sr, vr, q⟩ := q1
  have q : tR X.K C W0 (PV X.K) (ofO (revD m d S1)) μ1 [] H1 Q := tR.ofO q
  cases e1 : listOf S1 d with
  | some ds =>
    have e2 : revD m d S1 = some (mk m ds.reverse S1) := by
      cases d with
      | tup _ => cases e1
      | _ => simp only [revD, e1]
    obtain ⟨a, vs, rfl, h1, h2⟩ := listOf_sq sr e1 vr
    rw [e2] at q
    exact ⟨a, vs, rfl, .inl ⟨h1, new_mk sr (rev_VR h2) q⟩⟩
  | none =>
    cases d with
    | tup ds =>
      obtain ⟨a, vs, rfl, h1, h2⟩ := VR_tup.mp vr
      exact ⟨a, vs, rfl, .inr ⟨h1, fun p hp => new_tup sr (rev_VR h2) q p hp⟩⟩
    | _ =>
      simp only [revD, e1] at q
      exact q.elim
end Fc
set_option exponentiation.threshold 256
set_option maxHeartbeats 4000000
set_option maxHeartbeats 4000000
namespace Fc
open PySem L2
inductive M (α : Type) where
  | ok (a : α) | exn (c : Nat) | no
namespace M
variable {α β γ : Type}
def bd (m : M α) (f : α → M β) : M β := match m with
  | .ok a => f a
  | .exn c => .exn c
  | .no => .no
def bdN (m : M α) (f : α → M β) : M β := match m with
  | .ok a => f a
  | .exn _ => .no
  | .no => .no
@[simp] theorem bd_ok (a : α) (f : α → M β) : (M.ok a).bd f = f a := rfl
@[simp] theorem bd_exn (c : Nat) (f : α → M β) : (M.exn c : M α).bd f = .exn c := rfl
@[simp] theorem bd_no (f : α → M β) : (M.no : M α).bd f = .no := rfl
@[simp] theorem bdN_ok (a : α) (f : α → M β) : (M.ok a).bdN f = f a := rfl
@[simp] theorem bdN_exn (c : Nat) (f : α → M β) : (M.exn c : M α).bdN f = .no := rfl
@[simp] theorem bdN_no (f : α → M β) : (M.no : M α).bdN f = .no := rfl
theorem bd_assoc (m : M α) (f : α → M β) (g : β → M γ) : (m.bd f).bd g = m.bd fun a => (f a).bd g := by cases m <;> rfl
end M
def gd {α : Type} (b : Bool) (m : M α) : M α := if b then m else .no
abbrev Rn (α : Type) := α → Sto → Dv → Prop
def Sn (S : Sto) (d' d : Dv) : Prop := d' = d ∨ ∃ n, d' = .ref n ∧ ((∃ ds, S[n]? = some (.lst ds) ∧ d = .fz ds) ∨ ∃ c fs, S[n]? = some (.ins c fs) ∧ d = .obj c fs)
def vl {α : Type} (e : α → Dv) : Rn α := fun a _ d => d = e a
def sn {α : Type} (e : α → Dv) : Rn α := fun a S d => Sn S d (e a)
def sq {α : Type} (e : α → Dv) : Rn (List α) := fun xs S d => seqOf S d = some (xs.map e)
def encT {α : Type} (e : α → Dv) (l : List α) : Dv := .tup (l.map e)
def encL {α : Type} (e : α → Dv) (l : List α) : Dv := .fz (l.map e)
def encP {α β : Type} (e : α → Dv) (f : β → Dv) (p : α × β) : Dv := .tup [e p.1, f p.2]
def encD : Dv → Dv := fun d => d
def Sim {α : Type} (r : Res Dv) (S : Sto) (m : M α) (R : Rn α) : Prop := match m with
  | .ok a => ∃ d, r = .ok d S ∧ R a S d
  | .exn c => r = .exn c S
  | .no => True
theorem Sim.imp {α : Type} {r : Res Dv} {S : Sto} {m : M α} {R R' : Rn α} (h : Sim r S m R) (k : ∀ a S d, R a S d → R' a S d) : Sim r S m R' := by
  cases m with
  | ok a => obtain ⟨d, h1, h2⟩ := h; exact ⟨d, h1, k _ _ _ h2⟩
  | exn c => exact h
  | no => trivial
inductive Vw where
  | val (d : Dv) | see (d : Dv) | own (n : Nat) (o : Ob)
abbrev Cxt := List (Nat × Vw)
def del (i : Nat) : Cxt → Cxt
  | [] => []
  | p :: Γ => match Nat.beq p.1 i with
    | true => del i Γ
    | false => p :: del i Γ
def dels : List Nat → Cxt → Cxt
  | [], Γ => Γ
  | i :: is, Γ => del i (dels is Γ)
def look (i : Nat) : Cxt → Option Vw
  | [] => none
  | p :: Γ => match Nat.beq p.1 i with
    | true => some p.2
    | false => look i Γ
theorem mem_del {i j : Nat} {v : Vw} : ∀ {Γ : Cxt}, (j, v) ∈ del i Γ → j ≠ i ∧ (j, v) ∈ Γ
  | [], h => by cases h
  | (k, u) :: Γ, h => by
    simp only [del] at h
    split at h
    · obtain ⟨h1, h2⟩ := mem_del h
      exact ⟨h1, List.mem_cons_of_mem _ h2⟩
    · rename_i e
      rcases List.mem_cons.mp h with h | h
      · cases h
        exact ⟨fun z => by subst z; simp at e, List.mem_cons_self⟩
      · obtain ⟨h1, h2⟩ := mem_del h
        exact ⟨h1, List.mem_cons_of_mem _ h2⟩
theorem mem_dels {j : Nat} {v : Vw} {Γ : Cxt} : ∀ {is : List Nat}, (j, v) ∈ dels is Γ → j ∉ is ∧ (j, v) ∈ Γ
  | [], h => ⟨by simp, h⟩
  | i :: is, h => by
    obtain ⟨h1, h2⟩ := mem_del h
    obtain ⟨h3, h4⟩ := mem_dels h2
    exact ⟨by simp [h1, h3], h4⟩
theorem look_mem {i : Nat} {v : Vw} : ∀ {Γ : Cxt}, look i Γ = some v → (i, v) ∈ Γ
  | [], h => by cases h
  | (k, u) :: Γ, h => by
    simp only [look] at h
    split at h
    · rename_i e
      cases h
      have : k = i := Nat.eq_of_beq_eq_true e
      subst this
      exact List.mem_cons_self
    · exact List.mem_cons_of_mem _ (look_mem h)
def subs : Cxt → Cxt → Prop
  | [], _ => True
  | p :: Γ, Γ' => look p.1 Γ' = some p.2 ∧ subs Γ Γ'
theorem subs_mem {p : Nat × Vw} {Γ' : Cxt} : ∀ {Γ : Cxt}, subs Γ Γ' → p ∈ Γ → p ∈ Γ'
  | [], _, h => by cases h
  | q :: Γ, hs, h => by
    rcases List.mem_cons.mp h with rfl | h
    · exact look_mem hs.1
    · exact subs_mem hs.2 h
structure Fx where
  N : Nat
  br : List (Nat × Ob)
def Holds (fx : Fx) (B : Sto) (ρ : Ev) (S : Sto) (i : Nat) : Vw → Prop
  | .val d => ρ[i]? = some (some d)
  | .see d => ∃ d', ρ[i]? = some (some d') ∧ Sn S d' d ∧ ∀ n, d' = .ref n → n < B.length ∧ n ∉ fx.br.map (·.1)
  | .own n o => ρ[i]? = some (some (.ref n)) ∧ S[n]? = some o ∧ (n ∉ fx.br.map (·.1) → B.length ≤ n)
structure Sat (fx : Fx) (B : Sto) (Γ : Cxt) (ρ : Ev) (S : Sto) : Prop where
  wid : fx.N ≤ ρ.length
  len : B.length ≤ S.length
  brl : ∀ p ∈ fx.br, p.1 < B.length ∧ B[p.1]? = some p.2
  old : ∀ n, n < B.length → n ∉ fx.br.map (·.1) → S[n]? = B[n]?
  at_ : ∀ i v, (i, v) ∈ Γ → Holds fx B ρ S i v
  inj : ∀ i j n o o', (i, .own n o) ∈ Γ → (j, .own n o') ∈ Γ → i = j
section
variable {fx : Fx} {B : Sto} {Γ Γ' : Cxt} {ρ : Ev} {S : Sto} {i n : Nat} {d : Dv} {o o' : Ob} {G : Sto}
theorem Sat.sub (h : Sat fx B Γ ρ S) (k : ∀ p, p ∈ Γ' → p ∈ Γ) : Sat fx B Γ' ρ S :=
  ⟨h.wid, h.len, h.brl, h.old, fun i v m => h.at_ i v (k _ m), fun i j n o o' m m' => h.inj i j n o o' (k _ m) (k _ m')⟩
theorem Sat.val (h : Sat fx B Γ ρ S) (e : look i Γ = some (.val d)) : ρ[i]? = some (some d) := h.at_ i _ (look_mem e)
theorem Sat.own (h : Sat fx B Γ ρ S) (e : look i Γ = some (.own n o)) : ρ[i]? = some (some (.ref n)) ∧ S[n]? = some o := ⟨(h.at_ i _ (look_mem e)).1, (h.at_ i _ (look_mem e)).2.1⟩
theorem Holds.set {v : Vw} {j : Nat} {x : Option Dv} (h : Holds fx B ρ S j v) (hj : j ≠ i) : Holds fx B (ρ.set i x) S j v := by
  have e : (ρ.set i x)[j]? = ρ[j]? := List.getElem?_set_ne (Ne.symm hj)
  cases v with
  | val d => exact e.trans h
  | see d => obtain ⟨d', h1, h2⟩ := h; exact ⟨d', e.trans h1, h2⟩
  | own n o => exact ⟨e.trans h.1, h.2⟩
theorem Sat.set (h : Sat fx B Γ ρ S) (hi : i < fx.N) : Sat fx B ((i, .val d) :: del i Γ) (ρ.set i (some d)) S := by
  refine ⟨by simpa using h.wid, h.len, h.brl, h.old, fun j v m => ?_, fun j k n o o' m m' => ?_⟩
  · rcases List.mem_cons.mp m with m | m
    · cases m
      exact List.getElem?_set_self (Nat.lt_of_lt_of_le hi h.wid)
    · obtain ⟨h1, h2⟩ := mem_del m
      exact (h.at_ j v h2).set h1
  · rcases List.mem_cons.mp m with m | m
    · cases m
    · rcases List.mem_cons.mp m' with m' | m'
      · cases m'
      · exact h.inj j k n o o' (mem_del m).2 (mem_del m').2
theorem getElem?_lt {α : Type} {l : List α} {i : Nat} {a : α} (h : l[i]? = some a) : i < l.length := (List.getElem?_eq_some_iff.mp h).1
theorem Sn.grow {d' : Dv} (h : Sn S d' d) (G : Sto) : Sn (S ++ G) d' d := by
  rcases h with h | ⟨n, h1, h2 | h2⟩
  · exact .inl h
  · obtain ⟨ds, h3, h4⟩ := h2
    exact .inr ⟨n, h1, .inl ⟨ds, getElem?_grow h3 G, h4⟩⟩
  · obtain ⟨c, fs, h3, h4⟩ := h2
    exact .inr ⟨n, h1, .inr ⟨c, fs, getElem?_grow h3 G, h4⟩⟩
theorem Sat.grow (h : Sat fx B Γ ρ S) (G : Sto) : Sat fx B Γ ρ (S ++ G) := by
  refine ⟨h.wid, by simp; have := h.len; omega, h.brl, fun n h1 h2 => ?_, fun i v m => ?_, h.inj⟩
  · rw [List.getElem?_append_left (Nat.lt_of_lt_of_le h1 h.len)]
    exact h.old n h1 h2
  · have := h.at_ i v m
    cases v with
    | val d => exact this
    | see d => obtain ⟨d', h1, h2, h3⟩ := this; exact ⟨d', h1, h2.grow G, h3⟩
    | own n o => exact ⟨this.1, getElem?_grow this.2.1 G, this.2.2⟩
theorem Sat.new (h : Sat fx B Γ ρ S) (hi : i < fx.N) (hn : S.length ≤ n) (hG : (S ++ G)[n]? = some o) : Sat fx B ((i, .own n o) :: del i Γ) (ρ.set i (some (.ref n))) (S ++ G) := by
  have g := h.grow G
  have far : ∀ (k : Nat) (q : Ob) , (k, Vw.own n q) ∈ Γ → False := fun k q m => by
    have := (h.at_ k _ m).2.1
    have := getElem?_lt this
    omega
  refine ⟨by simpa using g.wid, g.len, g.brl, g.old, fun j v m => ?_, fun j k n' o1 o2 m m' => ?_⟩
  · rcases List.mem_cons.mp m with m | m
    · cases m
      exact ⟨List.getElem?_set_self (Nat.lt_of_lt_of_le hi h.wid), hG, fun _ => Nat.le_trans h.len hn⟩
    · obtain ⟨h1, h2⟩ := mem_del m
      exact (g.at_ j v h2).set h1
  · rcases List.mem_cons.mp m with m | m
    · cases m
      rcases List.mem_cons.mp m' with m' | m'
      · cases m'; rfl
      · exact (far k _ (mem_del m').2).elim
    · rcases List.mem_cons.mp m' with m' | m'
      · cases m'
        exact (far j _ (mem_del m).2).elim
      · exact h.inj j k n' o1 o2 (mem_del m).2 (mem_del m').2
theorem Sat.put (h : Sat fx B Γ ρ S) (e : look i Γ = some (.own n o)) (o' : Ob) : Sat fx B ((i, .own n o') :: del i Γ) ρ (S.set n o') := by
  have hm := look_mem e
  obtain ⟨a1, a2, a3⟩ := h.at_ i _ hm
  have hl := getElem?_lt a2
  refine ⟨h.wid, by simpa using h.len, h.brl, fun k h1 h2 => ?_, fun j v m => ?_, fun j k n' o1 o2 m m' => ?_⟩
  · have : n ≠ k := by
      rintro rfl
      have := a3 h2
      omega
    rw [List.getElem?_set_ne this]
    exact h.old k h1 h2
  · rcases List.mem_cons.mp m with m | m
    · cases m
      exact ⟨a1, List.getElem?_set_self hl, a3⟩
    · obtain ⟨h1, h2⟩ := mem_del m
      have := h.at_ j v h2
      cases v with
      | val d => exact this
      | see d =>
        obtain ⟨d', b1, b2, b3⟩ := this
        refine ⟨d', b1, ?_, b3⟩
        rcases b2 with b2 | ⟨k, b4, b5⟩
        · exact .inl b2
        · obtain ⟨c1, c2⟩ := b3 k b4
          have : n ≠ k := by
            rintro rfl
            have := a3 c2
            omega
          refine .inr ⟨k, b4, ?_⟩
          rw [List.getElem?_set_ne this]
          exact b5
      | own n2 o2 =>
        refine ⟨this.1, ?_, this.2.2⟩
        have : n ≠ n2 := by
          rintro rfl
          exact h1 (h.inj j i n _ _ h2 hm)
        rw [List.getElem?_set_ne this]
        exact (h.at_ j _ h2).2.1
  · rcases List.mem_cons.mp m with m | m
    · cases m
      rcases List.mem_cons.mp m' with m' | m'
      · cases m'; rfl
      · exact (((mem_del m').1 (h.inj k i n _ _ (mem_del m').2 hm)).elim)
    · rcases List.mem_cons.mp m' with m' | m'
      · cases m'
        exact (((mem_del m).1 (h.inj j i n _ _ (mem_del m).2 hm)).elim)
      · exact h.inj j k n' o1 o2 (mem_del m).2 (mem_del m').2
theorem Sat.wipe (h : Sat fx B Γ ρ S) (vs : List Nat) : Sat fx B (dels vs Γ) (wipeD ρ vs) S := by
  refine ⟨by rw [wipeD_len]; exact h.wid, h.len, h.brl, h.old, fun i v m => ?_, fun i j n o o' m m' => h.inj i j n o o' (mem_dels m).2 (mem_dels m').2⟩
  obtain ⟨h1, h2⟩ := mem_dels m
  have key : ∀ vs : List Nat, i ∉ vs → (wipeD ρ vs)[i]? = ρ[i]? := by
    intro vs
    induction vs with
    | nil => intro _; rfl
    | cons k vs ih =>
      intro hk
      simp only [List.mem_cons, not_or] at hk
      simp only [wipeD]
      rw [List.getElem?_set_ne (Ne.symm hk.1)]
      exact ih hk.2
  have := h.at_ i v h2
  cases v with
  | val d => exact (key vs h1).trans this
  | see d => obtain ⟨d', b1, b2⟩ := this; exact ⟨d', (key vs h1).trans b1, b2⟩
  | own n o => exact ⟨(key vs h1).trans this.1, this.2⟩
structure Unc (fx : Fx) (Γ : Cxt) : Prop where
  un : ∀ B ρ S, Sat fx B Γ ρ S → ∃ G, S = B ++ G
theorem pre_of (hl : B.length ≤ S.length) (h : ∀ n, n < B.length → S[n]? = B[n]?) : ∃ G, S = B ++ G := by
  refine ⟨S.drop B.length, ?_⟩
  apply List.ext_getElem?
  intro i
  by_cases hi : i < B.length
  · rw [List.getElem?_append_left hi, h i hi]
  · rw [List.getElem?_append_right (by omega), List.getElem?_drop]
    congr 1
    omega
theorem unc_nil {N : Nat} : Unc ⟨N, []⟩ Γ := ⟨fun B ρ S h => pre_of h.len fun n hn => h.old n hn (by simp)⟩
theorem unc_one {N j : Nat} (e : look j Γ = some (.own n o)) : Unc ⟨N, [(n, o)]⟩ Γ := ⟨fun B ρ S h => pre_of h.len fun k hk => by
  by_cases hkn : k = n
  · subst hkn
    rw [(h.own e).2]
    exact ((h.brl (k, o) (by simp)).2).symm
  · exact h.old k hk (by simpa using hkn)⟩
end
end Fc
set_option exponentiation.threshold 256
set_option maxHeartbeats 4000000
set_option maxHeartbeats 4000000
namespace Fc
open PySem L2
structure XE {α : Type} (fx : Fx) (Γ : Cxt) (f : DE) (m : M α) (R : Rn α) : Prop where
  run : ∀ B ρ S, Sat fx B Γ ρ S → Sim (f ρ S) S m R
def SimT (r : Res Bool) (S : Sto) (m : M Bool) : Prop := match m with
  | .ok b => r = .ok b S
  | .exn c => r = .exn c S
  | .no => True
structure XT (fx : Fx) (Γ : Cxt) (t : DT) (m : M Bool) : Prop where
  run : ∀ B ρ S, Sat fx B Γ ρ S → SimT (t ρ S) S m
structure XL {α : Type} (fx : Fx) (Γ : Cxt) (l : DL) (m : M α) (R : α → Sto → List Dv → Prop) : Prop where
  run : ∀ B ρ S, Sat fx B Γ ρ S → match m with
    | .ok a => ∃ ds, l ρ S = .ok ds S ∧ R a S ds
    | .exn c => l ρ S = .exn c S
    | .no => True
section
variable {fx : Fx} {Γ : Cxt} {f g f1 f2 f3 fa fb fc : DE} {t u : DT} {l : DL} {α β γ δ ω : Type} {i n : Nat} {d : Dv}
theorem XE.imp {m : M α} {R R' : Rn α} (h : XE fx Γ f m R) (k : ∀ a S d, R a S d → R' a S d) : XE fx Γ f m R' := ⟨fun B ρ S s => (h.run B ρ S s).imp k⟩
theorem XE.seen {m : M α} {e : α → Dv} (h : XE fx Γ f m (vl e)) : XE fx Γ f m (sn e) := h.imp fun _ _ _ h => .inl h
theorem seq_sn {S : Sto} {d' : Dv} {ds : List Dv} (h : Sn S d' (.fz ds)) : seqOf S d' = some ds := by
  rcases h with rfl | ⟨n, rfl, ⟨es, h1, h2⟩ | ⟨c, fs, _, h2⟩⟩
  · rfl
  · cases h2
    rw [seq_ref, h1]
  · cases h2
theorem list_sn {S : Sto} {d' : Dv} {ds : List Dv} (h : Sn S d' (.fz ds)) : listOf S d' = some ds := by
  rcases h with rfl | ⟨n, rfl, ⟨es, h1, h2⟩ | ⟨c, fs, _, h2⟩⟩
  · rfl
  · cases h2
    rw [list_ref, h1]
  · cases h2
theorem XE.sqT {m : M (List α)} {e : α → Dv} (h : XE fx Γ f m (vl (encT e))) : XE fx Γ f m (sq e) := h.imp fun a S d h => by
  cases (show d = encT e a from h)
  rfl
theorem XE.sqL {m : M (List α)} {e : α → Dv} (h : XE fx Γ f m (sn (encL e))) : XE fx Γ f m (sq e) := h.imp fun a S d h => seq_sn h
theorem xe_var (e : α → Dv) (a : α) (h : look i Γ = some (.val (e a)) := by rfl) : XE fx Γ (eVar i) (.ok a) (vl e) := ⟨fun B ρ S s => ⟨e a, by simp only [eVar, s.val h], rfl⟩⟩
theorem xe_c (e : α → Dv) (a : α) (h : e a = d := by rfl) : XE fx Γ (eC d) (.ok a) (vl e) := ⟨fun B ρ S s => ⟨d, rfl, h.symm⟩⟩
theorem xe_as {m : M α} {m' : M β} {R : Rn α} {R' : Rn β} (h : XE fx Γ f m R) (k : α → M β) (hk : ∀ a S d, R a S d → match k a with
    | .ok b => R' b S d
    | .exn _ => False
    | .no => True) (hm : m.bd k = m' := by first | rfl | simp only [M.bd_assoc, M.bd_ok]) : XE fx Γ f m' R' := ⟨fun B ρ S s => by
  have := h.run B ρ S s
  subst hm
  cases m with
  | ok a =>
    obtain ⟨d, h1, h2⟩ := this
    have h3 := hk a S d h2
    simp only [M.bd_ok]
    cases e : k a with
    | ok b => rw [e] at h3; exact ⟨d, h1, h3⟩
    | exn c => rw [e] at h3; exact h3.elim
    | no => trivial
  | exn c => exact this
  | no => trivial⟩
def OpR2 (r : Option (Dv × Sto)) (S : Sto) (m : M α) (R : Rn α) : Prop := match m with
  | .ok c => ∃ d, r = some (d, S) ∧ R c S d
  | .exn _ => False
  | .no => True
theorem OpR2.sim {r : Option (Dv × Sto)} {S : Sto} {m : M α} {R : Rn α} (h : OpR2 r S m R) : Sim (ofO r) S m R := by
  cases m with
  | ok c => obtain ⟨d, h1, h2⟩ := h; exact ⟨d, by rw [h1]; rfl, h2⟩
  | exn c => exact h.elim
  | no => trivial
theorem Sim.bd {r : Res Dv} {S : Sto} {m : M α} {R : Rn α} {k : Dv → Sto → Res Dv} {km : α → M β} {R' : Rn β} (h : Sim r S m R) (hk : ∀ a d, R a S d → Sim (k d S) S (km a) R') : Sim (r.bd k) S (m.bd km) R' := by
  cases m with
  | ok a => obtain ⟨d, h1, h2⟩ := h; rw [h1]; exact hk a d h2
  | exn c => rw [show r = .exn c S from h]; rfl
  | no => trivial
theorem xe_op {o : Op2} {ma : M α} {mb : M β} {m : M γ} {Ra : Rn α} {Rb : Rn β} {R : Rn γ} {k : α → β → M γ} (ha : XE fx Γ fa ma Ra) (hb : XE fx Γ fb mb Rb)
    (ho : ∀ a b S x y, Ra a S x → Rb b S y → OpR2 (o x y S) S (k a b) R) (hm : (ma.bd fun a => mb.bd fun b => k a b) = m := by first | rfl | simp only [M.bd_assoc, M.bd_ok]) : XE fx Γ (eOp o fa fb) m R := ⟨fun B ρ S s => by
  subst hm
  exact (ha.run B ρ S s).bd fun a x h1 => (hb.run B ρ S s).bd fun b y h2 => (ho a b S x y h1 h2).sim⟩
def mulM (a b : Int) : M Int := gd (mulOk a b) (.ok (a * b))
def divM (a b : Int) : M Int := gd (divOk b) (.ok (a / b))
def modM (a b : Int) : M Int := gd (decide (0 < b)) (.ok (a % b))
def ixM (xs : List α) (i : Int) : M α := match atI xs i with
  | some x => .ok x
  | none => .no
theorem o_add {m : Bool} (a b : Int) (S : Sto) (x y : Dv) (h1 : vl Dv.int a S x) (h2 : vl Dv.int b S y) : OpR2 (opAdd m x y S) S (.ok (a + b)) (vl Dv.int) := by
  cases h1; cases h2
  exact ⟨_, rfl, rfl⟩
theorem gd_op {b : Bool} {S : Sto} {d : Dv} {a : α} {R : Rn α} (h : R a S d) : OpR2 (if b then some (d, S) else none) S (gd b (.ok a)) R := by
  cases b with
  | true => exact ⟨d, rfl, h⟩
  | false => trivial
theorem gd_opP {p : Prop} [Decidable p] {S : Sto} {d : Dv} {a : α} {R : Rn α} (h : R a S d) : OpR2 (if p then some (d, S) else none) S (gd (decide p) (.ok a)) R := by
  by_cases hp : p
  · simp only [hp, if_true, decide_true, gd]; exact ⟨d, rfl, h⟩
  · simp only [hp, if_false, decide_false, gd]; trivial
theorem o_mul {m : Bool} (a b : Int) (S : Sto) (x y : Dv) (h1 : vl Dv.int a S x) (h2 : vl Dv.int b S y) : OpR2 (opMul m x y S) S (mulM a b) (vl Dv.int) := by
  cases h1; cases h2
  exact gd_op rfl
theorem o_div (a b : Int) (S : Sto) (x y : Dv) (h1 : vl Dv.int a S x) (h2 : vl Dv.int b S y) : OpR2 (opDiv x y S) S (divM a b) (vl Dv.int) := by
  cases h1; cases h2
  exact gd_op rfl
theorem o_mod (a b : Int) (S : Sto) (x y : Dv) (h1 : vl Dv.int a S x) (h2 : vl Dv.int b S y) : OpR2 (opMod x y S) S (modM a b) (vl Dv.int) := by
  cases h1; cases h2
  exact gd_opP rfl
theorem o_lt (a b : Int) (S : Sto) (x y : Dv) (h1 : vl Dv.int a S x) (h2 : vl Dv.int b S y) : OpR2 (opLt x y S) S (.ok (decide (a < b))) (vl Dv.bl) := by
  cases h1; cases h2
  exact ⟨_, rfl, rfl⟩
theorem o_le (a b : Int) (S : Sto) (x y : Dv) (h1 : vl Dv.int a S x) (h2 : vl Dv.int b S y) : OpR2 (opLe x y S) S (.ok (decide (a ≤ b))) (vl Dv.bl) := by
  cases h1; cases h2
  exact ⟨_, rfl, rfl⟩
theorem o_gt (a b : Int) (S : Sto) (x y : Dv) (h1 : vl Dv.int a S x) (h2 : vl Dv.int b S y) : OpR2 (opGt x y S) S (.ok (decide (b < a))) (vl Dv.bl) := by
  cases h1; cases h2
  exact ⟨_, rfl, rfl⟩
theorem o_ix {e : α → Dv} (a : List α) (b : Int) (S : Sto) (x y : Dv) (h1 : sq e a S x) (h2 : vl Dv.int b S y) : OpR2 (opIx x y S) S (ixM a b) (vl e) := by
  cases h2
  have h1' : seqOf S x = some (a.map e) := h1
  have q : atI (a.map e) b = (atI a b).map e := by
    unfold atI
    rw [List.length_map]
    cases ixN a.length b <;> simp
  simp only [opIx, h1', q, ixM]
  cases atI a b with
  | none => trivial
  | some v => exact ⟨_, rfl, rfl⟩
structure EqE (e : α → Dv) [DecidableEq α] : Prop where
  eq : ∀ a b S, eqD (e a) (e b) S = some (decide (a = b))
theorem eq_int : EqE Dv.int := ⟨fun a b S => by simp [eqD]⟩
theorem o_eq [DecidableEq α] {e : α → Dv} (E : EqE e) (a b : α) (S : Sto) (x y : Dv) (h1 : vl e a S x) (h2 : vl e b S y) : OpR2 (opEq x y S) S (.ok (decide (a = b))) (vl Dv.bl) := by
  cases h1; cases h2
  exact ⟨_, by simp only [opEq, E.eq]; rfl, rfl⟩
theorem o_ne [DecidableEq α] {e : α → Dv} (E : EqE e) (a b : α) (S : Sto) (x y : Dv) (h1 : vl e a S x) (h2 : vl e b S y) : OpR2 (opNe x y S) S (.ok (!decide (a = b))) (vl Dv.bl) := by
  cases h1; cases h2
  exact ⟨_, by simp only [opNe, E.eq]; rfl, rfl⟩
structure IsN (e : α → Dv) (p : α → Bool) : Prop where
  is : ∀ a, isD (e a) .non = some (p a)
def sl (e : α → Dv) : Rn (List α) := fun xs S d => listOf S d = some (xs.map e)
theorem XE.sl {m : M (List α)} {e : α → Dv} (h : XE fx Γ f m (sn (encL e))) : XE fx Γ f m (Fc.sl e) := h.imp fun a S d h => list_sn h
structure InE (e : α → Dv) [DecidableEq α] : Prop where
  in_ : ∀ (a : α) (xs : List α) S d, sl e xs S d → inD (e a) d S = some (decide (a ∈ xs))
theorem xe_ixc {j : Int} {ma : M α} {m : M β} {R : Rn α} {R' : Rn β} {k : α → M β} (ha : XE fx Γ f ma R) (h : ∀ a S x, R a S x → OpR2 (opIx x (.int j) S) S (k a) R') (hm : (ma.bd k) = m := by first | rfl | simp only [M.bd_assoc, M.bd_ok]) : XE fx Γ (eOp opIx f (eC (.int j))) m R' := ⟨fun B ρ S s => by
  subst hm
  have e : eOp opIx f (eC (.int j)) ρ S = (f ρ S).bd fun x S1 => ofO (opIx x (.int j) S1) := by simp only [eOp, eC, Res.bd_ok]
  rw [e]
  exact (ha.run B ρ S s).bd fun a x q => (h a S x q).sim⟩
theorem Sim.bdT {r : Res Dv} {S : Sto} {m : M α} {R : Rn α} {k : Dv → Sto → Res Bool} {km : α → M Bool} (h : Sim r S m R) (hk : ∀ a d, R a S d → SimT (k d S) S (km a)) : SimT (r.bd k) S (m.bd km) := by
  cases m with
  | ok a => obtain ⟨d, h1, h2⟩ := h; rw [h1]; exact hk a d h2
  | exn c => rw [show r = .exn c S from h]; rfl
  | no => trivial
theorem SimT.bd {r : Res Bool} {S : Sto} {m : M Bool} {k : Bool → Sto → Res Dv} {km : Bool → M β} {R' : Rn β} (h : SimT r S m) (hk : ∀ c, Sim (k c S) S (km c) R') : Sim (r.bd k) S (m.bd km) R' := by
  cases m with
  | ok a => rw [show r = .ok a S from h]; exact hk a
  | exn c => rw [show r = .exn c S from h]; rfl
  | no => trivial
theorem SimT.bdT {r : Res Bool} {S : Sto} {m : M Bool} {k : Bool → Sto → Res Bool} {km : Bool → M Bool} (h : SimT r S m) (hk : ∀ c, SimT (k c S) S (km c)) : SimT (r.bd k) S (m.bd km) := by
  cases m with
  | ok a => rw [show r = .ok a S from h]; exact hk a
  | exn c => rw [show r = .exn c S from h]; rfl
  | no => trivial
theorem xt_of {m : M Bool} (h : XE fx Γ f m (vl Dv.bl)) : XT fx Γ (tTs f) m := ⟨fun B ρ S s => by
  have := h.run B ρ S s
  cases m with
  | ok b =>
    obtain ⟨d, h1, h2⟩ := this
    cases h2
    show tTs f ρ S = _
    simp only [tTs, h1, Res.bd_ok]
  | exn c => show tTs f ρ S = _; simp only [tTs, show f ρ S = .exn c S from this, Res.bd_exn]
  | no => trivial⟩
theorem xt_tt : XT fx Γ tTrue (.ok true) := ⟨fun B ρ S s => rfl⟩
theorem xt_or {mt mu m : M Bool} (ht : XT fx Γ t mt) (hu : XT fx Γ u mu) (hm : (mt.bd fun c => if c then .ok true else mu) = m := by first | rfl | simp only [M.bd_assoc, M.bd_ok]) : XT fx Γ (tOr2 t u) m := ⟨fun B ρ S s => by
  subst hm
  exact (ht.run B ρ S s).bdT fun c => by
    cases c with
    | true => rfl
    | false => exact hu.run B ρ S s⟩
theorem xt_not {mt m : M Bool} (ht : XT fx Γ t mt) (hm : (mt.bd fun c => .ok (!c)) = m := by first | rfl | simp only [M.bd_assoc, M.bd_ok]) : XT fx Γ (tNot2 t) m := ⟨fun B ρ S s => by
  subst hm
  exact (ht.run B ρ S s).bdT fun c => rfl⟩
theorem xe_and {ma mb m : M Bool} (ha : XE fx Γ fa ma (vl Dv.bl)) (hb : XE fx Γ fb mb (vl Dv.bl)) (hm : (ma.bd fun c => if c then mb else .ok false) = m := by first | rfl | simp only [M.bd_assoc, M.bd_ok]) : XE fx Γ (eAnd fa fb) m (vl Dv.bl) := ⟨fun B ρ S s => by
  subst hm
  exact (ha.run B ρ S s).bd fun c d h => by
    cases h
    cases c with
    | true => exact hb.run B ρ S s
    | false => exact ⟨_, rfl, rfl⟩⟩
theorem xe_not {ma m : M Bool} (ha : XE fx Γ f ma (vl Dv.bl)) (hm : (ma.bd fun c => .ok (!c)) = m := by first | rfl | simp only [M.bd_assoc, M.bd_ok]) : XE fx Γ (eNot f) m (vl Dv.bl) := ⟨fun B ρ S s => by
  subst hm
  exact (ha.run B ρ S s).bd fun c d h => by
    cases h
    exact ⟨_, rfl, rfl⟩⟩
structure TyE (T : Ty) (e : α → Dv) (p : α → Bool) : Prop where
  ty : ∀ a S d, e a = d → ∃ t, tyD S d = some t ∧ isT t T = p a
def isiM (T : Ty) (d : Dv) : M Bool := match tyD [] d with
  | some t => .ok (isT t T)
  | none => .no
theorem tyD_nil {d : Dv} {t : Ty} (h : tyD [] d = some t) (S : Sto) : tyD S d = some t := by
  cases d <;> first | exact h | (simp [tyD] at h)
theorem xe_isiD {T : Ty} {ma : M Dv} {m : M Bool} (ha : XE fx Γ f ma (vl encD)) (hm : (ma.bd fun a => isiM T a) = m := by first | rfl | simp only [M.bd_assoc, M.bd_ok]) : XE fx Γ (eIsi T f) m (vl Dv.bl) := ⟨fun B ρ S s => by
  subst hm
  exact (ha.run B ρ S s).bd fun a d h => by
    cases h
    unfold isiM
    cases e : tyD [] a with
    | none => trivial
    | some t => exact ⟨.bl (isT t T), by simp only [encD, tyD_nil e S], rfl⟩⟩
theorem xl_nil : XL fx Γ lNil (.ok ()) fun _ _ ds => ds = [] := ⟨fun B ρ S s => ⟨[], rfl, rfl⟩⟩
theorem xl_cons {mf : M α} {ml : M β} {m : M γ} {R : Rn α} {Rl : β → Sto → List Dv → Prop} {R' : γ → Sto → List Dv → Prop} (k : α → β → γ) (hf : XE fx Γ f mf R) (hl : XL fx Γ l ml Rl) (hR : ∀ a b S d ds, R a S d → Rl b S ds → R' (k a b) S (d :: ds)) (hm : (mf.bd fun a => ml.bd fun b => .ok (k a b)) = m := by first | rfl | simp only [M.bd_assoc, M.bd_ok]) :
    XL fx Γ (lCons f l) m R' := ⟨fun B ρ S s => by
  subst hm
  have h1 := hf.run B ρ S s
  have h2 := hl.run B ρ S s
  cases mf with
  | ok a =>
    obtain ⟨d, h3, h4⟩ := h1
    cases ml with
    | ok b =>
      obtain ⟨ds, h5, h6⟩ := h2
      exact ⟨d :: ds, by simp only [lCons, h3, h5, Res.bd_ok], hR _ _ _ _ _ h4 h6⟩
    | exn c =>
      simp only [M.bd_ok, M.bd_exn]
      simp only [lCons, h3, show l ρ S = .exn c S from h2, Res.bd_ok, Res.bd_exn]
    | no => trivial
  | exn c =>
    simp only [M.bd_exn]
    simp only [lCons, show f ρ S = .exn c S from h1, Res.bd_exn]
  | no => trivial⟩
def lk (e : α → Dv) : List α → Sto → List Dv → Prop := fun xs _ ds => ds = xs.map e
theorem xh_nil {e : α → Dv} : XL fx Γ lNil (.ok []) (lk e) := ⟨fun B ρ S s => ⟨[], rfl, rfl⟩⟩
theorem xe_lstL {ml m : M (List α)} {e : α → Dv} (hl : XL fx Γ l ml (lk e)) (hm : (ml.bd fun xs => gd (decide (xs.length ≤ lim)) (.ok xs)) = m := by first | rfl | simp only [M.bd_assoc, M.bd_ok]) : XE fx Γ (eLst false l) m (vl (encL e)) := ⟨fun B ρ S s => by
  subst hm
  have h2 := hl.run B ρ S s
  cases ml with
  | ok xs =>
    obtain ⟨ds, h5, h6⟩ := h2
    cases h6
    simp only [M.bd_ok]
    by_cases hh : xs.length ≤ lim
    · simp only [hh, decide_true, gd]
      exact ⟨_, by simp only [eLst, h5, Res.bd_ok, List.length_map, if_pos hh, mk_f, encL], rfl⟩
    · simp only [hh, decide_false, gd]; trivial
  | exn c =>
    simp only [M.bd_exn]
    show eLst false l ρ S = _
    simp only [eLst, show l ρ S = .exn c S from h2, Res.bd_exn]
  | no => trivial⟩
theorem xe_tupK {ml : M α} {m : M β} {Rl : α → Sto → List Dv → Prop} {e : β → Dv} (hl : XL fx Γ l ml Rl) (k : α → β) (hk : ∀ a S ds, Rl a S ds → ds.length ≤ lim ∧ Dv.tup ds = e (k a)) (hm : (ml.bd fun a => .ok (k a)) = m := by first | rfl | simp only [M.bd_assoc, M.bd_ok]) : XE fx Γ (eTup l) m (vl e) := ⟨fun B ρ S s => by
  subst hm
  have h2 := hl.run B ρ S s
  cases ml with
  | ok a =>
    obtain ⟨ds, h5, h6⟩ := h2
    obtain ⟨h7, h8⟩ := hk a S ds h6
    exact ⟨_, by simp only [eTup, h5, Res.bd_ok, if_pos h7], h8⟩
  | exn c =>
    simp only [M.bd_exn]
    show eTup l ρ S = _
    simp only [eTup, show l ρ S = .exn c S from h2, Res.bd_exn]
  | no => trivial⟩
theorem xe_tup2 {ma : M α} {mb : M β} {m : M (α × β)} {ea : α → Dv} {eb : β → Dv} (ha : XE fx Γ fa ma (vl ea)) (hb : XE fx Γ fb mb (vl eb)) (hm : (ma.bd fun a => mb.bd fun b => .ok (a, b)) = m := by first | rfl | simp only [M.bd_assoc, M.bd_ok]) : XE fx Γ (eTup (lCons fa (lCons fb lNil))) m (vl (encP ea eb)) :=
  xe_tupK (Rl := fun p _ ds => ds = [ea p.1, eb p.2]) (xl_cons (fun a b => (a, b)) ha (xl_cons (R' := fun b _ ds => ds = [eb b]) (fun b _ => b) hb xl_nil (fun a b S d ds h1 h2 => by cases h1; cases h2; rfl)) (fun a b S d ds h1 h2 => by cases h1; cases h2; rfl)) id (fun a S ds h => by cases h; exact ⟨by simp [lim], rfl⟩)
    (by rw [← hm]; cases ma <;> cases mb <;> rfl)
theorem xe_call1 {den : Den} {m1 : M α} {m : M β} {R1 : Rn α} {R : Rn β} {k : α → M β} (h1 : XE fx Γ f1 m1 R1) (hf : ∀ a S x, R1 a S x → Sim (den [x] S) S (k a) R) (hm : (m1.bd k) = m := by first | rfl | simp only [M.bd_assoc, M.bd_ok]) : XE fx Γ (eCall 1 den (lCons f1 lNil)) m R := ⟨fun B ρ S s => by
  subst hm
  have e : eCall 1 den (lCons f1 lNil) ρ S = (f1 ρ S).bd fun x S1 => den [x] S1 := by
    simp only [eCall, lCons, lNil, Res.bd_ok]
    cases f1 ρ S <;> rfl
  rw [e]
  exact (h1.run B ρ S s).bd fun a x q => hf a S x q⟩
theorem bd_bd {α' β' γ' : Type} (r : Res α') (f : α' → Sto → Res β') (g : β' → Sto → Res γ') : (r.bd f).bd g = r.bd fun a S => (f a S).bd g := by cases r <;> rfl
theorem xe_call2 {den : Den} {m1 : M α} {m2 : M β} {m : M γ} {R1 : Rn α} {R2 : Rn β} {R : Rn γ} {k : α → β → M γ} (h1 : XE fx Γ f1 m1 R1) (h2 : XE fx Γ f2 m2 R2) (hf : ∀ a b S x y, R1 a S x → R2 b S y → Sim (den [x, y] S) S (k a b) R) (hm : (m1.bd fun a => m2.bd fun b => k a b) = m := by first | rfl | simp only [M.bd_assoc, M.bd_ok]) :
    XE fx Γ (eCall 2 den (lCons f1 (lCons f2 lNil))) m R := ⟨fun B ρ S s => by
  subst hm
  have e : eCall 2 den (lCons f1 (lCons f2 lNil)) ρ S = (f1 ρ S).bd fun x S1 => (f2 ρ S1).bd fun y S2 => den [x, y] S2 := by
    simp only [eCall, lCons, lNil, bd_bd, Res.bd_ok]
    rfl
  rw [e]
  exact (h1.run B ρ S s).bd fun a x q => (h2.run B ρ S s).bd fun b y q2 => hf a b S x y q q2⟩
theorem xe_bi1 {g : OpN} {m1 : M α} {m : M β} {R1 : Rn α} {R : Rn β} {k : α → M β} (hg : ∀ a S x, R1 a S x → OpR2 (g [x] S) S (k a) R) (h1 : XE fx Γ f1 m1 R1) (hm : (m1.bd k) = m := by first | rfl | simp only [M.bd_assoc, M.bd_ok]) : XE fx Γ (eBi g (lCons f1 lNil)) m R := ⟨fun B ρ S s => by
  subst hm
  have e : eBi g (lCons f1 lNil) ρ S = (f1 ρ S).bd fun x S1 => ofO (g [x] S1) := by
    simp only [eBi, lCons, lNil, bd_bd, Res.bd_ok]
  rw [e]
  exact (h1.run B ρ S s).bd fun a x q => (hg a S x q).sim⟩
theorem b_len {e : α → Dv} (a : List α) (S : Sto) (x : Dv) (h : sq e a S x) : OpR2 (fLen [x] S) S (.ok ((a.length : Nat) : Int)) (vl Dv.int) := by
  have h' : seqOf S x = some (a.map e) := h
  refine ⟨.int (a.length : Nat), ?_, rfl⟩
  cases x with
  | tup ds => cases h'; rw [len_tup, List.length_map]
  | fz ds => cases h'; rw [len_fz, List.length_map]
  | ref n =>
    rw [len_ref]
    rw [seq_ref] at h'
    split at h'
    · rename_i ds e1
      cases h'
      simp only [List.length_map]
    · cases h'
  | _ => cases h'
theorem b_abs (a : Int) (S : Sto) (x : Dv) (h : vl Dv.int a S x) : OpR2 (fAbs [x] S) S (.ok ((a.natAbs : Nat) : Int)) (vl Dv.int) := by
  cases h
  refine ⟨_, rfl, ?_⟩
  simp only [vl, Dv.int.injEq]
  exact abs_if a
end
end Fc
set_option exponentiation.threshold 256
set_option maxHeartbeats 4000000
set_option maxHeartbeats 4000000
namespace Fc
open PySem L2
def Dep (fx : Fx) (B : Sto) : Option (List Nat) → Sto → Sto → Prop
  | none, S, S' => S' = S
  | some ns, S, S' => (∀ n, n < B.length → n ∉ fx.br.map (·.1) → S'[n]? = S[n]?) ∧ ∀ n ∈ ns, S'[n]? = S[n]?
theorem Dep.refl (fx : Fx) (B : Sto) (ns : Option (List Nat)) (S : Sto) : Dep fx B ns S S := by
  cases ns with
  | none => rfl
  | some ns => exact ⟨fun _ _ _ => rfl, fun _ _ => rfl⟩
structure XQ {α : Type} (fx : Fx) (Γ : Cxt) (f : DE) (m : M (List α)) (e : α → Dv) (ns : Option (List Nat)) : Prop where
  run : ∀ B ρ S, Sat fx B Γ ρ S → match m with
    | .ok xs => ∃ d, f ρ S = .ok d S ∧ ∀ S', Dep fx B ns S S' → seqOf S' d = some (xs.map e)
    | .exn c => f ρ S = .exn c S
    | .no => True
structure XI {α : Type} (fx : Fx) (Γ : Cxt) (fi : DI) (m : M (List α)) (e : α → Dv) (ns : Option (List Nat)) : Prop where
  run : ∀ B ρ S, Sat fx B Γ ρ S → match m with
    | .ok xs => ∃ it, fi ρ S = .ok it S ∧ ∀ S', Dep fx B ns S S' → Goes it S' xs e
    | .exn c => fi ρ S = .exn c S
    | .no => True
def rngI (lo hi : Int) : List Int := (List.range (hi - lo).toNat).map fun i => lo + (i : Nat)
noncomputable def rng2M (i j : Int) : M (List Int) := gd (rngB i && rngB j) (.ok (rngI i j))
section
variable {fx : Fx} {Γ : Cxt} {f g f1 f2 : DE} {t : DT} {fi : DI} {α β γ σ ω : Type} {i n : Nat} {ns : Option (List Nat)}
theorem xq_T {m : M (List α)} {e : α → Dv} (h : XE fx Γ f m (vl (encT e))) : XQ fx Γ f m e ns := ⟨fun B ρ S s => by
  have := h.run B ρ S s
  cases m with
  | ok xs => obtain ⟨d, h1, h2⟩ := this; cases h2; exact ⟨_, h1, fun S' _ => rfl⟩
  | exn c => exact this
  | no => trivial⟩
theorem xq_L {m : M (List α)} {e : α → Dv} (h : XE fx Γ f m (vl (encL e))) : XQ fx Γ f m e ns := ⟨fun B ρ S s => by
  have := h.run B ρ S s
  cases m with
  | ok xs => obtain ⟨d, h1, h2⟩ := this; cases h2; exact ⟨_, h1, fun S' _ => rfl⟩
  | exn c => exact this
  | no => trivial⟩
theorem xi_seq {m : M (List α)} {e : α → Dv} (h : XQ fx Γ f m e ns) : XI fx Γ (iSeq f) m e ns := ⟨fun B ρ S s => by
  have := h.run B ρ S s
  cases m with
  | ok xs =>
    obtain ⟨d, h1, h2⟩ := this
    refine ⟨itSeq d, ?_, fun S' hd => goes_seq (h2 S' hd)⟩
    simp only [iSeq, h1, Res.bd_ok, h2 S (Dep.refl fx B ns S)]
  | exn c =>
    show iSeq f ρ S = _
    simp only [iSeq, show f ρ S = .exn c S from this, Res.bd_exn]
  | no => trivial⟩
theorem goes_rng {S : Sto} (lo hi : Int) : Goes (itRange lo (hi - lo).toNat) S (rngI lo hi) Dv.int := fun i => by
  rw [goes_range (S := S) lo _ i]
  simp only [rngI, List.getElem?_map, Option.map_map]
  rfl
theorem xi_range2 {ma mb : M Int} {m : M (List Int)} (h : XE fx Γ f ma (vl Dv.int)) (h' : XE fx Γ g mb (vl Dv.int)) (hm : (ma.bd fun i => mb.bd fun j => rng2M i j) = m := by first | rfl | simp only [M.bd_assoc, M.bd_ok]) : XI fx Γ (iRange2 (lCons f (lCons g lNil))) m Dv.int ns := ⟨fun B ρ S s => by
  subst hm
  have a := h.run B ρ S s
  have b := h'.run B ρ S s
  cases ma with
  | ok i =>
    obtain ⟨d, h1, h2⟩ := a
    cases h2
    cases mb with
    | ok j =>
      obtain ⟨d', h3, h4⟩ := b
      cases h4
      simp only [M.bd_ok, rng2M]
      cases hb : rngB i && rngB j with
      | true =>
        refine ⟨itRange i (j - i).toNat, ?_, fun S' _ => goes_rng i j⟩
        simp only [iRange2, lCons, lNil, h1, h3, Res.bd_ok, hb, if_true]
      | false => trivial
    | exn c =>
      show iRange2 (lCons f (lCons g lNil)) ρ S = _
      simp only [iRange2, lCons, lNil, h1, show g ρ S = .exn c S from b, Res.bd_ok, Res.bd_exn]
    | no => trivial
  | exn c =>
    show iRange2 (lCons f (lCons g lNil)) ρ S = _
    simp only [iRange2, lCons, show f ρ S = .exn c S from a, Res.bd_exn]
  | no => trivial⟩
structure Bnd {α : Type} (fx : Fx) (tg : Tg) (e : α → Dv) (Γ : Cxt) (Γ' : α → Cxt) : Prop where
  go : ∀ B ρ S a, Sat fx B Γ ρ S → ∃ ρ1, tg.asg (e a) ρ = some ρ1 ∧ Sat fx B (Γ' a) ρ1 S
theorem bnd_nm {e : α → Dv} (hi : i < fx.N := by decide) : Bnd fx (.nm i) e Γ fun a => (i, .val (e a)) :: del i Γ := ⟨fun B ρ S a s => ⟨_, asg_nm i _ ρ, s.set hi⟩⟩
def mapM {α β : Type} (f : α → M β) : List α → M (List β)
  | [] => .ok []
  | x :: xs => (f x).bdN fun y => (mapM f xs).bd fun ys => .ok (y :: ys)
def filM {α β : Type} (c : α → M Bool) (f : α → M β) : List α → M (List β)
  | [] => .ok []
  | x :: xs => (c x).bdN fun b => if b then (f x).bdN fun y => (filM c f xs).bd fun ys => .ok (y :: ys) else filM c f xs
def gl {α β : Type} (xs : List α) (m : M β) : M β := gd (decide (xs.length ≤ lim)) m
theorem filM_true (f : α → M β) : ∀ xs : List α, filM (fun _ => .ok true) f xs = mapM f xs
  | [] => rfl
  | x :: xs => by simp only [filM, mapM, M.bdN_ok, if_true, filM_true f xs]
theorem filM_tot (c : α → Bool) (h : α → β) : ∀ xs : List α, filM (fun x => .ok (c x)) (fun x => .ok (h x)) xs = .ok ((xs.filter c).map h)
  | [] => rfl
  | x :: xs => by
    simp only [filM, M.bdN_ok, filM_tot c h xs, M.bd_ok]
    cases hc : c x with
    | true => simp [List.filter_cons_of_pos hc]
    | false => simp [List.filter_cons_of_neg, hc]
theorem mapM_tot (h : α → β) (xs : List α) : mapM (fun x => .ok (h x)) xs = .ok (xs.map h) := by
  rw [← filM_true, filM_tot, List.filter_eq_self.mpr fun _ _ => rfl]
theorem lcV_sim {it : Itf} {tg : Tg} {cond : DT} {elt : DE} {ρ : Ev} {S : Sto} {xs : List α} {enc : α → Dv} {e' : β → Dv} {c : α → M Bool} {h : α → M β} (hit : Goes it S xs enc) (hl : xs.length ≤ lim)
    (hx : ∀ x ∈ xs, ∃ ρ2, tg.asg (enc x) ρ = some ρ2 ∧ SimT (cond ρ2 S) S (c x) ∧ Sim (elt ρ2 S) S (h x) (vl e')) :
    match filM c h xs with
    | .ok ys => lcV it tg cond elt ρ big 0 [] S = .ok (.fz (ys.map e')) S
    | .exn _ => False
    | .no => True := by
  have key : ∀ (m i : Nat) (acc : List Dv), i ≤ xs.length → xs.length - i < m → acc.length ≤ i → match filM c h (xs.drop i) with
      | .ok ys => lcV it tg cond elt ρ m i acc S = .ok (.fz (acc ++ ys.map e')) S
      | .exn _ => False
      | .no => True := by
    intro m
    induction m with
    | zero => intro i acc _ h; omega
    | succ m ih =>
      intro i acc hi hm ha
      unfold lcV
      by_cases e : i = xs.length
      · subst e
        rw [hit, List.getElem?_eq_none (Nat.le_refl _), List.drop_length]
        simp [filM]
      · have hi2 : i < xs.length := by omega
        have hxi : xs[i]? = some xs[i] := List.getElem?_eq_getElem hi2
        obtain ⟨ρ2, e1, e2, e3⟩ := hx xs[i] (List.getElem_mem hi2)
        rw [hit, hxi, ← List.getElem_cons_drop hi2]
        simp only [Option.map_some, e1, filM]
        cases hc : c xs[i] with
        | exn cc => trivial
        | no => trivial
        | ok b =>
          rw [hc] at e2
          rw [show cond ρ2 S = .ok b S from e2]
          simp only [M.bdN_ok, Res.bdN_ok]
          cases b with
          | false =>
            simp only [Bool.false_eq_true, if_false]
            exact ih (i + 1) acc hi2 (by omega) (by omega)
          | true =>
            simp only [if_true]
            cases hh : h xs[i] with
            | exn cc => trivial
            | no => trivial
            | ok y =>
              rw [hh] at e3
              obtain ⟨d, q1, q2⟩ := e3
              cases q2
              rw [q1]
              simp only [M.bdN_ok, Res.bdN_ok]
              have al : acc.length < lim := by omega
              rw [if_pos al]
              have nx := ih (i + 1) (acc ++ [e' y]) hi2 (by omega) (by simp; omega)
              cases hr : filM c h (xs.drop (i + 1)) with
              | exn cc => rw [hr] at nx; exact nx.elim
              | no => trivial
              | ok ys =>
                rw [hr] at nx
                simp only at nx
                simp only [M.bd_ok]
                rw [nx]
                simp
  have := key big 0 [] (Nat.zero_le _) (by have := lim_big hl; omega) (Nat.le_refl _)
  simpa using this
theorem xe_lc {tg : Tg} {cond : DT} {elt : DE} {vs : List Nat} {mi : M (List α)} {m : M (List β)} {e : α → Dv} {e' : β → Dv} {Γ' : α → Cxt} {c : α → M Bool} {h : α → M β} (hi : XI fx Γ fi mi e none) (hb : Bnd fx tg e (dels vs Γ) Γ') (hc : ∀ a, XT fx (Γ' a) cond (c a)) (he : ∀ a, XE fx (Γ' a) elt (h a) (vl e'))
    (hm : (mi.bd fun xs => gl xs (filM c h xs)) = m) : XE fx Γ (eLcV fi tg cond elt vs) m (vl (encL e')) := ⟨fun B ρ S s => by
  subst hm
  have a := hi.run B ρ S s
  cases mi with
  | ok xs =>
    obtain ⟨it, h1, h2⟩ := a
    simp only [M.bd_ok, gl]
    by_cases hl : xs.length ≤ lim
    · simp only [hl, decide_true, gd, if_true]
      have := lcV_sim (elt := elt) (cond := cond) (c := c) (h := h) (e' := e') (h2 S (Dep.refl fx B none S)) hl (fun x _ => by
        obtain ⟨ρ2, q1, q2⟩ := hb.go B _ S x (s.wipe vs)
        exact ⟨ρ2, q1, (hc x).run B ρ2 S q2, (he x).run B ρ2 S q2⟩)
      cases hf : filM c h xs with
      | ok ys =>
        rw [hf] at this
        exact ⟨_, by simp only [eLcV, h1, Res.bd_ok]; exact this, rfl⟩
      | exn cc => rw [hf] at this; exact this.elim
      | no => trivial
    · simp only [hl, decide_false, gd]; trivial
  | exn cc =>
    show eLcV fi tg cond elt vs ρ S = _
    simp only [eLcV, show fi ρ S = .exn cc S from a, Res.bd_exn]
  | no => trivial⟩
theorem xe_lcM {tg : Tg} {elt : DE} {vs : List Nat} {mi : M (List α)} {m : M (List β)} {e : α → Dv} {e' : β → Dv} {Γ' : α → Cxt} {h : α → M β} (hi : XI fx Γ fi mi e none) (hb : Bnd fx tg e (dels vs Γ) Γ') (he : ∀ a, XE fx (Γ' a) elt (h a) (vl e'))
    (hm : (mi.bd fun xs => gl xs (mapM h xs)) = m := by first | rfl | simp only [M.bd_assoc, M.bd_ok]) : XE fx Γ (eLcV fi tg tTrue elt vs) m (vl (encL e')) := xe_lc hi hb (c := fun _ => .ok true) (fun _ => xt_tt) he (by rw [← hm]; congr 1; funext xs; rw [filM_true])
theorem xe_lcT {tg : Tg} {elt : DE} {vs : List Nat} {mi : M (List α)} {m : M (List β)} {e : α → Dv} {e' : β → Dv} {Γ' : α → Cxt} {h : α → β} (hi : XI fx Γ fi mi e none) (hb : Bnd fx tg e (dels vs Γ) Γ') (he : ∀ a, XE fx (Γ' a) elt (.ok (h a)) (vl e'))
    (hm : (mi.bd fun xs => gl xs (.ok (xs.map h))) = m := by first | rfl | simp only [M.bd_assoc, M.bd_ok]) : XE fx Γ (eLcV fi tg tTrue elt vs) m (vl (encL e')) := xe_lcM hi hb he (by rw [← hm]; congr 1; funext xs; rw [mapM_tot])
abbrev Post (ω : Type) := Sto → ω → Out → Sto → Prop
def SimS (r : Res Out) (B : Sto) (m : M ω) (Q : Post ω) : Prop := match m with
  | .ok w => ∃ o S', r = .ok o S' ∧ Q B w o S'
  | .exn c => ∃ ρ' G, r = .ok (.ex c ρ') (B ++ G)
  | .no => True
structure Wp {ω : Type} (fx : Fx) (Γ : Cxt) (b : DS) (m : M ω) (Q : Post ω) : Prop where
  run : ∀ B ρ S, Sat fx B Γ ρ S → SimS (b ρ S) B m Q
structure Safe {α : Type} (fx : Fx) (Γ : Cxt) (m : M α) : Prop where
  or : (∀ c, m ≠ .exn c) ∨ Unc fx Γ
theorem safe_ok {a : α} : Safe fx Γ (.ok a : M α) := ⟨.inl fun _ h => nomatch h⟩
theorem safe_nil {N : Nat} {m : M α} : Safe ⟨N, []⟩ Γ m := ⟨.inr unc_nil⟩
theorem safe_one {N j : Nat} {o : Ob} {m : M α} (e : look j Γ = some (.own n o)) : Safe ⟨N, [(n, o)]⟩ Γ m := ⟨.inr (unc_one e)⟩
theorem nex_gd {b : Bool} {a : α} (c : Nat) : gd b (.ok a) ≠ .exn c := by
  unfold gd
  split <;> exact fun h => nomatch h
theorem nex_ix {xs : List α} {i : Int} (c : Nat) : ixM xs i ≠ .exn c := by
  unfold ixM
  split <;> exact fun h => nomatch h
class NexC {α : Type} (m : M α) : Prop where
  nex : ∀ c, m ≠ .exn c
theorem safe_inst {m : M α} [h : NexC m] : Safe fx Γ m := ⟨.inl h.nex⟩
instance nexc_ok {α : Type} (a : α) : NexC (M.ok a) := ⟨fun _ h => nomatch h⟩
instance nexc_gd {α : Type} (b : Bool) (m : M α) [h : NexC m] : NexC (gd b m) := ⟨fun c => by
  unfold gd
  split
  · exact h.nex c
  · exact fun h => nomatch h⟩
instance nexc_ix {α : Type} (xs : List α) (i : Int) : NexC (ixM xs i) := ⟨fun c => nex_ix c⟩
instance nexc_mul (a b : Int) : NexC (mulM a b) := ⟨fun c => nex_gd c⟩
instance nexc_div (a b : Int) : NexC (divM a b) := ⟨fun c => nex_gd c⟩
instance nexc_mod (a b : Int) : NexC (modM a b) := ⟨fun c => nex_gd c⟩
instance nexc_bd {α β : Type} (m : M α) (k : α → M β) [h : NexC m] [hk : ∀ a, NexC (k a)] : NexC (m.bd k) := ⟨fun c => by
  cases hm : m with
  | ok a => exact (hk a).nex c
  | exn e => exact absurd hm (h.nex e)
  | no => exact fun h => nomatch h⟩
instance nexc_bdN {α β : Type} (m : M α) (k : α → M β) [hk : ∀ a, NexC (k a)] : NexC (m.bdN k) := ⟨fun c => by
  cases m with
  | ok a => exact (hk a).nex c
  | exn e => exact fun h => nomatch h
  | no => exact fun h => nomatch h⟩
instance nexc_ite {α : Type} (c : Bool) (m n : M α) [h : NexC m] [h' : NexC n] : NexC (if c then m else n) := ⟨fun e => by
  cases c
  · exact h'.nex e
  · exact h.nex e⟩
theorem safe_gd {b : Bool} {a : α} : Safe fx Γ (gd b (.ok a)) := ⟨.inl nex_gd⟩
theorem safe_ix {xs : List α} {i : Int} : Safe fx Γ (ixM xs i) := ⟨.inl nex_ix⟩
theorem Safe.exn {c : Nat} (h : Safe fx Γ (.exn c : M α)) {B S : Sto} {ρ : Ev} (s : Sat fx B Γ ρ S) : ∃ G, S = B ++ G := by
  rcases h.or with h | h
  · exact absurd rfl (h c)
  · exact h.un B ρ S s
variable {rest b b1 b2 : DS} {Q : Post ω} {d : Dv}
theorem SimS.seq {r : Res Out} {g : DS} {B : Sto} {m : M ω} {ρ : Ev} {S : Sto} {f : DS} (h1 : f ρ S = .ok (.nx ρ') S') (h2 : SimS (g ρ' S') B m Q) : SimS (cSeq f g ρ S) B m Q := by
  rw [seq_go h1 rfl]
  exact h2
theorem go_exp {mf : M α} {R : Rn α} {k : α → M ω} {kk : Dv → Sto → Res Out} {B : Sto} {ρ : Ev} {S : Sto} (s : Sat fx B Γ ρ S) (h : XE fx Γ f mf R) (sf : Safe fx Γ mf) (g : DS) (hk : ∀ a d, R a S d → SimS (cSeq (fun ρ S => kk d S) g ρ S) B (k a) Q) :
    SimS (cSeq (fun ρ S => toS (f ρ S) ρ kk) g ρ S) B (mf.bd k) Q := by
  have := h.run B ρ S s
  cases mf with
  | ok a =>
    obtain ⟨d, h1, h2⟩ := this
    have := hk a d h2
    simp only [cSeq, h1, toS_ok] at this ⊢
    exact this
  | exn c =>
    obtain ⟨G, hG⟩ := sf.exn s
    refine ⟨ρ, G, ?_⟩
    rw [← hG]
    simp only [cSeq, show f ρ S = .exn c S from this, toS_exn]
  | no => trivial
theorem wp_set (i : Nat) {mf : M α} {e : α → Dv} {k : α → M ω} {m : M ω} (h : XE fx Γ f mf (vl e)) (hk : ∀ a, Wp fx ((i, .val (e a)) :: del i Γ) rest (k a) Q) (hm : (mf.bd k) = m := by first | rfl | simp only [M.bd_assoc, M.bd_ok]) (hi : i < fx.N := by decide)
    (sf : Safe fx Γ mf := by first | exact safe_ok | exact safe_nil | exact safe_gd | exact safe_ix | exact safe_one (j := 0) rfl | exact safe_inst) : Wp fx Γ (cSeq (cSet i f) rest) m Q := ⟨fun B ρ S s => by
  subst hm
  refine go_exp (kk := fun d S1 => .ok (.nx (ρ.set i (some d))) S1) s h sf rest fun a d q => ?_
  cases q
  exact SimS.seq (r := .stuck) rfl ((hk a).run B _ S (s.set hi))⟩
theorem wp_par (i j : Nat) {f2 : DE} {m1 : M α} {m2 : M β} {e : α → Dv} {e' : β → Dv} {k : α → β → M ω} {m : M ω} (h1 : XE fx Γ f m1 (vl e)) (h2 : XE fx Γ f2 m2 (vl e')) (hk : ∀ a b, Wp fx ((j, .val (e' b)) :: del j ((i, .val (e a)) :: del i Γ)) rest (k a b) Q)
    (hm : (m1.bd fun a => m2.bd fun b => k a b) = m := by first | rfl | simp only [M.bd_assoc, M.bd_ok]) (hi : i < fx.N := by decide) (hj : j < fx.N := by decide)
    (sf : Safe fx Γ m1 := by first | exact safe_ok | exact safe_nil | exact safe_gd | exact safe_ix | exact safe_one (j := 0) rfl | exact safe_inst) (sf2 : Safe fx Γ m2 := by first | exact safe_ok | exact safe_nil | exact safe_gd | exact safe_ix | exact safe_one (j := 0) rfl | exact safe_inst) :
    Wp fx Γ (cSeq (cPar i j (lCons f (lCons f2 lNil))) rest) m Q := ⟨fun B ρ S s => by
  subst hm
  have q1 := h1.run B ρ S s
  have q2 := h2.run B ρ S s
  cases m1 with
  | ok a =>
    obtain ⟨d, h3, h4⟩ := q1
    cases h4
    cases m2 with
    | ok b =>
      obtain ⟨d2, h5, h6⟩ := q2
      cases h6
      have := (hk a b).run B _ S ((s.set hi).set hj)
      simp only [M.bd_ok]
      simp only [cSeq, cPar, lCons, lNil, h3, h5, Res.bd_ok, toS_ok]
      exact this
    | exn c =>
      obtain ⟨G, hG⟩ := sf2.exn s
      refine ⟨ρ, G, ?_⟩
      rw [← hG]
      simp only [cSeq, cPar, lCons, lNil, h3, show f2 ρ S = .exn c S from q2, Res.bd_ok, Res.bd_exn, toS_exn]
    | no => trivial
  | exn c =>
    obtain ⟨G, hG⟩ := sf.exn s
    refine ⟨ρ, G, ?_⟩
    rw [← hG]
    simp only [cSeq, cPar, lCons, lNil, show f ρ S = .exn c S from q1, Res.bd_exn, toS_exn]
  | no => trivial⟩
theorem wp_if {mt : M Bool} {m1 m2 m : M ω} (ht : XT fx Γ t mt) (h1 : Wp fx Γ (cSeq b1 rest) m1 Q) (h2 : Wp fx Γ (cSeq b2 rest) m2 Q) (hm : (mt.bd fun c => if c then m1 else m2) = m := by first | rfl | simp only [M.bd_assoc, M.bd_ok]) (sf : Safe fx Γ mt := by first | exact safe_ok | exact safe_nil | exact safe_gd | exact safe_ix | exact safe_one (j := 0) rfl | exact safe_inst) :
    Wp fx Γ (cSeq (cIf t b1 b2) rest) m Q := ⟨fun B ρ S s => by
  subst hm
  have := ht.run B ρ S s
  cases mt with
  | ok c =>
    have e : t ρ S = .ok c S := this
    simp only [M.bd_ok]
    cases c with
    | true =>
      have := h1.run B ρ S s
      simp only [cSeq, cIf, e, toS_ok, if_true] at this ⊢
      exact this
    | false =>
      have := h2.run B ρ S s
      simp only [cSeq, cIf, e, toS_ok, Bool.false_eq_true, if_false] at this ⊢
      exact this
  | exn c =>
    obtain ⟨G, hG⟩ := sf.exn s
    refine ⟨ρ, G, ?_⟩
    rw [← hG]
    simp only [cSeq, cIf, show t ρ S = .exn c S from this, toS_exn]
  | no => trivial⟩
theorem cSeq_assoc (f g h : DS) (ρ : Ev) (S : Sto) : cSeq (cSeq f g) h ρ S = cSeq f (cSeq g h) ρ S := by
  simp only [cSeq]
  rcases f ρ S with o | _ | _
  · cases o <;> rfl
  · rfl
  · rfl
theorem wp_sq {f g : DS} {m : M ω} (h : Wp fx Γ (cSeq f (cSeq g rest)) m Q) : Wp fx Γ (cSeq (cSeq f g) rest) m Q := ⟨fun B ρ S s => by
  rw [cSeq_assoc]
  exact h.run B ρ S s⟩
theorem wp_nil {m : M ω} (h : Wp fx Γ rest m Q) : Wp fx Γ (cSeq cNil rest) m Q := ⟨fun B ρ S s => by
  rw [seq_go nil_go rfl]
  exact h.run B ρ S s⟩
structure XN {α : Type} (fx : Fx) (Γ : Cxt) (f : DE) (m : M α) (ob : α → Ob) : Prop where
  run : ∀ B ρ S, Sat fx B Γ ρ S → match m with
    | .ok a => ∃ n G, f ρ S = .ok (.ref n) (S ++ G) ∧ S.length ≤ n ∧ (S ++ G)[n]? = some (ob a)
    | .exn c => f ρ S = .exn c S
    | .no => True
end
end Fc
set_option exponentiation.threshold 256
set_option maxHeartbeats 4000000
set_option maxHeartbeats 4000000
namespace Fc
open PySem L2
section
variable {fx : Fx} {Γ : Cxt} {f g f1 f2 : DE} {t : DT} {fi : DI} {α β γ σ τ ω : Type} {i n : Nat} {ns : Option (List Nat)} {rest b b1 b2 : DS} {Q : Post ω} {l : DL}
def PR (e : β → Dv) : Post β := fun B a o S' => ∃ d G, o = .rt d ∧ S' = B ++ G ∧ (d = e a ∨ ∃ j ds, d = .ref (B.length + j) ∧ G[j]? = some (.lst ds) ∧ e a = .fz ds)
def PBo (e : β → Dv) (n : Nat) (ob : τ → Ob) : Post (β × τ) := fun B p o S' => ∃ G, o = .rt (e p.1) ∧ S' = B.set n (ob p.2) ++ G
structure To {β ω : Type} (P : Post β) (Q : Post ω) (inj : β → ω) : Prop where
  go : ∀ B a o S', P B a o S' → Q B (inj a) o S'
def PF (e : β → Dv) : Post β := fun B a o S' => PR e B a o S' ∨ ∃ ρ' G, o = .nx ρ' ∧ S' = B ++ G ∧ e a = .non
def PG (e : β → Dv) (n : Nat) (ob : τ → Ob) : Post (β × τ) := fun B p o S' => PBo e n ob B p o S' ∨ ∃ ρ' G, o = .nx ρ' ∧ S' = B.set n (ob p.2) ++ G ∧ e p.1 = .non
theorem to_pf {e : β → Dv} : To (PR e) (PF e) id := ⟨fun _ _ _ _ h => .inl h⟩
theorem wp_ret {mf : M β} {e : β → Dv} {inj : β → ω} {m : M ω} (to : To (PR e) Q inj) (h : XE fx Γ f mf (vl e)) (hm : (mf.bd fun a => .ok (inj a)) = m := by first | rfl | simp only [M.bd_assoc, M.bd_ok]) (hU : Unc fx Γ := by exact unc_nil) : Wp fx Γ (cSeq (cRet f) rest) m Q := ⟨fun B ρ S s => by
  subst hm
  have q := h.run B ρ S s
  obtain ⟨G, hG⟩ := hU.un B ρ S s
  cases mf with
  | ok a =>
    obtain ⟨d, h1, h2⟩ := q
    cases h2
    exact ⟨.rt (e a), S, by simp only [cSeq, cRet, h1, toS_ok], to.go _ _ _ _ ⟨_, G, rfl, hG, .inl rfl⟩⟩
  | exn c => exact ⟨ρ, G, by rw [← hG]; simp only [cSeq, cRet, show f ρ S = .exn c S from q, toS_exn]⟩
  | no => trivial⟩
inductive Lp (σ β : Type) where
  | nx (s : σ) | bk (s : σ) | rt (b : β)
def PS (fx : Fx) (view : σ → Cxt) : Post σ := fun B s o S' => ∃ ρ', (o = .nx ρ' ∨ o = .ct ρ') ∧ Sat fx B (view s) ρ' S'
def PLp (fx : Fx) (view : σ → Cxt) (P : Post β) : Post (Lp σ β) := fun B w o S' => match w with
  | .nx s => ∃ ρ', (o = .nx ρ' ∨ o = .ct ρ') ∧ Sat fx B (view s) ρ' S'
  | .bk s => ∃ ρ', o = .bk ρ' ∧ Sat fx B (view s) ρ' S'
  | .rt a => P B a o S' ∧ ∃ d, o = .rt d
theorem wp_nxS {view : σ → Cxt} (s0 : σ) (h : subs (view s0) Γ) : Wp fx Γ cNil (.ok s0) (PS fx view) := ⟨fun B ρ S s => ⟨.nx ρ, S, rfl, ρ, .inl rfl, s.sub fun p hp => subs_mem h hp⟩⟩
theorem wp_wnxS {view : σ → Cxt} {vs : List Nat} (s0 : σ) (h : subs (view s0) (dels vs Γ)) : Wp fx Γ (cWipe vs) (.ok s0) (PS fx view) := ⟨fun B ρ S s => ⟨_, S, rfl, _, .inl rfl, (s.wipe vs).sub fun p hp => subs_mem h hp⟩⟩
def forS (b : σ → α → M σ) : List α → σ → M σ
  | [], s => .ok s
  | x :: xs, s => (b s x).bd fun s' => forS b xs s'
def forP (b : σ → α → M (Lp σ β)) : List α → σ → M (Lp σ β)
  | [], s => .ok (.nx s)
  | x :: xs, s => (b s x).bd fun r => match r with
    | .nx s' => forP b xs s'
    | .bk s' => .ok (.nx s')
    | .rt a => .ok (.rt a)
def deps : List Nat → Cxt → Cxt → Prop
  | [], _, _ => True
  | n :: ns, Γ, Γ' => (∃ i o, look i Γ = some (.own n o) ∧ look i Γ' = some (.own n o)) ∧ deps ns Γ Γ'
theorem deps_eq {Γ' : Cxt} {B : Sto} {ρ ρ' : Ev} {S S' : Sto} (s : Sat fx B Γ ρ S) (s' : Sat fx B Γ' ρ' S') : ∀ {ns : List Nat}, deps ns Γ Γ' → ∀ n ∈ ns, S'[n]? = S[n]?
  | [], _, _, h => by cases h
  | m :: ns, h, n, hn => by
    obtain ⟨⟨i, o, h1, h2⟩, h3⟩ := h
    rcases List.mem_cons.mp hn with rfl | hn
    · rw [(s.own h1).2, (s'.own h2).2]
    · exact deps_eq s s' h3 n hn
theorem dep_of {Γ' : Cxt} {B : Sto} {ρ ρ' : Ev} {S S' : Sto} {ns : List Nat} (s : Sat fx B Γ ρ S) (s' : Sat fx B Γ' ρ' S') (h : deps ns Γ Γ') : Dep fx B (some ns) S S' :=
  ⟨fun n h1 h2 => by rw [s.old n h1 h2, s'.old n h1 h2], deps_eq s s' h⟩
theorem forP_run {it : Itf} {tg : Tg} {body : DS} {view : σ → Cxt} {bm : σ → α → M (Lp σ β)} {P : Post β} {e : α → Dv} {Γ' : σ → α → Cxt} {B : Sto} {xs : List α} (hl : xs.length ≤ lim) (hg : ∀ s ρ S, Sat fx B (view s) ρ S → Goes it S xs e) (hb : ∀ s, Bnd fx tg e (view s) (Γ' s))
    (hw : ∀ s x, Wp fx (Γ' s x) body (bm s x) (PLp fx view P)) : ∀ (m i : Nat) (s : σ) (ρ : Ev) (S : Sto), i ≤ xs.length → xs.length - i < m → Sat fx B (view s) ρ S →
    match forP bm (xs.drop i) s with
    | .ok (.nx s') => ∃ ρ' S', forL it tg body m i ρ S = .ok (.nx ρ') S' ∧ Sat fx B (view s') ρ' S'
    | .ok (.bk _) => False
    | .ok (.rt a) => ∃ o S', forL it tg body m i ρ S = .ok o S' ∧ P B a o S' ∧ ∃ d, o = .rt d
    | .exn c => ∃ ρ' G, forL it tg body m i ρ S = .ok (.ex c ρ') (B ++ G)
    | .no => True := by
  intro m
  induction m with
  | zero => intro i s ρ S _ h; omega
  | succ m ih =>
    intro i s ρ S hi hm hs
    have hg1 := hg s ρ S hs i
    unfold forL
    by_cases e1 : i = xs.length
    · subst e1
      rw [hg1, List.getElem?_eq_none (Nat.le_refl _), List.drop_length]
      exact ⟨ρ, S, rfl, hs⟩
    · have hi2 : i < xs.length := by omega
      have hxi : xs[i]? = some xs[i] := List.getElem?_eq_getElem hi2
      rw [hg1, hxi, ← List.getElem_cons_drop hi2]
      obtain ⟨ρ1, q1, q2⟩ := (hb s).go B ρ S xs[i] hs
      simp only [Option.map_some, q1, forP]
      have q3 := (hw s xs[i]).run B ρ1 S q2
      cases hr : bm s xs[i] with
      | no => trivial
      | exn c =>
        rw [hr] at q3
        obtain ⟨ρ', G, q4⟩ := q3
        exact ⟨ρ', G, by rw [q4]⟩
      | ok w =>
        rw [hr] at q3
        obtain ⟨o, S', q4, q5⟩ := q3
        rw [q4]
        simp only [M.bd_ok]
        cases w with
        | nx s' =>
          obtain ⟨ρ', rfl | rfl, q6⟩ := q5
          · exact ih (i + 1) s' ρ' S' hi2 (by omega) q6
          · exact ih (i + 1) s' ρ' S' hi2 (by omega) q6
        | bk s' =>
          obtain ⟨ρ', rfl, q6⟩ := q5
          exact ⟨ρ', S', rfl, q6⟩
        | rt a =>
          obtain ⟨q6, d, rfl⟩ := q5
          exact ⟨_, S', rfl, q6, d, rfl⟩
theorem wp_forP {tg : Tg} {body : DS} {mi : M (List α)} {e : α → Dv} {ns : List Nat} {P : Post β} {inj : β → ω} {m : M ω} (view : σ → Cxt) (bm : σ → α → M (Lp σ β)) (s0 : σ) {Γ' : σ → α → Cxt} (k : σ → M ω) (hi : XI fx Γ fi mi e (some ns)) (h0 : subs (view s0) Γ) (hd : ∀ s, deps ns Γ (view s)) (hb : ∀ s, Bnd fx tg e (view s) (Γ' s))
    (hw : ∀ s x, Wp fx (Γ' s x) body (bm s x) (PLp fx view P)) (to : To P Q inj) (hk : ∀ s, Wp fx (view s) rest (k s) Q)
    (hm : (mi.bd fun xs => gl xs ((forP bm xs s0).bd fun r => match r with
      | .nx s => k s
      | .bk s => k s
      | .rt a => .ok (inj a))) = m := by first | rfl | simp only [M.bd_assoc, M.bd_ok]) (sf : Safe fx Γ mi := by first | exact safe_ok | exact safe_nil | exact safe_gd | exact safe_ix | exact safe_one (j := 0) rfl | exact safe_inst) : Wp fx Γ (cSeq (cFor fi tg body) rest) m Q := ⟨fun B ρ S s => by
  subst hm
  have q := hi.run B ρ S s
  cases mi with
  | ok xs =>
    obtain ⟨it, h1, h2⟩ := q
    simp only [M.bd_ok, gl]
    by_cases hl : xs.length ≤ lim
    · simp only [hl, decide_true, gd, if_true]
      have key := forP_run (it := it) (tg := tg) (body := body) (bm := bm) (P := P) (e := e) (B := B) hl (fun s' ρ' S' hs => h2 S' (dep_of s hs (hd s'))) hb hw big 0 s0 ρ S (Nat.zero_le _) (by have := lim_big hl; omega) (s.sub fun p hp => subs_mem h0 hp)
      rw [List.drop_zero] at key
      cases hr : forP bm xs s0 with
      | no => trivial
      | exn c =>
        rw [hr] at key
        obtain ⟨ρ', G, k1⟩ := key
        exact ⟨ρ', G, by simp only [cSeq, cFor, h1, toS_ok, k1]⟩
      | ok w =>
        rw [hr] at key
        simp only [M.bd_ok]
        cases w with
        | nx s' =>
          obtain ⟨ρ', S', k1, k2⟩ := key
          exact SimS.seq (r := .stuck) (by simp only [cFor, h1, toS_ok, k1]) ((hk s').run B ρ' S' k2)
        | bk s' => exact key.elim
        | rt a =>
          obtain ⟨o, S', k1, k2, d, rfl⟩ := key
          exact ⟨.rt d, S', by simp only [cSeq, cFor, h1, toS_ok, k1], to.go _ _ _ _ k2⟩
    · simp only [hl, decide_false, gd]; trivial
  | exn c =>
    obtain ⟨G, hG⟩ := sf.exn s
    refine ⟨ρ, G, ?_⟩
    rw [← hG]
    simp only [cSeq, cFor, show fi ρ S = .exn c S from q, toS_exn]
  | no => trivial⟩
theorem forP_forS {bm : σ → α → M σ} : ∀ (xs : List α) (s : σ), forP (β := Empty) (fun s x => (bm s x).bd fun s' => .ok (.nx s')) xs s = (forS bm xs s).bd fun s' => .ok (.nx s')
  | [], s => rfl
  | x :: xs, s => by
    simp only [forP, forS]
    cases bm s x with
    | ok s' => simp only [M.bd_ok]; exact forP_forS xs s'
    | exn c => rfl
    | no => rfl
theorem wp_forS {tg : Tg} {body : DS} {mi : M (List α)} {e : α → Dv} {ns : List Nat} {m : M ω} (view : σ → Cxt) (bm : σ → α → M σ) (s0 : σ) {Γ' : σ → α → Cxt} (k : σ → M ω) (hi : XI fx Γ fi mi e (some ns)) (h0 : subs (view s0) Γ) (hd : ∀ s, deps ns Γ (view s)) (hb : ∀ s, Bnd fx tg e (view s) (Γ' s))
    (hw : ∀ s x, Wp fx (Γ' s x) body (bm s x) (PS fx view)) (hk : ∀ s, Wp fx (view s) rest (k s) Q)
    (hm : (mi.bd fun xs => gl xs ((forS bm xs s0).bd k)) = m := by first | rfl | simp only [M.bd_assoc, M.bd_ok]) (sf : Safe fx Γ mi := by first | exact safe_ok | exact safe_nil | exact safe_gd | exact safe_ix | exact safe_one (j := 0) rfl | exact safe_inst) : Wp fx Γ (cSeq (cFor fi tg body) rest) m Q := by
  refine wp_forP (P := fun _ (a : Empty) _ _ => False) (inj := fun a => a.elim) view (fun s x => (bm s x).bd fun s' => .ok (.nx s')) s0 k hi h0 hd hb (fun s x => ⟨fun B ρ S hs => ?_⟩) ⟨fun _ a => a.elim⟩ hk ?_ sf
  · have q := (hw s x).run B ρ S hs
    cases hq : bm s x with
    | ok s' => rw [hq] at q; exact q
    | exn c => rw [hq] at q; exact q
    | no => trivial
  · rw [← hm]
    congr 1
    funext xs
    simp only [gl]
    congr 1
    rw [forP_forS, M.bd_assoc]
    congr 1
def whS (t : σ → M Bool) (b : σ → M σ) : Nat → σ → M σ
  | 0, _ => .no
  | n + 1, s => (t s).bd fun c => if c then (b s).bd fun s' => whS t b n s' else .ok s
def whP (t : σ → M Bool) (b : σ → M (Lp σ β)) : Nat → σ → M (Lp σ β)
  | 0, _ => .no
  | n + 1, s => (t s).bd fun c => if c then (b s).bd fun r => (match r with
    | .nx s' => whP t b n s'
    | .bk s' => .ok (.nx s')
    | .rt a => .ok (.rt a)) else .ok (.nx s)
theorem whP_run {body : DS} {view : σ → Cxt} {tm : σ → M Bool} {bm : σ → M (Lp σ β)} {P : Post β} {B : Sto} (ht : ∀ s, XT fx (view s) t (tm s)) (sf : ∀ s, Safe fx (view s) (tm s)) (hw : ∀ s, Wp fx (view s) body (bm s) (PLp fx view P)) : ∀ (m : Nat) (s : σ) (ρ : Ev) (S : Sto), Sat fx B (view s) ρ S →
    match whP tm bm m s with
    | .ok (.nx s') => ∃ ρ' S', whileL t body m ρ S = .ok (.nx ρ') S' ∧ Sat fx B (view s') ρ' S'
    | .ok (.bk _) => False
    | .ok (.rt a) => ∃ o S', whileL t body m ρ S = .ok o S' ∧ P B a o S' ∧ ∃ d, o = .rt d
    | .exn c => ∃ ρ' G, whileL t body m ρ S = .ok (.ex c ρ') (B ++ G)
    | .no => True := by
  intro m
  induction m with
  | zero => intro s ρ S hs; trivial
  | succ m ih =>
    intro s ρ S hs
    unfold whileL
    simp only [whP]
    have q1 := (ht s).run B ρ S hs
    have q2 := sf s
    cases hc : tm s with
    | no => trivial
    | exn c =>
      rw [hc] at q1 q2
      obtain ⟨G, hG⟩ := q2.exn hs
      refine ⟨ρ, G, ?_⟩
      rw [← hG, show t ρ S = .exn c S from q1, toS_exn]
    | ok c =>
      rw [hc] at q1
      rw [show t ρ S = .ok c S from q1, toS_ok]
      simp only [M.bd_ok]
      cases c with
      | false => exact ⟨ρ, S, rfl, hs⟩
      | true =>
        simp only [if_true]
        have q3 := (hw s).run B ρ S hs
        cases hr : bm s with
        | no => trivial
        | exn c =>
          rw [hr] at q3
          obtain ⟨ρ', G, q4⟩ := q3
          exact ⟨ρ', G, by rw [q4]⟩
        | ok w =>
          rw [hr] at q3
          obtain ⟨o, S', q4, q5⟩ := q3
          rw [q4]
          simp only [M.bd_ok]
          cases w with
          | nx s' =>
            obtain ⟨ρ', rfl | rfl, q6⟩ := q5
            · exact ih s' ρ' S' q6
            · exact ih s' ρ' S' q6
          | bk s' =>
            obtain ⟨ρ', rfl, q6⟩ := q5
            exact ⟨ρ', S', rfl, q6⟩
          | rt a =>
            obtain ⟨q6, d, rfl⟩ := q5
            exact ⟨_, S', rfl, q6, d, rfl⟩
theorem wp_whP {body : DS} {P : Post β} {inj : β → ω} {m : M ω} (view : σ → Cxt) (tm : σ → M Bool) (bm : σ → M (Lp σ β)) (s0 : σ) (k : σ → M ω) (h0 : subs (view s0) Γ) (ht : ∀ s, XT fx (view s) t (tm s)) (hw : ∀ s, Wp fx (view s) body (bm s) (PLp fx view P)) (to : To P Q inj) (hk : ∀ s, Wp fx (view s) rest (k s) Q)
    (hm : ((whP tm bm big s0).bd fun r => match r with
      | .nx s => k s
      | .bk s => k s
      | .rt a => .ok (inj a)) = m := by first | rfl | simp only [M.bd_assoc, M.bd_ok]) (sf : ∀ s, Safe fx (view s) (tm s) := by first | exact fun _ => safe_ok | exact fun _ => safe_nil | exact fun _ => safe_gd | exact fun _ => safe_ix | exact fun _ => safe_one (j := 0) rfl | exact fun _ => safe_inst) : Wp fx Γ (cSeq (cWhile t body) rest) m Q := ⟨fun B ρ S s => by
  subst hm
  have key := whP_run (t := t) (body := body) (P := P) (B := B) ht sf hw big s0 ρ S (s.sub fun p hp => subs_mem h0 hp)
  cases hr : whP tm bm big s0 with
  | no => trivial
  | exn c =>
    rw [hr] at key
    obtain ⟨ρ', G, k1⟩ := key
    exact ⟨ρ', G, by simp only [cSeq, cWhile, k1]⟩
  | ok w =>
    rw [hr] at key
    simp only [M.bd_ok]
    cases w with
    | nx s' =>
      obtain ⟨ρ', S', k1, k2⟩ := key
      exact SimS.seq (r := .stuck) (by simp only [cWhile, k1]) ((hk s').run B ρ' S' k2)
    | bk s' => exact key.elim
    | rt a =>
      obtain ⟨o, S', k1, k2, d, rfl⟩ := key
      exact ⟨.rt d, S', by simp only [cSeq, cWhile, k1], to.go _ _ _ _ k2⟩⟩
theorem whP_whS {tm : σ → M Bool} {bm : σ → M σ} : ∀ (m : Nat) (s : σ), whP (β := Empty) tm (fun s => (bm s).bd fun s' => .ok (.nx s')) m s = (whS tm bm m s).bd fun s' => .ok (.nx s')
  | 0, s => rfl
  | m + 1, s => by
    simp only [whP, whS]
    cases tm s with
    | ok c =>
      simp only [M.bd_ok]
      cases c with
      | false => rfl
      | true =>
        simp only [if_true]
        cases bm s with
        | ok s' => simp only [M.bd_ok]; exact whP_whS m s'
        | exn c => rfl
        | no => rfl
    | exn c => rfl
    | no => rfl
theorem wp_whS {body : DS} {m : M ω} (view : σ → Cxt) (tm : σ → M Bool) (bm : σ → M σ) (s0 : σ) (k : σ → M ω) (h0 : subs (view s0) Γ) (ht : ∀ s, XT fx (view s) t (tm s)) (hw : ∀ s, Wp fx (view s) body (bm s) (PS fx view)) (hk : ∀ s, Wp fx (view s) rest (k s) Q)
    (hm : ((whS tm bm big s0).bd k) = m := by first | rfl | simp only [M.bd_assoc, M.bd_ok]) (sf : ∀ s, Safe fx (view s) (tm s) := by first | exact fun _ => safe_ok | exact fun _ => safe_nil | exact fun _ => safe_gd | exact fun _ => safe_ix | exact fun _ => safe_one (j := 0) rfl | exact fun _ => safe_inst) : Wp fx Γ (cSeq (cWhile t body) rest) m Q := by
  refine wp_whP (P := fun _ (a : Empty) _ _ => False) (inj := fun a => a.elim) view tm (fun s => (bm s).bd fun s' => .ok (.nx s')) s0 k h0 ht (fun s => ⟨fun B ρ S hs => ?_⟩) ⟨fun _ a => a.elim⟩ hk ?_ sf
  · have q := (hw s).run B ρ S hs
    cases hq : bm s with
    | ok s' => rw [hq] at q; exact q
    | exn c => rw [hq] at q; exact q
    | no => trivial
  · rw [← hm, whP_whS, M.bd_assoc]
    congr 1
inductive ArgR (S : Sto) : List Dv → List Vw → Prop
  | nil : ArgR S [] []
  | val {ds vs} (d : Dv) : ArgR S ds vs → ArgR S (d :: ds) (.val d :: vs)
  | see {ds vs} {d' d : Dv} (h : Sn S d' d) (hn : ∀ n, d' = .ref n → n < S.length) : ArgR S ds vs → ArgR S (d' :: ds) (.see d :: vs)
def numd : Nat → List Vw → Cxt
  | _, [] => []
  | i, v :: vs => (i, v) :: numd (i + 1) vs
theorem numd_mem {i : Nat} {v : Vw} : ∀ {vs : List Vw} {k : Nat}, (i, v) ∈ numd k vs → ∃ j, i = k + j ∧ vs[j]? = some v
  | [], _, h => by cases h
  | u :: vs, k, h => by
    rcases List.mem_cons.mp h with h | h
    · cases h; exact ⟨0, rfl, rfl⟩
    · obtain ⟨j, h1, h2⟩ := numd_mem h
      exact ⟨j + 1, by omega, h2⟩
theorem args_at {S : Sto} : ∀ {ds : List Dv} {vs : List Vw}, ArgR S ds vs → ∀ (j : Nat) (v : Vw), vs[j]? = some v → match v with
    | .val d => ds[j]? = some d
    | .see d => ∃ d', ds[j]? = some d' ∧ Sn S d' d ∧ ∀ n, d' = .ref n → n < S.length
    | .own _ _ => False
  | _, _, .nil, _, _, h => by simp at h
  | _, _, .val d a, 0, v, h => by cases h; rfl
  | _, _, .see h1 hn a, 0, v, h => by cases h; exact ⟨_, rfl, h1, hn⟩
  | _, _, .val d a, j + 1, v, h => args_at a j v h
  | _, _, .see h1 hn a, j + 1, v, h => args_at a j v h
theorem args_len {S : Sto} : ∀ {ds : List Dv} {vs : List Vw}, ArgR S ds vs → ds.length = vs.length
  | _, _, .nil => rfl
  | _, _, .val d a => by simp [args_len a]
  | _, _, .see h1 hn a => by simp [args_len a]
theorem start_at {ds : List Dv} {j N : Nat} {d : Dv} (h : ds[j]? = some d) : (ds.map some ++ List.replicate N none)[j]? = some (some d) := by
  rw [List.getElem?_append_left (by simpa using getElem?_lt h), List.getElem?_map, h]
  rfl
theorem sat_start {N : Nat} {S : Sto} {ds : List Dv} {vs : List Vw} (a : ArgR S ds vs) (hN : vs.length ≤ N) : Sat ⟨N, []⟩ S (numd 0 vs) (ds.map some ++ List.replicate (N - ds.length) none) S := by
  refine ⟨by simp; have := args_len a; omega, Nat.le_refl _, (fun p h => by cases h), fun _ _ _ => rfl, fun i v m => ?_, fun i j n o o' m m' => ?_⟩
  · obtain ⟨j, h1, h2⟩ := numd_mem m
    have e : i = j := by omega
    subst e
    have := args_at a i v h2
    cases v with
    | val d => exact start_at this
    | see d => obtain ⟨d', h3, h4, h5⟩ := this; exact ⟨d', start_at h3, h4, fun n hn => ⟨h5 n hn, by simp⟩⟩
    | own n o => exact this.elim
  · obtain ⟨k, h1, h2⟩ := numd_mem m
    exact (args_at a k _ h2).elim
theorem fn_ok {N : Nat} {body : DS} {ds : List Dv} {vs : List Vw} {S : Sto} {m : M β} {e : β → Dv} (a : ArgR S ds vs) (pl : ∀ b, (e b).plain = true) (h : Wp ⟨N, []⟩ (numd 0 vs) body m (PF e)) (hN : vs.length ≤ N := by first | decide | simp) : Sim (runF N body ds S) S m (vl e) := by
  have q := h.run S _ S (sat_start a hN)
  cases m with
  | ok b =>
    obtain ⟨o, S', h1, h2⟩ := q
    refine ⟨e b, ?_, rfl⟩
    rcases h2 with ⟨d, G, rfl, rfl, rfl | ⟨j, es, rfl, h3, h4⟩⟩ | ⟨ρ', G, rfl, rfl, h4⟩
    · exact f_val rfl h1 (pl b)
    · have hp := pl b
      rw [h4] at hp ⊢
      unfold runF
      rw [run_rt rfl h1, tidy_lst (by simpa [Dv.plain] using hp) S h3]
    · rw [h4]
      exact f_non rfl h1
  | exn c =>
    obtain ⟨ρ', G, h1⟩ := q
    exact f_exn rfl h1
  | no => trivial
end
end Fc
set_option exponentiation.threshold 256
set_option maxHeartbeats 4000000
set_option maxHeartbeats 4000000
namespace Fc
open PySem L2
local macro_rules | `(tactic| walk_at "fc") => `(tactic| try simp only [runB, cSeq, cNil, cRet, cRetN, cExpr, cIf, cSet, cAsg, cPar, cAug, cRaise, cStore, cPass, cWipe, wipeD, toS_ok, toS_exn, toS_stuck, Res.bd_ok, Res.bd_exn, Res.bd_stuck, Res.bdN_ok, Res.bdN_exn, Res.bdN_stuck,
  eVar, eC, eTup, eLst, eOp, eChain, eUn, eAnd, eOr, eNot, eIf, eRep, tTs, tAnd2, tOr2, tNot2, tTrue, eCall, eBi, eIsi, eMtL, eSl, oNo, oSo, lNil, lCons, iSeq, iRange1, iRange2, zAdd, zSub, zMul, zDiv, zMod, ofO, opInt, opIn, opNotIn, opEq, opNe, opIs, opIsnt, mk_t, mk_f,
  List.map_cons, List.map_nil, List.length_cons, List.length_nil, List.replicate, List.append_nil, List.nil_append, List.cons_append, List.getElem?_cons_zero, List.getElem?_cons_succ, List.getElem?_nil, List.set_cons_zero, List.set_cons_succ, List.set_nil, lm0, lm1, lm2, lm3, lm4, lm5, lm6, lm7, lm8, lm9, asg_nm, asg_tp, asgs_nil, asgs_cons, Option.bind_some, Option.bind_none, Option.map_some, Option.map_none,
  Nat.reduceSub, Nat.reduceAdd, Nat.zero_add, Nat.add_zero, Nat.sub_self, if_true, if_false, reduceIte, Bool.false_eq_true, Bool.true_eq_false, Bool.not_true, Bool.not_false, ix_tup, ix_fz, at0, at1, at2, eDNew, eDGet, eDGet2, eDIn, eDPop, cDPut, cAugS, cSub2, dic_ref, keyOf, reduceCtorEq])
local macro_rules | `(tactic| walk_at "fo") => `(tactic| try simp only [*, runB, cSeq, cNil, cRet, cRetN, cExpr, cIf, cSet, cAsg, cPar, cAug, cRaise, cStore, cPass, cWipe, wipeD, toS_ok, toS_exn, toS_stuck, Res.bd_ok, Res.bd_exn, Res.bd_stuck, Res.bdN_ok, Res.bdN_exn, Res.bdN_stuck,
  eVar, eC, eTup, eLst, eOp, eChain, eUn, eAnd, eOr, eNot, eIf, eRep, tTs, tAnd2, tOr2, tNot2, tTrue, eCall, eBi, eIsi, eMtL, eSl, oNo, oSo, lNil, lCons, iSeq, iRange1, iRange2, zAdd, zSub, zMul, zDiv, zMod, ofO, opInt, opIn, opNotIn, opEq, opNe, opIs, opIsnt, mk_t, mk_f,
  List.map_cons, List.map_nil, List.length_cons, List.length_nil, List.replicate, List.append_nil, List.nil_append, List.cons_append, List.getElem?_cons_zero, List.getElem?_cons_succ, List.getElem?_nil, List.set_cons_zero, List.set_cons_succ, List.set_nil, lm0, lm1, lm2, lm3, lm4, lm5, lm6, lm7, lm8, lm9, asg_nm, asg_tp, asgs_nil, asgs_cons, Option.bind_some, Option.bind_none, Option.map_some, Option.map_none,
  Nat.reduceSub, Nat.reduceAdd, Nat.zero_add, Nat.add_zero, Nat.sub_self, if_true, if_false, reduceIte, Bool.false_eq_true, Bool.true_eq_false, Bool.not_true, Bool.not_false, ix_tup, ix_fz, at0, at1, at2, eDNew, eDGet, eDGet2, eDIn, eDPop, cDPut, cAugS, cSub2, dic_ref, keyOf, reduceCtorEq, and_self, Bool.and_self, decide_true, decide_false, List.append_assoc, List.length_append, Nat.add_assoc, at_new, at_newk, add_fz, add_rf, add_tt, ix_ref, seq_ref, list_ref, seq_tup, seq_fz, list_fz, ix_tup, ix_fz, neg_int, app_ref, set_newk, set_new0, iZ, iEn, sl_tup, sl_fz, eLcV, len_tup, len_ref, len_fz, tuple_fz, tuple_ref, ty_non, ty_bl, ty_int, ty_str, ty_tup, ty_fz])
local macro_rules | `(tactic| walk_at "fg") => `(tactic| try simp only [*, runB, cSeq, cNil, cRet, cRetN, cExpr, cIf, cSet, cAsg, cPar, cAug, cRaise, cStore, cPass, cWipe, wipeD, toS_ok, toS_exn, toS_stuck, Res.bd_ok, Res.bd_exn, Res.bd_stuck, Res.bdN_ok, Res.bdN_exn, Res.bdN_stuck,
  eVar, eC, eTup, eLst, eOp, eChain, eUn, eAnd, eOr, eNot, eIf, eRep, tTs, tAnd2, tOr2, tNot2, tTrue, eCall, eBi, eIsi, eMtL, eSl, oNo, oSo, lNil, lCons, iSeq, iRange1, iRange2, zAdd, zSub, zMul, zDiv, zMod, ofO, opInt, opIn, opNotIn, opEq, opNe, opIs, opIsnt, mk_t, mk_f,
  List.map_cons, List.map_nil, List.length_cons, List.length_nil, List.replicate, List.append_nil, List.nil_append, List.cons_append, List.getElem?_cons_zero, List.getElem?_cons_succ, List.getElem?_nil, List.set_cons_zero, List.set_cons_succ, List.set_nil, lm0, lm1, lm2, lm3, lm4, lm5, lm6, lm7, lm8, lm9, asg_nm, asg_tp, asgs_nil, asgs_cons, Option.bind_some, Option.bind_none, Option.map_some, Option.map_none,
  Nat.reduceSub, Nat.reduceAdd, Nat.zero_add, Nat.add_zero, Nat.sub_self, if_true, if_false, reduceIte, Bool.false_eq_true, Bool.true_eq_false, Bool.not_true, Bool.not_false, ix_tup, ix_fz, at0, at1, at2, eDNew, eDGet, eDGet2, eDIn, eDPop, cDPut, cAugS, cSub2, dic_ref, keyOf, reduceCtorEq, and_self, Bool.and_self, decide_true, decide_false, List.append_assoc, List.length_append, Nat.add_assoc, at_new, at_newk, add_fz, add_rf, add_tt, ix_ref, seq_ref, list_ref, seq_tup, seq_fz, list_fz, ix_tup, ix_fz, neg_int, app_ref, set_newk, set_new0, iZ, iEn, sl_tup, sl_fz, eLcV, len_tup, len_ref, len_fz, tuple_fz, tuple_ref, ty_non, ty_bl, ty_int, ty_str, ty_tup, ty_fz])
local macro_rules | `(tactic| walk_at "fs") => `(tactic| try simp [runB, cSeq, cNil, cRet, cRetN, cExpr, cIf, cSet, cAsg, cPar, cAug, cRaise, cStore, cPass, cWipe, wipeD, toS_ok, toS_exn, toS_stuck, Res.bd_ok, Res.bd_exn, Res.bd_stuck, Res.bdN_ok, Res.bdN_exn, Res.bdN_stuck,
  eVar, eC, eTup, eLst, eOp, eChain, eUn, eAnd, eOr, eNot, eIf, eRep, tTs, tAnd2, tOr2, tNot2, tTrue, eCall, eBi, eIsi, eMtL, eSl, oNo, oSo, lNil, lCons, iSeq, iRange1, iRange2, zAdd, zSub, zMul, zDiv, zMod, ofO, opInt, opIn, opNotIn, opEq, opNe, opIs, opIsnt, mk_t, mk_f,
  List.map_cons, List.map_nil, List.length_cons, List.length_nil, List.replicate, List.append_nil, List.nil_append, List.cons_append, List.getElem?_cons_zero, List.getElem?_cons_succ, List.getElem?_nil, List.set_cons_zero, List.set_cons_succ, List.set_nil, lm0, lm1, lm2, lm3, lm4, lm5, lm6, lm7, lm8, lm9, asg_nm, asg_tp, asgs_nil, asgs_cons, Option.bind_some, Option.bind_none, Option.map_some, Option.map_none,
  Nat.reduceSub, Nat.reduceAdd, Nat.zero_add, Nat.add_zero, Nat.sub_self, if_true, if_false, reduceIte, Bool.false_eq_true, Bool.true_eq_false, Bool.not_true, Bool.not_false, ix_tup, ix_fz, at0, at1, at2, eDNew, eDGet, eDGet2, eDIn, eDPop, cDPut, cAugS, cSub2, dic_ref, keyOf, reduceCtorEq, and_self, Bool.and_self, decide_true, decide_false, List.append_assoc, List.length_append, Nat.add_assoc, at_new, at_newk, add_fz, add_rf, add_tt, ix_ref, seq_ref, list_ref, seq_tup, seq_fz, list_fz, ix_tup, ix_fz, neg_int, app_ref, set_newk, set_new0, iZ, iEn, sl_tup, sl_fz, eLcV, len_tup, len_ref, len_fz, tuple_fz, tuple_ref, ty_non, ty_bl, ty_int, ty_str, ty_tup, ty_fz, isT, eqD_int, at0, at1])
local macro_rules | `(tactic| walk_at "fh") => `(tactic| try simp [*, runB, cSeq, cNil, cRet, cRetN, cExpr, cIf, cSet, cAsg, cPar, cAug, cRaise, cStore, cPass, cWipe, wipeD, toS_ok, toS_exn, toS_stuck, Res.bd_ok, Res.bd_exn, Res.bd_stuck, Res.bdN_ok, Res.bdN_exn, Res.bdN_stuck,
  eVar, eC, eTup, eLst, eOp, eChain, eUn, eAnd, eOr, eNot, eIf, eRep, tTs, tAnd2, tOr2, tNot2, tTrue, eCall, eBi, eIsi, eMtL, eSl, oNo, oSo, lNil, lCons, iSeq, iRange1, iRange2, zAdd, zSub, zMul, zDiv, zMod, ofO, opInt, opIn, opNotIn, opEq, opNe, opIs, opIsnt, mk_t, mk_f,
  List.map_cons, List.map_nil, List.length_cons, List.length_nil, List.replicate, List.append_nil, List.nil_append, List.cons_append, List.getElem?_cons_zero, List.getElem?_cons_succ, List.getElem?_nil, List.set_cons_zero, List.set_cons_succ, List.set_nil, lm0, lm1, lm2, lm3, lm4, lm5, lm6, lm7, lm8, lm9, asg_nm, asg_tp, asgs_nil, asgs_cons, Option.bind_some, Option.bind_none, Option.map_some, Option.map_none,
  Nat.reduceSub, Nat.reduceAdd, Nat.zero_add, Nat.add_zero, Nat.sub_self, if_true, if_false, reduceIte, Bool.false_eq_true, Bool.true_eq_false, Bool.not_true, Bool.not_false, ix_tup, ix_fz, at0, at1, at2, eDNew, eDGet, eDGet2, eDIn, eDPop, cDPut, cAugS, cSub2, dic_ref, keyOf, reduceCtorEq, and_self, Bool.and_self, decide_true, decide_false, List.append_assoc, List.length_append, Nat.add_assoc, at_new, at_newk, add_fz, add_rf, add_tt, ix_ref, seq_ref, list_ref, seq_tup, seq_fz, list_fz, ix_tup, ix_fz, neg_int, app_ref, set_newk, set_new0, iZ, iEn, sl_tup, sl_fz, eLcV, len_tup, len_ref, len_fz, tuple_fz, tuple_ref, ty_non, ty_bl, ty_int, ty_str, ty_tup, ty_fz, isT, eqD_int, at0, at1])
noncomputable def b_is_integer : DS :=
 (cSeq (cRet (eAnd (eIsi .int (eVar 0)) (eNot (eIsi .bl (eVar 0)))))
 cNil)
noncomputable def r_is_integer : Den := runF 1 b_is_integer
theorem is_integer_run {d : Dv} {t : Ty} (S : Sto) (e : tyD S d = some t) : r_is_integer [d] S = .ok (.bl (decide (t = .int))) S := by
  refine f_val0 rfl ?_ rfl
  unfold b_is_integer
  walk_at "fc"
  rw [e]
  cases t <;> walk_at "fc" <;> simp [isT, e] <;> walk_at "fc" <;> simp [isT, e]
theorem tyD_int {S : Sto} {d : Dv} (h : tyD S d = some .int) : ∃ i, d = .int i := by
  cases d with
  | int i => exact ⟨i, rfl⟩
  | ref n =>
    simp only [tyD] at h
    split at h <;> cases h
  | _ => cases h
noncomputable def b_greatest_divisor_L1 : DS :=
 (cSeq (cPar 0 1 (lCons (eVar 1) (lCons (eOp opMod (eVar 0) (eVar 1)) lNil)))
 cNil)
noncomputable def b_greatest_divisor : DS :=
 (cSeq (cPar 0 1 (lCons (eBi fAbs (lCons (eVar 0) lNil)) (lCons (eBi fAbs (lCons (eVar 1) lNil)) lNil)))
 (cSeq (cWhile (tTs (eOp opGt (eVar 1) (eC (.int 0)))) b_greatest_divisor_L1)
 (cSeq (cRet (eVar 0))
 cNil)))
noncomputable def r_greatest_divisor : Den := runF 2 b_greatest_divisor
theorem gcd_loop (S : Sto) : ∀ (n a b fuel : Nat), b < 2 ^ n → 2 * n < fuel →
    whileL (tTs (eOp opGt (eVar 1) (eC (.int 0)))) b_greatest_divisor_L1 fuel [some (.int (a : Nat)), some (.int (b : Nat))] S =
      .ok (.nx [some (.int (Nat.gcd a b : Nat)), some (.int 0)]) S := by
  have stop : ∀ (a fuel : Nat), 0 < fuel → whileL (tTs (eOp opGt (eVar 1) (eC (.int 0)))) b_greatest_divisor_L1 fuel [some (.int (a : Nat)), some (.int ((0 : Nat) : Int))] S =
      .ok (.nx [some (.int (Nat.gcd a 0 : Nat)), some (.int 0)]) S := by
    intro a fuel hf
    cases fuel with
    | zero => omega
    | succ f =>
      unfold whileL
      walk_at "fc"
      simp
  have go : ∀ (a b fuel : Nat), 0 < b → whileL (tTs (eOp opGt (eVar 1) (eC (.int 0)))) b_greatest_divisor_L1 (fuel + 1) [some (.int (a : Nat)), some (.int (b : Nat))] S =
      whileL (tTs (eOp opGt (eVar 1) (eC (.int 0)))) b_greatest_divisor_L1 fuel [some (.int (b : Nat)), some (.int ((a % b : Nat) : Int))] S := by
    intro a b fuel hb
    conv => lhs; unfold whileL
    walk_at "fc"
    have h1 : (0 : Int) < (b : Int) := by omega
    simp only [decide_eq_true h1, b_greatest_divisor_L1]
    walk_at "fc"
    simp only [opMod, if_pos h1]
    walk_at "fc"
    rw [Int.natCast_emod]
  intro n
  induction n with
  | zero =>
    intro a b fuel hb hf
    have : b = 0 := by omega
    subst this
    exact stop a fuel (by omega)
  | succ n ih =>
    intro a b fuel hb hf
    by_cases h0 : b = 0
    · subst h0
      exact stop a fuel (by omega)
    · obtain ⟨f2, rfl⟩ : ∃ f2, fuel = f2 + 1 := ⟨fuel - 1, by omega⟩
      rw [go a b f2 (by omega)]
      by_cases h1 : a % b = 0
      · rw [h1, stop b f2 (by omega), Nat.gcd_comm a b, Nat.gcd_rec b a, h1]
        simp
      · obtain ⟨f3, rfl⟩ : ∃ f3, f2 = f3 + 1 := ⟨f2 - 1, by omega⟩
        rw [go b (a % b) f3 (by omega)]
        have hlt : a % b < b := Nat.mod_lt _ (by omega)
        have hm : b % (a % b) < a % b := Nat.mod_lt _ (by omega)
        have hm2 : b % (a % b) + a % b ≤ b := by
          have e := Nat.div_add_mod b (a % b)
          have hd : 0 < b / (a % b) := Nat.div_pos (Nat.le_of_lt hlt) (by omega)
          have : a % b ≤ (a % b) * (b / (a % b)) := Nat.le_mul_of_pos_right _ hd
          omega
        have hh : b % (a % b) < 2 ^ n := by
          rw [Nat.pow_succ] at hb
          omega
        rw [ih (a % b) (b % (a % b)) f3 hh (by omega)]
        have e1 : Nat.gcd a b = Nat.gcd (a % b) (b % (a % b)) := by
          rw [Nat.gcd_comm a b, Nat.gcd_rec b a, Nat.gcd_rec (a % b) b, Nat.gcd_comm]
        rw [e1]
theorem greatest_divisor_run {a b : Int} (hb : b.natAbs < 2 ^ 100000000) (S : Sto) : r_greatest_divisor [.int a, .int b] S = .ok (.int (Int.gcd a b : Nat)) S := by
  refine f_val0 rfl ?_ rfl
  unfold b_greatest_divisor
  walk_at "fc"
  simp only [fAbs, abs_if]
  walk_at "fc"
  simp only [cWhile]
  have e := gcd_loop S 100000000 a.natAbs b.natAbs big hb (lt_big (by decide))
  rw [e]
  walk_at "fc"
  rfl
def fr (q : Rat) : Dv := .tup [.int q.num, .int q.den]
theorem fr_eq {a b : Int} {q : Rat} (h1 : q.num = a) (h2 : (q.den : Int) = b) : Dv.tup [.int a, .int b] = fr q := by rw [fr, h1, h2]
theorem fr_one : Dv.tup [.int 1, .int 1] = fr 1 := rfl
theorem fr_plain (q : Rat) : (fr q).plain = true := rfl
theorem frs_plain (qs : List Rat) : Dv.plains (qs.map fr) = true := by
  rw [plains_all]
  simp [fr_plain]
theorem quot_parts {a b : Int} (h : 0 < b) : ((a : Rat) / (b : Rat)).num = a / (Int.gcd a b : Nat) ∧ ((((a : Rat) / (b : Rat)).den : Nat) : Int) = b / (Int.gcd a b : Nat) := by
  obtain ⟨n, rfl⟩ := Int.eq_ofNat_of_zero_le (Int.le_of_lt h)
  have hn : n ≠ 0 := by omega
  have e : (a : Rat) / ((n : Int) : Rat) = Rat.normalize a n hn := by
    rw [Rat.normalize_eq_mkRat, Rat.mkRat_eq_div]
    rfl
  rw [e, Rat.normalize_eq]
  exact ⟨rfl, by simp [Int.gcd]⟩
theorem quot_fr {a b : Int} (h : 0 < b) : Dv.tup [.int (a / (Int.gcd a b : Nat)), .int (b / (Int.gcd a b : Nat))] = fr ((a : Rat) / (b : Rat)) :=
  fr_eq (quot_parts h).1 (quot_parts h).2
def Sm (q : Rat) : Prop := q.num.natAbs < 2 ^ 4000 ∧ q.den < 2 ^ 4000
theorem gcd_div_ok {a b : Int} (h0 : 0 < b) (h1 : b.natAbs < 2 ^ 8000) : divOk (Int.gcd a b : Nat) = true := by
  have hg : 0 < Int.gcd a b := Int.gcd_pos_of_ne_zero_right a (by omega)
  have hle : Int.gcd a b ≤ b.natAbs := Nat.le_of_dvd (by omega) (Int.gcd_dvd_natAbs_right a b)
  exact divOk_of (a := 8000) (by omega) (by rw [Int.natAbs_natCast]; omega) (by decide) (by decide)
noncomputable def b_ratio : DS :=
 (cSeq (cSet 2 (eCall 2 r_greatest_divisor (lCons (eVar 0) (lCons (eVar 1) lNil))))
 (cSeq (cRet (eTup (lCons (eOp opDiv (eVar 0) (eVar 2)) (lCons (eOp opDiv (eVar 1) (eVar 2)) lNil))))
 cNil))
noncomputable def r_ratio : Den := runF 3 b_ratio
theorem ratio_run {a b : Int} (h0 : 0 < b) (h1 : b.natAbs < 2 ^ 8000) (S : Sto) : r_ratio [.int a, .int b] S = .ok (fr ((a : Rat) / (b : Rat))) S := by
  refine f_val0 rfl ?_ rfl
  unfold b_ratio
  walk_at "fc"
  rw [greatest_divisor_run (Nat.lt_of_lt_of_le h1 (Nat.pow_le_pow_right (by decide) (by decide)))]
  walk_at "fc"
  simp only [opDiv, if_pos (gcd_div_ok (a := a) h0 h1)]
  walk_at "fc"
  rw [quot_fr h0]
theorem Sm.mul {a b : Rat} (ha : Sm a) (hb : Sm b) : mulOk a.num b.num = true ∧ mulOk a.num b.den = true ∧ mulOk a.den b.den = true ∧ mulOk a.den b.num = true ∧ ((a.den : Int) * b.den).natAbs < 2 ^ 8000 :=
  have a2 : ((a.den : Int)).natAbs < 2 ^ 4000 := by rw [Int.natAbs_natCast]; exact ha.2
  have b2 : ((b.den : Int)).natAbs < 2 ^ 4000 := by rw [Int.natAbs_natCast]; exact hb.2
  ⟨mulOk_of ha.1 hb.1 (by decide) (by decide) (by decide), mulOk_of ha.1 b2 (by decide) (by decide) (by decide), mulOk_of a2 b2 (by decide) (by decide) (by decide), mulOk_of a2 hb.1 (by decide) (by decide) (by decide), abs_mul (a := 4000) (b := 4000) a2 b2⟩
theorem den_pos (a : Rat) : (0 : Int) < a.den := by have := a.den_pos; omega
theorem den_mul_pos (a b : Rat) : (0 : Int) < (a.den : Int) * b.den := Int.mul_pos (den_pos a) (den_pos b)
theorem num_den (a : Rat) : (a.num : Rat) = a * ((a.den : Int) : Rat) := by
  have := Rat.mkRat_self a
  rw [Rat.mkRat_eq_div] at this
  have h : ((a.den : Nat) : Rat) ≠ 0 := by
    intro e
    have := a.den_nz
    exact this (by exact_mod_cast e)
  rw [show (((a.den : Nat) : Int) : Rat) = ((a.den : Nat) : Rat) from rfl]
  grind
theorem den_ne (a : Rat) : ((a.den : Int) : Rat) ≠ 0 := by
  intro e
  have := a.den_nz
  exact this (by exact_mod_cast e)
noncomputable def b_plus : DS :=
 (cSeq (cRet (eCall 2 r_ratio (lCons (eOp (opAdd false) (eOp (opMul false) (eOp opIx (eVar 0) (eC (.int 0))) (eOp opIx (eVar 1) (eC (.int 1)))) (eOp (opMul false) (eOp opIx (eVar 1) (eC (.int 0))) (eOp opIx (eVar 0) (eC (.int 1))))) (lCons (eOp (opMul false) (eOp opIx (eVar 0) (eC (.int 1))) (eOp opIx (eVar 1) (eC (.int 1)))) lNil))))
 cNil)
noncomputable def r_plus : Den := runF 2 b_plus
theorem plus_run {a b : Rat} (ha : Sm a) (hb : Sm b) (S : Sto) : r_plus [fr a, fr b] S = .ok (fr (a + b)) S := by
  refine f_val0 rfl ?_ rfl
  unfold b_plus fr
  obtain ⟨m1, m2, m3, m4, m5⟩ := ha.mul hb
  obtain ⟨n1, n2, n3, n4, n5⟩ := hb.mul ha
  walk_at "fc"
  simp only [opMul, m2, n2, m3]
  walk_at "fc"
  rw [ratio_run (den_mul_pos a b) m5]
  walk_at "fc"
  have e : ((a.num * (b.den : Int) + b.num * (a.den : Int) : Int) : Rat) / (((a.den : Int) * (b.den : Int) : Int) : Rat) = a + b := by
    rw [Rat.intCast_add, Rat.intCast_mul, Rat.intCast_mul, Rat.intCast_mul, num_den a, num_den b]
    have := den_ne a
    have := den_ne b
    grind
  rw [e]
  rfl
end Fc
set_option exponentiation.threshold 256
set_option maxHeartbeats 4000000
set_option maxHeartbeats 4000000
set_option exponentiation.threshold 100000
namespace Fc
open PySem L2
local macro_rules | `(tactic| walk_at "fc") => `(tactic| try simp only [runB, cSeq, cNil, cRet, cRetN, cExpr, cIf, cSet, cAsg, cPar, cAug, cRaise, cStore, cPass, cWipe, wipeD, toS_ok, toS_exn, toS_stuck, Res.bd_ok, Res.bd_exn, Res.bd_stuck, Res.bdN_ok, Res.bdN_exn, Res.bdN_stuck,
  eVar, eC, eTup, eLst, eOp, eChain, eUn, eAnd, eOr, eNot, eIf, eRep, tTs, tAnd2, tOr2, tNot2, tTrue, eCall, eBi, eIsi, eMtL, eSl, oNo, oSo, lNil, lCons, iSeq, iRange1, iRange2, zAdd, zSub, zMul, zDiv, zMod, ofO, opInt, opIn, opNotIn, opEq, opNe, opIs, opIsnt, mk_t, mk_f,
  List.map_cons, List.map_nil, List.length_cons, List.length_nil, List.replicate, List.append_nil, List.nil_append, List.cons_append, List.getElem?_cons_zero, List.getElem?_cons_succ, List.getElem?_nil, List.set_cons_zero, List.set_cons_succ, List.set_nil, lm0, lm1, lm2, lm3, lm4, lm5, lm6, lm7, lm8, lm9, asg_nm, asg_tp, asgs_nil, asgs_cons, Option.bind_some, Option.bind_none, Option.map_some, Option.map_none,
  Nat.reduceSub, Nat.reduceAdd, Nat.zero_add, Nat.add_zero, Nat.sub_self, if_true, if_false, reduceIte, Bool.false_eq_true, Bool.true_eq_false, Bool.not_true, Bool.not_false, ix_tup, ix_fz, at0, at1, at2, eDNew, eDGet, eDGet2, eDIn, eDPop, cDPut, cAugS, cSub2, dic_ref, keyOf, reduceCtorEq])
local macro_rules | `(tactic| walk_at "fo") => `(tactic| try simp only [*, runB, cSeq, cNil, cRet, cRetN, cExpr, cIf, cSet, cAsg, cPar, cAug, cRaise, cStore, cPass, cWipe, wipeD, toS_ok, toS_exn, toS_stuck, Res.bd_ok, Res.bd_exn, Res.bd_stuck, Res.bdN_ok, Res.bdN_exn, Res.bdN_stuck,
  eVar, eC, eTup, eLst, eOp, eChain, eUn, eAnd, eOr, eNot, eIf, eRep, tTs, tAnd2, tOr2, tNot2, tTrue, eCall, eBi, eIsi, eMtL, eSl, oNo, oSo, lNil, lCons, iSeq, iRange1, iRange2, zAdd, zSub, zMul, zDiv, zMod, ofO, opInt, opIn, opNotIn, opEq, opNe, opIs, opIsnt, mk_t, mk_f,
  List.map_cons, List.map_nil, List.length_cons, List.length_nil, List.replicate, List.append_nil, List.nil_append, List.cons_append, List.getElem?_cons_zero, List.getElem?_cons_succ, List.getElem?_nil, List.set_cons_zero, List.set_cons_succ, List.set_nil, lm0, lm1, lm2, lm3, lm4, lm5, lm6, lm7, lm8, lm9, asg_nm, asg_tp, asgs_nil, asgs_cons, Option.bind_some, Option.bind_none, Option.map_some, Option.map_none,
  Nat.reduceSub, Nat.reduceAdd, Nat.zero_add, Nat.add_zero, Nat.sub_self, if_true, if_false, reduceIte, Bool.false_eq_true, Bool.true_eq_false, Bool.not_true, Bool.not_false, ix_tup, ix_fz, at0, at1, at2, eDNew, eDGet, eDGet2, eDIn, eDPop, cDPut, cAugS, cSub2, dic_ref, keyOf, reduceCtorEq, and_self, Bool.and_self, decide_true, decide_false, List.append_assoc, List.length_append, Nat.add_assoc, at_new, at_newk, add_fz, add_rf, add_tt, ix_ref, seq_ref, list_ref, seq_tup, seq_fz, list_fz, ix_tup, ix_fz, neg_int, app_ref, set_newk, set_new0, iZ, iEn, sl_tup, sl_fz, eLcV, len_tup, len_ref, len_fz, tuple_fz, tuple_ref, ty_non, ty_bl, ty_int, ty_str, ty_tup, ty_fz])
local macro_rules | `(tactic| walk_at "fg") => `(tactic| try simp only [*, runB, cSeq, cNil, cRet, cRetN, cExpr, cIf, cSet, cAsg, cPar, cAug, cRaise, cStore, cPass, cWipe, wipeD, toS_ok, toS_exn, toS_stuck, Res.bd_ok, Res.bd_exn, Res.bd_stuck, Res.bdN_ok, Res.bdN_exn, Res.bdN_stuck,
  eVar, eC, eTup, eLst, eOp, eChain, eUn, eAnd, eOr, eNot, eIf, eRep, tTs, tAnd2, tOr2, tNot2, tTrue, eCall, eBi, eIsi, eMtL, eSl, oNo, oSo, lNil, lCons, iSeq, iRange1, iRange2, zAdd, zSub, zMul, zDiv, zMod, ofO, opInt, opIn, opNotIn, opEq, opNe, opIs, opIsnt, mk_t, mk_f,
  List.map_cons, List.map_nil, List.length_cons, List.length_nil, List.replicate, List.append_nil, List.nil_append, List.cons_append, List.getElem?_cons_zero, List.getElem?_cons_succ, List.getElem?_nil, List.set_cons_zero, List.set_cons_succ, List.set_nil, lm0, lm1, lm2, lm3, lm4, lm5, lm6, lm7, lm8, lm9, asg_nm, asg_tp, asgs_nil, asgs_cons, Option.bind_some, Option.bind_none, Option.map_some, Option.map_none,
  Nat.reduceSub, Nat.reduceAdd, Nat.zero_add, Nat.add_zero, Nat.sub_self, if_true, if_false, reduceIte, Bool.false_eq_true, Bool.true_eq_false, Bool.not_true, Bool.not_false, ix_tup, ix_fz, at0, at1, at2, eDNew, eDGet, eDGet2, eDIn, eDPop, cDPut, cAugS, cSub2, dic_ref, keyOf, reduceCtorEq, and_self, Bool.and_self, decide_true, decide_false, List.append_assoc, List.length_append, Nat.add_assoc, at_new, at_newk, add_fz, add_rf, add_tt, ix_ref, seq_ref, list_ref, seq_tup, seq_fz, list_fz, ix_tup, ix_fz, neg_int, app_ref, set_newk, set_new0, iZ, iEn, sl_tup, sl_fz, eLcV, len_tup, len_ref, len_fz, tuple_fz, tuple_ref, ty_non, ty_bl, ty_int, ty_str, ty_tup, ty_fz])
local macro_rules | `(tactic| walk_at "fs") => `(tactic| try simp [runB, cSeq, cNil, cRet, cRetN, cExpr, cIf, cSet, cAsg, cPar, cAug, cRaise, cStore, cPass, cWipe, wipeD, toS_ok, toS_exn, toS_stuck, Res.bd_ok, Res.bd_exn, Res.bd_stuck, Res.bdN_ok, Res.bdN_exn, Res.bdN_stuck,
  eVar, eC, eTup, eLst, eOp, eChain, eUn, eAnd, eOr, eNot, eIf, eRep, tTs, tAnd2, tOr2, tNot2, tTrue, eCall, eBi, eIsi, eMtL, eSl, oNo, oSo, lNil, lCons, iSeq, iRange1, iRange2, zAdd, zSub, zMul, zDiv, zMod, ofO, opInt, opIn, opNotIn, opEq, opNe, opIs, opIsnt, mk_t, mk_f,
  List.map_cons, List.map_nil, List.length_cons, List.length_nil, List.replicate, List.append_nil, List.nil_append, List.cons_append, List.getElem?_cons_zero, List.getElem?_cons_succ, List.getElem?_nil, List.set_cons_zero, List.set_cons_succ, List.set_nil, lm0, lm1, lm2, lm3, lm4, lm5, lm6, lm7, lm8, lm9, asg_nm, asg_tp, asgs_nil, asgs_cons, Option.bind_some, Option.bind_none, Option.map_some, Option.map_none,
  Nat.reduceSub, Nat.reduceAdd, Nat.zero_add, Nat.add_zero, Nat.sub_self, if_true, if_false, reduceIte, Bool.false_eq_true, Bool.true_eq_false, Bool.not_true, Bool.not_false, ix_tup, ix_fz, at0, at1, at2, eDNew, eDGet, eDGet2, eDIn, eDPop, cDPut, cAugS, cSub2, dic_ref, keyOf, reduceCtorEq, and_self, Bool.and_self, decide_true, decide_false, List.append_assoc, List.length_append, Nat.add_assoc, at_new, at_newk, add_fz, add_rf, add_tt, ix_ref, seq_ref, list_ref, seq_tup, seq_fz, list_fz, ix_tup, ix_fz, neg_int, app_ref, set_newk, set_new0, iZ, iEn, sl_tup, sl_fz, eLcV, len_tup, len_ref, len_fz, tuple_fz, tuple_ref, ty_non, ty_bl, ty_int, ty_str, ty_tup, ty_fz, isT, eqD_int, at0, at1])
local macro_rules | `(tactic| walk_at "fh") => `(tactic| try simp [*, runB, cSeq, cNil, cRet, cRetN, cExpr, cIf, cSet, cAsg, cPar, cAug, cRaise, cStore, cPass, cWipe, wipeD, toS_ok, toS_exn, toS_stuck, Res.bd_ok, Res.bd_exn, Res.bd_stuck, Res.bdN_ok, Res.bdN_exn, Res.bdN_stuck,
  eVar, eC, eTup, eLst, eOp, eChain, eUn, eAnd, eOr, eNot, eIf, eRep, tTs, tAnd2, tOr2, tNot2, tTrue, eCall, eBi, eIsi, eMtL, eSl, oNo, oSo, lNil, lCons, iSeq, iRange1, iRange2, zAdd, zSub, zMul, zDiv, zMod, ofO, opInt, opIn, opNotIn, opEq, opNe, opIs, opIsnt, mk_t, mk_f,
  List.map_cons, List.map_nil, List.length_cons, List.length_nil, List.replicate, List.append_nil, List.nil_append, List.cons_append, List.getElem?_cons_zero, List.getElem?_cons_succ, List.getElem?_nil, List.set_cons_zero, List.set_cons_succ, List.set_nil, lm0, lm1, lm2, lm3, lm4, lm5, lm6, lm7, lm8, lm9, asg_nm, asg_tp, asgs_nil, asgs_cons, Option.bind_some, Option.bind_none, Option.map_some, Option.map_none,
  Nat.reduceSub, Nat.reduceAdd, Nat.zero_add, Nat.add_zero, Nat.sub_self, if_true, if_false, reduceIte, Bool.false_eq_true, Bool.true_eq_false, Bool.not_true, Bool.not_false, ix_tup, ix_fz, at0, at1, at2, eDNew, eDGet, eDGet2, eDIn, eDPop, cDPut, cAugS, cSub2, dic_ref, keyOf, reduceCtorEq, and_self, Bool.and_self, decide_true, decide_false, List.append_assoc, List.length_append, Nat.add_assoc, at_new, at_newk, add_fz, add_rf, add_tt, ix_ref, seq_ref, list_ref, seq_tup, seq_fz, list_fz, ix_tup, ix_fz, neg_int, app_ref, set_newk, set_new0, iZ, iEn, sl_tup, sl_fz, eLcV, len_tup, len_ref, len_fz, tuple_fz, tuple_ref, ty_non, ty_bl, ty_int, ty_str, ty_tup, ty_fz, isT, eqD_int, at0, at1])
def Bd (k : Nat) (q : Rat) : Prop := q.num.natAbs < 2 ^ k ∧ q.den < 2 ^ k
theorem Bd.sm {k : Nat} {q : Rat} (h : Bd k q) (hk : k ≤ 4000) : Sm q :=
  ⟨Nat.lt_of_lt_of_le h.1 (Nat.pow_le_pow_right (by decide) hk), Nat.lt_of_lt_of_le h.2 (Nat.pow_le_pow_right (by decide) hk)⟩
theorem Bd.mono {k l : Nat} {q : Rat} (h : Bd k q) (hk : k ≤ l) : Bd l q :=
  ⟨Nat.lt_of_lt_of_le h.1 (Nat.pow_le_pow_right (by decide) hk), Nat.lt_of_lt_of_le h.2 (Nat.pow_le_pow_right (by decide) hk)⟩
theorem natAbs_ediv_le (a : Int) (n : Nat) : (a / (n : Int)).natAbs ≤ a.natAbs := by
  rcases Nat.eq_zero_or_pos n with h | h
  · subst h
    simp
  · rcases Int.lt_or_le a 0 with ha | ha
    · have h1 : a ≤ a / (n : Int) := Int.le_ediv_of_mul_le (by omega) (by
        have : a * (n : Int) ≤ a * 1 := Int.mul_le_mul_of_nonpos_left (by omega) (by omega)
        omega)
      have h2 : a / (n : Int) ≤ 0 := Int.le_of_lt (Int.ediv_neg_of_neg_of_pos ha (by omega))
      omega
    · have h1 := Int.ediv_nonneg ha (by omega : 0 ≤ (n : Int))
      have h2 : a / (n : Int) ≤ a := Int.ediv_le_self _ ha
      omega
theorem Bd.quot {a b : Int} {k : Nat} (h0 : 0 < b) (h1 : a.natAbs < 2 ^ k) (h2 : b.natAbs < 2 ^ k) : Bd k ((a : Rat) / (b : Rat)) := by
  obtain ⟨e1, e2⟩ := quot_parts (a := a) h0
  refine ⟨?_, ?_⟩
  · rw [e1]
    exact Nat.lt_of_le_of_lt (natAbs_ediv_le _ _) h1
  · have : ((a : Rat) / (b : Rat)).den = (b / (Int.gcd a b : Nat)).natAbs := by omega
    rw [this]
    exact Nat.lt_of_le_of_lt (natAbs_ediv_le _ _) h2
theorem den_abs (q : Rat) : ((q.den : Int)).natAbs = q.den := Int.natAbs_natCast _
theorem Bd.dd {i j : Nat} {a b : Rat} (ha : Bd i a) (hb : Bd j b) : ((a.den : Int) * (b.den : Int)).natAbs < 2 ^ (i + j) := abs_mul (by rw [den_abs]; exact ha.2) (by rw [den_abs]; exact hb.2)
theorem add_quot (a b : Rat) : a + b = ((a.num * (b.den : Int) + b.num * (a.den : Int) : Int) : Rat) / (((a.den : Int) * (b.den : Int) : Int) : Rat) := by
  rw [Rat.intCast_add, Rat.intCast_mul, Rat.intCast_mul, Rat.intCast_mul, num_den a, num_den b]
  have := den_ne a
  have := den_ne b
  grind
theorem mul_quot (a b : Rat) : a * b = ((a.num * b.num : Int) : Rat) / (((a.den : Int) * (b.den : Int) : Int) : Rat) := by
  rw [Rat.intCast_mul, Rat.intCast_mul, num_den a, num_den b]
  have := den_ne a
  have := den_ne b
  grind
theorem Bd.add {i j : Nat} {a b : Rat} (ha : Bd i a) (hb : Bd j b) : Bd (i + j + 1) (a + b) := by
  rw [add_quot]
  refine Bd.quot (den_mul_pos a b) ?_ (Nat.lt_of_lt_of_le (ha.dd hb) (Nat.pow_le_pow_right (by decide) (by omega)))
  have h1 : (a.num * (b.den : Int)).natAbs < 2 ^ (i + j) := abs_mul ha.1 (by rw [den_abs]; exact hb.2)
  have h2 : (b.num * (a.den : Int)).natAbs < 2 ^ (j + i) := abs_mul hb.1 (by rw [den_abs]; exact ha.2)
  rw [Nat.add_comm j i] at h2
  rw [Nat.pow_succ]
  omega
theorem Bd.neg {i : Nat} {a : Rat} (ha : Bd i a) : Bd i (-a) := ⟨by simpa using ha.1, ha.2⟩
theorem Bd.sub {i j : Nat} {a b : Rat} (ha : Bd i a) (hb : Bd j b) : Bd (i + j + 1) (a - b) := by
  rw [Rat.sub_eq_add_neg]
  exact ha.add hb.neg
theorem Bd.mul {i j : Nat} {a b : Rat} (ha : Bd i a) (hb : Bd j b) : Bd (i + j) (a * b) := by
  rw [mul_quot]
  exact Bd.quot (den_mul_pos a b) (abs_mul ha.1 hb.1) (ha.dd hb)
def sumR (qs : List Rat) : Rat := qs.foldl (· + ·) 0
theorem foldl_addR (qs : List Rat) : ∀ a : Rat, qs.foldl (· + ·) a = a + sumR qs := by
  unfold sumR
  induction qs with
  | nil => intro a; simp only [List.foldl_nil]; grind
  | cons q qs ih =>
    intro a
    simp only [List.foldl_cons]
    rw [ih (a + q), ih (0 + q)]
    grind
theorem sumR_cons (q : Rat) (qs : List Rat) : sumR (q :: qs) = q + sumR qs := by
  conv => lhs; unfold sumR
  rw [List.foldl_cons, foldl_addR]
  grind
theorem sumR_nil : sumR [] = 0 := rfl
theorem sumR_append (ps qs : List Rat) : sumR (ps ++ qs) = sumR ps + sumR qs := by
  conv => lhs; unfold sumR
  rw [List.foldl_append, foldl_addR]
  rfl
noncomputable def b_added_L1 : DS :=
 (cSeq (cSet 1 (eCall 2 r_plus (lCons (eVar 1) (lCons (eVar 2) lNil))))
 (cWipe [2]))
noncomputable def b_added : DS :=
 (cSeq (cSet 1 (eC (.tup [.int 0, .int 1])))
 (cSeq (cFor (iSeq (eVar 0)) (.nm 2) b_added_L1)
 (cSeq (cRet (eVar 1))
 cNil)))
noncomputable def r_added : Den := runF 3 b_added
theorem added_run {qs : List Rat} {d : Dv} {S : Sto} (hd : seqOf S d = some (qs.map fr)) (hl : qs.length ≤ lim) (hs : ∀ pre post, qs = pre ++ post → Sm (sumR pre)) (hq : ∀ q ∈ qs, Sm q) :
    r_added [d] S = .ok (fr (sumR qs)) S := by
  refine f_val0 rfl ?_ rfl
  unfold b_added
  refine seq_go (set_go (d := fr 0) rfl) (seq_go (for_go (it := itSeq d) (S1 := S) ?_ ((for_pure qs fr (fun t => [some d, some (fr t), none]) (fun t q => t + q) (fun pre t => t = sumR pre) 0 (goes_seq hd) hl rfl ?_).1)) (seq_rt (ret_go rfl)))
  · walk_at "fc"
    rw [hd]
  · intro pre q post t e ht
    subst ht
    refine ⟨by rw [sumR_append, sumR_cons, sumR_nil]; grind, _, rfl, ?_⟩
    unfold b_added_L1
    walk_at "fc"
    rw [plus_run (hs pre _ e) (hq q (by rw [e]; simp))]
    walk_at "fc"
end Fc
set_option exponentiation.threshold 256
set_option maxHeartbeats 4000000
set_option maxHeartbeats 4000000
namespace Fc
open PySem L2
local macro_rules | `(tactic| walk_at "fc") => `(tactic| try simp only [runB, cSeq, cNil, cRet, cRetN, cExpr, cIf, cSet, cAsg, cPar, cAug, cRaise, cStore, cPass, cWipe, wipeD, toS_ok, toS_exn, toS_stuck, Res.bd_ok, Res.bd_exn, Res.bd_stuck, Res.bdN_ok, Res.bdN_exn, Res.bdN_stuck,
  eVar, eC, eTup, eLst, eOp, eChain, eUn, eAnd, eOr, eNot, eIf, eRep, tTs, tAnd2, tOr2, tNot2, tTrue, eCall, eBi, eIsi, eMtL, eSl, oNo, oSo, lNil, lCons, iSeq, iRange1, iRange2, zAdd, zSub, zMul, zDiv, zMod, ofO, opInt, opIn, opNotIn, opEq, opNe, opIs, opIsnt, mk_t, mk_f,
  List.map_cons, List.map_nil, List.length_cons, List.length_nil, List.replicate, List.append_nil, List.nil_append, List.cons_append, List.getElem?_cons_zero, List.getElem?_cons_succ, List.getElem?_nil, List.set_cons_zero, List.set_cons_succ, List.set_nil, lm0, lm1, lm2, lm3, lm4, lm5, lm6, lm7, lm8, lm9, asg_nm, asg_tp, asgs_nil, asgs_cons, Option.bind_some, Option.bind_none, Option.map_some, Option.map_none,
  Nat.reduceSub, Nat.reduceAdd, Nat.zero_add, Nat.add_zero, Nat.sub_self, if_true, if_false, reduceIte, Bool.false_eq_true, Bool.true_eq_false, Bool.not_true, Bool.not_false, ix_tup, ix_fz, at0, at1, at2, eDNew, eDGet, eDGet2, eDIn, eDPop, cDPut, cAugS, cSub2, dic_ref, keyOf, reduceCtorEq])
local macro_rules | `(tactic| walk_at "fo") => `(tactic| try simp only [*, runB, cSeq, cNil, cRet, cRetN, cExpr, cIf, cSet, cAsg, cPar, cAug, cRaise, cStore, cPass, cWipe, wipeD, toS_ok, toS_exn, toS_stuck, Res.bd_ok, Res.bd_exn, Res.bd_stuck, Res.bdN_ok, Res.bdN_exn, Res.bdN_stuck,
  eVar, eC, eTup, eLst, eOp, eChain, eUn, eAnd, eOr, eNot, eIf, eRep, tTs, tAnd2, tOr2, tNot2, tTrue, eCall, eBi, eIsi, eMtL, eSl, oNo, oSo, lNil, lCons, iSeq, iRange1, iRange2, zAdd, zSub, zMul, zDiv, zMod, ofO, opInt, opIn, opNotIn, opEq, opNe, opIs, opIsnt, mk_t, mk_f,
  List.map_cons, List.map_nil, List.length_cons, List.length_nil, List.replicate, List.append_nil, List.nil_append, List.cons_append, List.getElem?_cons_zero, List.getElem?_cons_succ, List.getElem?_nil, List.set_cons_zero, List.set_cons_succ, List.set_nil, lm0, lm1, lm2, lm3, lm4, lm5, lm6, lm7, lm8, lm9, asg_nm, asg_tp, asgs_nil, asgs_cons, Option.bind_some, Option.bind_none, Option.map_some, Option.map_none,
  Nat.reduceSub, Nat.reduceAdd, Nat.zero_add, Nat.add_zero, Nat.sub_self, if_true, if_false, reduceIte, Bool.false_eq_true, Bool.true_eq_false, Bool.not_true, Bool.not_false, ix_tup, ix_fz, at0, at1, at2, eDNew, eDGet, eDGet2, eDIn, eDPop, cDPut, cAugS, cSub2, dic_ref, keyOf, reduceCtorEq, and_self, Bool.and_self, decide_true, decide_false, List.append_assoc, List.length_append, Nat.add_assoc, at_new, at_newk, add_fz, add_rf, add_tt, ix_ref, seq_ref, list_ref, seq_tup, seq_fz, list_fz, ix_tup, ix_fz, neg_int, app_ref, set_newk, set_new0, iZ, iEn, sl_tup, sl_fz, eLcV, len_tup, len_ref, len_fz, tuple_fz, tuple_ref, ty_non, ty_bl, ty_int, ty_str, ty_tup, ty_fz])
local macro_rules | `(tactic| walk_at "fg") => `(tactic| try simp only [*, runB, cSeq, cNil, cRet, cRetN, cExpr, cIf, cSet, cAsg, cPar, cAug, cRaise, cStore, cPass, cWipe, wipeD, toS_ok, toS_exn, toS_stuck, Res.bd_ok, Res.bd_exn, Res.bd_stuck, Res.bdN_ok, Res.bdN_exn, Res.bdN_stuck,
  eVar, eC, eTup, eLst, eOp, eChain, eUn, eAnd, eOr, eNot, eIf, eRep, tTs, tAnd2, tOr2, tNot2, tTrue, eCall, eBi, eIsi, eMtL, eSl, oNo, oSo, lNil, lCons, iSeq, iRange1, iRange2, zAdd, zSub, zMul, zDiv, zMod, ofO, opInt, opIn, opNotIn, opEq, opNe, opIs, opIsnt, mk_t, mk_f,
  List.map_cons, List.map_nil, List.length_cons, List.length_nil, List.replicate, List.append_nil, List.nil_append, List.cons_append, List.getElem?_cons_zero, List.getElem?_cons_succ, List.getElem?_nil, List.set_cons_zero, List.set_cons_succ, List.set_nil, lm0, lm1, lm2, lm3, lm4, lm5, lm6, lm7, lm8, lm9, asg_nm, asg_tp, asgs_nil, asgs_cons, Option.bind_some, Option.bind_none, Option.map_some, Option.map_none,
  Nat.reduceSub, Nat.reduceAdd, Nat.zero_add, Nat.add_zero, Nat.sub_self, if_true, if_false, reduceIte, Bool.false_eq_true, Bool.true_eq_false, Bool.not_true, Bool.not_false, ix_tup, ix_fz, at0, at1, at2, eDNew, eDGet, eDGet2, eDIn, eDPop, cDPut, cAugS, cSub2, dic_ref, keyOf, reduceCtorEq, and_self, Bool.and_self, decide_true, decide_false, List.append_assoc, List.length_append, Nat.add_assoc, at_new, at_newk, add_fz, add_rf, add_tt, ix_ref, seq_ref, list_ref, seq_tup, seq_fz, list_fz, ix_tup, ix_fz, neg_int, app_ref, set_newk, set_new0, iZ, iEn, sl_tup, sl_fz, eLcV, len_tup, len_ref, len_fz, tuple_fz, tuple_ref, ty_non, ty_bl, ty_int, ty_str, ty_tup, ty_fz])
local macro_rules | `(tactic| walk_at "fs") => `(tactic| try simp [runB, cSeq, cNil, cRet, cRetN, cExpr, cIf, cSet, cAsg, cPar, cAug, cRaise, cStore, cPass, cWipe, wipeD, toS_ok, toS_exn, toS_stuck, Res.bd_ok, Res.bd_exn, Res.bd_stuck, Res.bdN_ok, Res.bdN_exn, Res.bdN_stuck,
  eVar, eC, eTup, eLst, eOp, eChain, eUn, eAnd, eOr, eNot, eIf, eRep, tTs, tAnd2, tOr2, tNot2, tTrue, eCall, eBi, eIsi, eMtL, eSl, oNo, oSo, lNil, lCons, iSeq, iRange1, iRange2, zAdd, zSub, zMul, zDiv, zMod, ofO, opInt, opIn, opNotIn, opEq, opNe, opIs, opIsnt, mk_t, mk_f,
  List.map_cons, List.map_nil, List.length_cons, List.length_nil, List.replicate, List.append_nil, List.nil_append, List.cons_append, List.getElem?_cons_zero, List.getElem?_cons_succ, List.getElem?_nil, List.set_cons_zero, List.set_cons_succ, List.set_nil, lm0, lm1, lm2, lm3, lm4, lm5, lm6, lm7, lm8, lm9, asg_nm, asg_tp, asgs_nil, asgs_cons, Option.bind_some, Option.bind_none, Option.map_some, Option.map_none,
  Nat.reduceSub, Nat.reduceAdd, Nat.zero_add, Nat.add_zero, Nat.sub_self, if_true, if_false, reduceIte, Bool.false_eq_true, Bool.true_eq_false, Bool.not_true, Bool.not_false, ix_tup, ix_fz, at0, at1, at2, eDNew, eDGet, eDGet2, eDIn, eDPop, cDPut, cAugS, cSub2, dic_ref, keyOf, reduceCtorEq, and_self, Bool.and_self, decide_true, decide_false, List.append_assoc, List.length_append, Nat.add_assoc, at_new, at_newk, add_fz, add_rf, add_tt, ix_ref, seq_ref, list_ref, seq_tup, seq_fz, list_fz, ix_tup, ix_fz, neg_int, app_ref, set_newk, set_new0, iZ, iEn, sl_tup, sl_fz, eLcV, len_tup, len_ref, len_fz, tuple_fz, tuple_ref, ty_non, ty_bl, ty_int, ty_str, ty_tup, ty_fz, isT, eqD_int, at0, at1])
local macro_rules | `(tactic| walk_at "fh") => `(tactic| try simp [*, runB, cSeq, cNil, cRet, cRetN, cExpr, cIf, cSet, cAsg, cPar, cAug, cRaise, cStore, cPass, cWipe, wipeD, toS_ok, toS_exn, toS_stuck, Res.bd_ok, Res.bd_exn, Res.bd_stuck, Res.bdN_ok, Res.bdN_exn, Res.bdN_stuck,
  eVar, eC, eTup, eLst, eOp, eChain, eUn, eAnd, eOr, eNot, eIf, eRep, tTs, tAnd2, tOr2, tNot2, tTrue, eCall, eBi, eIsi, eMtL, eSl, oNo, oSo, lNil, lCons, iSeq, iRange1, iRange2, zAdd, zSub, zMul, zDiv, zMod, ofO, opInt, opIn, opNotIn, opEq, opNe, opIs, opIsnt, mk_t, mk_f,
  List.map_cons, List.map_nil, List.length_cons, List.length_nil, List.replicate, List.append_nil, List.nil_append, List.cons_append, List.getElem?_cons_zero, List.getElem?_cons_succ, List.getElem?_nil, List.set_cons_zero, List.set_cons_succ, List.set_nil, lm0, lm1, lm2, lm3, lm4, lm5, lm6, lm7, lm8, lm9, asg_nm, asg_tp, asgs_nil, asgs_cons, Option.bind_some, Option.bind_none, Option.map_some, Option.map_none,
  Nat.reduceSub, Nat.reduceAdd, Nat.zero_add, Nat.add_zero, Nat.sub_self, if_true, if_false, reduceIte, Bool.false_eq_true, Bool.true_eq_false, Bool.not_true, Bool.not_false, ix_tup, ix_fz, at0, at1, at2, eDNew, eDGet, eDGet2, eDIn, eDPop, cDPut, cAugS, cSub2, dic_ref, keyOf, reduceCtorEq, and_self, Bool.and_self, decide_true, decide_false, List.append_assoc, List.length_append, Nat.add_assoc, at_new, at_newk, add_fz, add_rf, add_tt, ix_ref, seq_ref, list_ref, seq_tup, seq_fz, list_fz, ix_tup, ix_fz, neg_int, app_ref, set_newk, set_new0, iZ, iEn, sl_tup, sl_fz, eLcV, len_tup, len_ref, len_fz, tuple_fz, tuple_ref, ty_non, ty_bl, ty_int, ty_str, ty_tup, ty_fz, isT, eqD_int, at0, at1])
def okT (S : Sto) (d : Dv) : Bool := (tyD S d).isSome
theorem okT_some {S : Sto} {d : Dv} (h : okT S d = true) : ∃ t, tyD S d = some t := Option.isSome_iff_exists.mp h
def okN : Dv → Bool
  | .int i => decide (i.natAbs < 2 ^ 600)
  | _ => true
def okF (S : Sto) : Dv → Bool
  | .tup ds => ds.all fun d => okT S d && okN d
  | .ntp _ => false
  | d => okT S d
theorem okF_T {S : Sto} {d : Dv} (h : okF S d = true) : okT S d = true := by
  cases d with
  | tup ds => rfl
  | ntp ds => cases h
  | _ => exact h
def isFr : Dv → Option Rat
  | .tup [.int a, .int b] => if 0 < b ∧ Int.gcd a b = 1 then some ((a : Rat) / (b : Rat)) else none
  | _ => none
theorem isFr_eq {d : Dv} {q : Rat} (h : isFr d = some q) : d = fr q := by
  unfold isFr at h
  split at h
  · rename_i a b
    split at h
    · rename_i hc
      cases h
      have := quot_fr (a := a) hc.1
      rw [hc.2] at this
      simpa using this
    · cases h
  · cases h
theorem isFr_fr (q : Rat) : isFr (fr q) = some q := by
  have h1 : (0 : Int) < q.den := den_pos q
  have h2 : Int.gcd q.num q.den = 1 := by
    have := q.reduced
    simpa [Int.gcd, Nat.Coprime] using this
  simp only [isFr, fr]
  rw [if_pos ⟨h1, h2⟩]
  congr 1
  rw [num_den q]
  have := den_ne q
  grind
noncomputable def b_is_fraction : DS :=
 (cSeq (cIf (tOr2 (tNot2 (tTs (eIsi .tup (eVar 0)))) (tTs (eOp opNe (eBi fLen (lCons (eVar 0) lNil)) (eC (.int 2)))))
 (cSeq (cRet (eC (.bl false)))
 cNil)
 cNil)
 (cSeq (cIf (tOr2 (tNot2 (tTs (eCall 1 r_is_integer (lCons (eOp opIx (eVar 0) (eC (.int 0))) lNil)))) (tOr2 (tNot2 (tTs (eCall 1 r_is_integer (lCons (eOp opIx (eVar 0) (eC (.int 1))) lNil)))) (tTs (eOp opLt (eOp opIx (eVar 0) (eC (.int 1))) (eC (.int 1))))))
 (cSeq (cRet (eC (.bl false)))
 cNil)
 cNil)
 (cSeq (cRet (eOp opEq (eCall 2 r_greatest_divisor (lCons (eOp opIx (eVar 0) (eC (.int 0))) (lCons (eOp opIx (eVar 0) (eC (.int 1))) lNil))) (eC (.int 1))))
 cNil)))
noncomputable def r_is_fraction : Den := runF 1 b_is_fraction
theorem is_fraction_run {d : Dv} {S : Sto} (h : okF S d = true) : r_is_fraction [d] S = .ok (.bl (isFr d).isSome) S := by
  refine f_val0 rfl ?_ rfl
  have other : ∀ t, tyD S d = some t → isT t .tup = false → isFr d = none → b_is_fraction [some d] S = .ok (.rt (.bl (isFr d).isSome)) S := by
    intro t e1 e2 e3
    rw [e3]
    unfold b_is_fraction
    walk_at "fc"
    simp only [e1, e2]
    walk_at "fc"
    simp
  have e0 : ([d].map some ++ List.replicate (1 - 1) none : Ev) = [some d] := rfl
  cases d with
  | ntp ds => cases h
  | tup ds =>
    by_cases hl : ds.length = 2
    · match ds, hl with
      | [a, b], _ =>
        clear other
        simp only [okF, List.all_cons, List.all_nil, Bool.and_true, Bool.and_eq_true] at h
        obtain ⟨ta, ea⟩ := okT_some h.1.1
        obtain ⟨tb, eb⟩ := okT_some h.2.1
        unfold b_is_fraction
        walk_at "fs"
        walk_at "fc"
        rw [is_integer_run S ea]
        walk_at "fc"
        by_cases h1 : ta = .int
        · subst h1
          obtain ⟨i, rfl⟩ := tyD_int ea
          simp only [decide_true]
          walk_at "fc"
          rw [is_integer_run S eb]
          walk_at "fc"
          by_cases h2 : tb = .int
          · subst h2
            obtain ⟨j, rfl⟩ := tyD_int eb
            simp only [decide_true]
            walk_at "fc"
            by_cases h3 : j < 1
            · have h4 : ¬ (0 < j ∧ Int.gcd i j = 1) := by omega
              simp [h3, isFr, h4]
            · simp only [h3, decide_false]
              walk_at "fc"
              have hj : j.natAbs < 2 ^ 100000000 := Nat.lt_of_lt_of_le (by simpa [okN] using h.2.2) (Nat.pow_le_pow_right (by decide) (by decide))
              rw [greatest_divisor_run hj]
              walk_at "fc"
              simp only [eqD_int]
              walk_at "fc"
              have h5 : 0 < j := by omega
              by_cases h6 : Int.gcd i j = 1
              · simp [isFr, h5, h6]
              · have h7 : ¬ ((Int.gcd i j : Nat) : Int) = 1 := by omega
                simp [isFr, h5, h6, h7]
          · simp only [h2, decide_false]
            walk_at "fc"
            have : isFr (.tup [.int i, b]) = none := by
              cases b with
              | int j => cases eb; exact absurd rfl h2
              | _ => rfl
            simp [this]
        · simp only [h1, decide_false]
          walk_at "fc"
          have : isFr (.tup [a, b]) = none := by
            cases a with
            | int j => cases ea; exact absurd rfl h1
            | _ => rfl
          simp [this]
    · have e3 : isFr (.tup ds) = none := by
        unfold isFr
        split
        · rename_i a b heq
          cases heq
          exact absurd rfl hl
        · rfl
      rw [e3]
      unfold b_is_fraction
      walk_at "fs"
      have : ¬ ((ds.length : Nat) : Int) = 2 := by omega
      simp [this]
  | non => exact other .non rfl (by decide) rfl
  | bl b => exact other .bl rfl (by decide) rfl
  | int i => exact other .int rfl (by decide) rfl
  | str x => exact other .str rfl (by decide) rfl
  | dct kvs => exact other .dic rfl (by decide) rfl
  | fz x => exact other .lst rfl (by decide) rfl
  | obj c x => cases h
  | ref n =>
    obtain ⟨t, e⟩ := okT_some (okF_T h)
    refine other t e ?_ rfl
    simp only [tyD] at e
    split at e
    · cases e; decide
    · cases e; decide
    · cases e; decide
    · cases e
def lcmD (qs : List Rat) : Nat := qs.foldl (fun r q => Nat.lcm r q.den) 1
theorem lcm_eq (a : Nat) (b : Nat) : ((a : Int) * (b : Int)) / ((Int.gcd a b : Nat) : Int) = ((Nat.lcm a b : Nat) : Int) := by
  rw [← Int.natCast_mul]
  rfl
theorem lcm_bd {qs : List Rat} {k : Nat} (h : ∀ q ∈ qs, q.den < 2 ^ k) : ∀ (r m : Nat), r < 2 ^ m → qs.foldl (fun r q => Nat.lcm r q.den) r < 2 ^ (m + k * qs.length) := by
  induction qs with
  | nil => intro r m hr; simpa using hr
  | cons q qs ih =>
    intro r m hr
    have hq := h q (by simp)
    have h1 : Nat.lcm r q.den < 2 ^ (m + k) := by
      have : Nat.lcm r q.den ≤ r * q.den := by
        by_cases h0 : r * q.den = 0
        · rcases Nat.mul_eq_zero.mp h0 with z | z
          · simp [z]
          · exact absurd z q.den_nz
        · exact Nat.le_of_dvd (by omega) (Nat.lcm_dvd_mul r q.den)
      rw [Nat.pow_add]
      exact Nat.lt_of_le_of_lt this (Nat.mul_lt_mul'' hr hq)
    have := ih (fun p hp => h p (by simp [hp])) _ _ h1
    rw [List.foldl_cons, List.length_cons, Nat.mul_succ]
    exact Nat.lt_of_lt_of_le this (Nat.pow_le_pow_right (by decide) (by omega))
noncomputable def b_common_bottom_L1 : DS :=
 (cSeq (cSet 1 (eOp opDiv (eOp (opMul false) (eVar 1) (eVar 3)) (eCall 2 r_greatest_divisor (lCons (eVar 1) (lCons (eVar 3) lNil)))))
 (cWipe [2, 3]))
noncomputable def b_common_bottom : DS :=
 (cSeq (cSet 1 (eC (.int 1)))
 (cSeq (cFor (iSeq (eVar 0)) (.tp [(.nm 2), (.nm 3)]) b_common_bottom_L1)
 (cSeq (cRet (eVar 1))
 cNil)))
noncomputable def r_common_bottom : Den := runF 4 b_common_bottom
theorem common_bottom_run {qs : List Rat} {d : Dv} {S : Sto} (hd : seqOf S d = some (qs.map fr)) (hl : qs.length ≤ 1000) (hs : ∀ q ∈ qs, q.den < 2 ^ 4000) : r_common_bottom [d] S = .ok (.int (lcmD qs : Nat)) S := by
  refine f_val0 rfl ?_ rfl
  unfold b_common_bottom
  refine seq_go (set_go (d := .int 1) rfl) (seq_go (for_go (it := itSeq d) (S1 := S) ?_ ((for_pure qs fr (fun t : Nat => [some d, some (.int (t : Nat)), none, none]) (fun t q => Nat.lcm t q.den) (fun pre t => t < 2 ^ (1 + 4000 * pre.length) ∧ 0 < t) 1 (goes_seq hd) (Nat.le_trans hl (by decide)) ⟨by simp, by decide⟩ ?_).1)) (seq_rt (ret_go rfl)))
  · walk_at "fc"
    rw [hd]
  · intro pre q post t e ht
    have hq := hs q (by rw [e]; simp)
    have hpre : pre.length ≤ 1000 := by
      have := congrArg List.length e
      simp at this
      omega
    have h1 : Nat.lcm t q.den < 2 ^ (1 + 4000 * pre.length + 4000) := by
      have : Nat.lcm t q.den ≤ t * q.den := Nat.le_of_dvd (Nat.mul_pos ht.2 q.den_pos) (Nat.lcm_dvd_mul t q.den)
      rw [Nat.pow_add]
      exact Nat.lt_of_le_of_lt this (Nat.mul_lt_mul'' ht.1 hq)
    refine ⟨⟨?_, Nat.lcm_pos ht.2 q.den_pos⟩, _, rfl, ?_⟩
    · rw [List.length_append]
      exact Nat.lt_of_lt_of_le h1 (Nat.pow_le_pow_right (by decide) (by simp only [List.length_cons, List.length_nil]; omega))
    · unfold b_common_bottom_L1
      have hm : mulOk ((t : Nat) : Int) ((q.den : Nat) : Int) = true := mulOk_of (a := 1 + 4000 * pre.length) (b := 4000) (by rw [Int.natAbs_natCast]; exact ht.1) (by rw [Int.natAbs_natCast]; exact hq) (by omega) (by decide) (by omega)
      have hg : 0 < Int.gcd ((t : Nat) : Int) ((q.den : Nat) : Int) := Int.gcd_pos_of_ne_zero_right _ (by have := q.den_pos; omega)
      have hd2 : divOk (Int.gcd ((t : Nat) : Int) ((q.den : Nat) : Int) : Nat) = true := by
        refine divOk_of (a := 4000) (by omega) ?_ (by decide) (by decide)
        rw [Int.natAbs_natCast]
        have : Int.gcd ((t : Nat) : Int) ((q.den : Nat) : Int) ≤ q.den := by
          have := Nat.gcd_le_right t q.den_pos
          simpa [Int.gcd] using this
        omega
      walk_at "fc"
      rw [zMul hm]
      walk_at "fc"
      rw [greatest_divisor_run (by rw [Int.natAbs_natCast]; exact Nat.lt_of_lt_of_le hq (Nat.pow_le_pow_right (by decide) (by decide)))]
      walk_at "fc"
      rw [zDiv hd2]
      walk_at "fc"
      rw [lcm_eq]
structure Chances (qs : List Rat) : Prop where
  many : 1 ≤ qs.length ∧ qs.length ≤ 6
  nn : ∀ q ∈ qs, 0 ≤ q
  one : sumR qs = 1
  bot : lcmD qs ≤ 30
def chs (qs : List Rat) : Dv := .tup (qs.map fr)
def unFrs : List Dv → Option (List Rat)
  | [] => some []
  | d :: ds => match isFr d, unFrs ds with
    | some q, some qs => some (q :: qs)
    | _, _ => none
theorem unFrs_eq : ∀ {ds : List Dv} {qs : List Rat}, unFrs ds = some qs → ds = qs.map fr
  | [], _, h => by cases h; rfl
  | d :: ds, _, h => by
    simp only [unFrs] at h
    split at h
    · rename_i q qs e1 e2
      cases h
      rw [isFr_eq e1, unFrs_eq e2]
      rfl
    · cases h
theorem unFrs_map (qs : List Rat) : unFrs (qs.map fr) = some qs := by
  induction qs with
  | nil => rfl
  | cons q qs ih => simp [unFrs, isFr_fr, ih]
noncomputable instance : DecidablePred Chances := fun _ => Classical.propDecidable _
noncomputable def isCh : Dv → Bool
  | .tup ds => match unFrs ds with
    | some qs => decide (Chances qs)
    | none => false
  | _ => false
theorem isCh_eq {d : Dv} (h : isCh d = true) : ∃ qs, d = chs qs ∧ Chances qs := by
  unfold isCh at h
  split at h
  · split at h
    · rename_i ds qs e
      exact ⟨qs, by rw [unFrs_eq e]; rfl, of_decide_eq_true h⟩
    · cases h
  · cases h
def okC (S : Sto) : Dv → Bool
  | .tup ds => ds.all (okF S)
  | .ntp _ => false
  | d => okT S d
noncomputable def goodF (d : Dv) : Bool := match isFr d with
  | some q => decide (0 ≤ q)
  | none => false
theorem sum_bd {qs : List Rat} {k : Nat} (h : ∀ q ∈ qs, Bd k q) : Bd ((k + 1) * qs.length + 1) (sumR qs) := by
  induction qs with
  | nil => exact Bd.mono (k := 1) ⟨by decide, by decide⟩ (by omega)
  | cons q qs ih =>
    rw [sumR_cons]
    have := (h q (by simp)).add (ih fun p hp => h p (by simp [hp]))
    refine this.mono ?_
    rw [List.length_cons, Nat.mul_succ]
    omega
noncomputable def b_is_chances : DS :=
 (cSeq (cIf (tOr2 (tNot2 (tTs (eIsi .tup (eVar 0)))) (tNot2 (tTs (eChain opLe opLe (eC (.int 1)) (eBi fLen (lCons (eVar 0) lNil)) (eC (.int 6))))))
 (cSeq (cRet (eC (.bl false)))
 cNil)
 cNil)
 (cSeq (cIf (tNot2 (tTs (eBi fAll (lCons (eLcV (iSeq (eVar 0)) (.nm 1) tTrue (eAnd (eCall 1 r_is_fraction (lCons (eVar 1) lNil)) (eOp opGe (eOp opIx (eVar 1) (eC (.int 0))) (eC (.int 0)))) [1]) lNil))))
 (cSeq (cRet (eC (.bl false)))
 cNil)
 cNil)
 (cSeq (cRet (eAnd (eOp opEq (eCall 1 r_added (lCons (eVar 0) lNil)) (eC (.tup [.int 1, .int 1]))) (eOp opLe (eCall 1 r_common_bottom (lCons (eVar 0) lNil)) (eC (.int 30)))))
 cNil)))
noncomputable def r_is_chances : Den := runF 2 b_is_chances
theorem is_chances_elt {S : Sto} {x : Dv} (h : okF S x = true) {ρ : Ev} (h1 : ρ[1]? = some (some x)) :
    eAnd (eCall 1 r_is_fraction (lCons (eVar 1) lNil)) (eOp opGe (eOp opIx (eVar 1) (eC (.int 0))) (eC (.int 0))) ρ S = .ok (.bl (goodF x)) S := by
  walk_at "fc"
  rw [h1]
  walk_at "fc"
  rw [is_fraction_run h]
  walk_at "fc"
  cases e : isFr x with
  | none => simp [goodF, e]
  | some q =>
    have ex := isFr_eq e
    have e0 : opIx (fr q) (.int 0) S = some (.int q.num, S) := by simp only [fr, opIx, seqOf, at0]
    simp only [Option.isSome_some]
    subst ex
    walk_at "fc"
    rw [e0]
    walk_at "fc"
    simp only [goodF, e]
    congr 2
    rw [decide_eq_decide]
    exact Rat.num_nonneg
theorem eqD_fr (p q : Rat) (S : Sto) : eqD (fr p) (fr q) S = some (decide (p = q)) := by
  have e1 : SeqAt.shaped (.tuple [.int p.num, .int p.den]) = true := rfl
  have e2 : SeqAt.shaped (.tuple [.int q.num, .int q.den]) = true := rfl
  have e : eqD (fr p) (fr q) S = some (PyData.eqv (.tuple [.int p.num, .int p.den]) (.tuple [.int q.num, .int q.den])) := rfl
  rw [e]
  congr 1
  by_cases h : p = q
  · subst h
    simp [PyData.eqv, PyData.eqvAll]
  · rw [decide_eq_false h]
    have : ¬ (p.num = q.num ∧ p.den = q.den) := fun z => h (Rat.ext z.1 z.2)
    simp only [PyData.eqv, PyData.eqvAll]
    by_cases h1 : p.num = q.num
    · have h2 : ¬ ((p.den : Int) = (q.den : Int)) := fun z => this ⟨h1, by omega⟩
      simp [h1, h2]
      try omega
    · simp [h1]
end Fc
set_option exponentiation.threshold 256
set_option maxHeartbeats 4000000
set_option maxHeartbeats 4000000
namespace Fc
open PySem L2
local macro_rules | `(tactic| walk_at "fc") => `(tactic| try simp only [runB, cSeq, cNil, cRet, cRetN, cExpr, cIf, cSet, cAsg, cPar, cAug, cRaise, cStore, cPass, cWipe, wipeD, toS_ok, toS_exn, toS_stuck, Res.bd_ok, Res.bd_exn, Res.bd_stuck, Res.bdN_ok, Res.bdN_exn, Res.bdN_stuck,
  eVar, eC, eTup, eLst, eOp, eChain, eUn, eAnd, eOr, eNot, eIf, eRep, tTs, tAnd2, tOr2, tNot2, tTrue, eCall, eBi, eIsi, eMtL, eSl, oNo, oSo, lNil, lCons, iSeq, iRange1, iRange2, zAdd, zSub, zMul, zDiv, zMod, ofO, opInt, opIn, opNotIn, opEq, opNe, opIs, opIsnt, mk_t, mk_f,
  List.map_cons, List.map_nil, List.length_cons, List.length_nil, List.replicate, List.append_nil, List.nil_append, List.cons_append, List.getElem?_cons_zero, List.getElem?_cons_succ, List.getElem?_nil, List.set_cons_zero, List.set_cons_succ, List.set_nil, lm0, lm1, lm2, lm3, lm4, lm5, lm6, lm7, lm8, lm9, asg_nm, asg_tp, asgs_nil, asgs_cons, Option.bind_some, Option.bind_none, Option.map_some, Option.map_none,
  Nat.reduceSub, Nat.reduceAdd, Nat.zero_add, Nat.add_zero, Nat.sub_self, if_true, if_false, reduceIte, Bool.false_eq_true, Bool.true_eq_false, Bool.not_true, Bool.not_false, ix_tup, ix_fz, at0, at1, at2, eDNew, eDGet, eDGet2, eDIn, eDPop, cDPut, cAugS, cSub2, dic_ref, keyOf, reduceCtorEq])
local macro_rules | `(tactic| walk_at "fo") => `(tactic| try simp only [*, runB, cSeq, cNil, cRet, cRetN, cExpr, cIf, cSet, cAsg, cPar, cAug, cRaise, cStore, cPass, cWipe, wipeD, toS_ok, toS_exn, toS_stuck, Res.bd_ok, Res.bd_exn, Res.bd_stuck, Res.bdN_ok, Res.bdN_exn, Res.bdN_stuck,
  eVar, eC, eTup, eLst, eOp, eChain, eUn, eAnd, eOr, eNot, eIf, eRep, tTs, tAnd2, tOr2, tNot2, tTrue, eCall, eBi, eIsi, eMtL, eSl, oNo, oSo, lNil, lCons, iSeq, iRange1, iRange2, zAdd, zSub, zMul, zDiv, zMod, ofO, opInt, opIn, opNotIn, opEq, opNe, opIs, opIsnt, mk_t, mk_f,
  List.map_cons, List.map_nil, List.length_cons, List.length_nil, List.replicate, List.append_nil, List.nil_append, List.cons_append, List.getElem?_cons_zero, List.getElem?_cons_succ, List.getElem?_nil, List.set_cons_zero, List.set_cons_succ, List.set_nil, lm0, lm1, lm2, lm3, lm4, lm5, lm6, lm7, lm8, lm9, asg_nm, asg_tp, asgs_nil, asgs_cons, Option.bind_some, Option.bind_none, Option.map_some, Option.map_none,
  Nat.reduceSub, Nat.reduceAdd, Nat.zero_add, Nat.add_zero, Nat.sub_self, if_true, if_false, reduceIte, Bool.false_eq_true, Bool.true_eq_false, Bool.not_true, Bool.not_false, ix_tup, ix_fz, at0, at1, at2, eDNew, eDGet, eDGet2, eDIn, eDPop, cDPut, cAugS, cSub2, dic_ref, keyOf, reduceCtorEq, and_self, Bool.and_self, decide_true, decide_false, List.append_assoc, List.length_append, Nat.add_assoc, at_new, at_newk, add_fz, add_rf, add_tt, ix_ref, seq_ref, list_ref, seq_tup, seq_fz, list_fz, ix_tup, ix_fz, neg_int, app_ref, set_newk, set_new0, iZ, iEn, sl_tup, sl_fz, eLcV, len_tup, len_ref, len_fz, tuple_fz, tuple_ref, ty_non, ty_bl, ty_int, ty_str, ty_tup, ty_fz])
local macro_rules | `(tactic| walk_at "fg") => `(tactic| try simp only [*, runB, cSeq, cNil, cRet, cRetN, cExpr, cIf, cSet, cAsg, cPar, cAug, cRaise, cStore, cPass, cWipe, wipeD, toS_ok, toS_exn, toS_stuck, Res.bd_ok, Res.bd_exn, Res.bd_stuck, Res.bdN_ok, Res.bdN_exn, Res.bdN_stuck,
  eVar, eC, eTup, eLst, eOp, eChain, eUn, eAnd, eOr, eNot, eIf, eRep, tTs, tAnd2, tOr2, tNot2, tTrue, eCall, eBi, eIsi, eMtL, eSl, oNo, oSo, lNil, lCons, iSeq, iRange1, iRange2, zAdd, zSub, zMul, zDiv, zMod, ofO, opInt, opIn, opNotIn, opEq, opNe, opIs, opIsnt, mk_t, mk_f,
  List.map_cons, List.map_nil, List.length_cons, List.length_nil, List.replicate, List.append_nil, List.nil_append, List.cons_append, List.getElem?_cons_zero, List.getElem?_cons_succ, List.getElem?_nil, List.set_cons_zero, List.set_cons_succ, List.set_nil, lm0, lm1, lm2, lm3, lm4, lm5, lm6, lm7, lm8, lm9, asg_nm, asg_tp, asgs_nil, asgs_cons, Option.bind_some, Option.bind_none, Option.map_some, Option.map_none,
  Nat.reduceSub, Nat.reduceAdd, Nat.zero_add, Nat.add_zero, Nat.sub_self, if_true, if_false, reduceIte, Bool.false_eq_true, Bool.true_eq_false, Bool.not_true, Bool.not_false, ix_tup, ix_fz, at0, at1, at2, eDNew, eDGet, eDGet2, eDIn, eDPop, cDPut, cAugS, cSub2, dic_ref, keyOf, reduceCtorEq, and_self, Bool.and_self, decide_true, decide_false, List.append_assoc, List.length_append, Nat.add_assoc, at_new, at_newk, add_fz, add_rf, add_tt, ix_ref, seq_ref, list_ref, seq_tup, seq_fz, list_fz, ix_tup, ix_fz, neg_int, app_ref, set_newk, set_new0, iZ, iEn, sl_tup, sl_fz, eLcV, len_tup, len_ref, len_fz, tuple_fz, tuple_ref, ty_non, ty_bl, ty_int, ty_str, ty_tup, ty_fz])
local macro_rules | `(tactic| walk_at "fs") => `(tactic| try simp [runB, cSeq, cNil, cRet, cRetN, cExpr, cIf, cSet, cAsg, cPar, cAug, cRaise, cStore, cPass, cWipe, wipeD, toS_ok, toS_exn, toS_stuck, Res.bd_ok, Res.bd_exn, Res.bd_stuck, Res.bdN_ok, Res.bdN_exn, Res.bdN_stuck,
  eVar, eC, eTup, eLst, eOp, eChain, eUn, eAnd, eOr, eNot, eIf, eRep, tTs, tAnd2, tOr2, tNot2, tTrue, eCall, eBi, eIsi, eMtL, eSl, oNo, oSo, lNil, lCons, iSeq, iRange1, iRange2, zAdd, zSub, zMul, zDiv, zMod, ofO, opInt, opIn, opNotIn, opEq, opNe, opIs, opIsnt, mk_t, mk_f,
  List.map_cons, List.map_nil, List.length_cons, List.length_nil, List.replicate, List.append_nil, List.nil_append, List.cons_append, List.getElem?_cons_zero, List.getElem?_cons_succ, List.getElem?_nil, List.set_cons_zero, List.set_cons_succ, List.set_nil, lm0, lm1, lm2, lm3, lm4, lm5, lm6, lm7, lm8, lm9, asg_nm, asg_tp, asgs_nil, asgs_cons, Option.bind_some, Option.bind_none, Option.map_some, Option.map_none,
  Nat.reduceSub, Nat.reduceAdd, Nat.zero_add, Nat.add_zero, Nat.sub_self, if_true, if_false, reduceIte, Bool.false_eq_true, Bool.true_eq_false, Bool.not_true, Bool.not_false, ix_tup, ix_fz, at0, at1, at2, eDNew, eDGet, eDGet2, eDIn, eDPop, cDPut, cAugS, cSub2, dic_ref, keyOf, reduceCtorEq, and_self, Bool.and_self, decide_true, decide_false, List.append_assoc, List.length_append, Nat.add_assoc, at_new, at_newk, add_fz, add_rf, add_tt, ix_ref, seq_ref, list_ref, seq_tup, seq_fz, list_fz, ix_tup, ix_fz, neg_int, app_ref, set_newk, set_new0, iZ, iEn, sl_tup, sl_fz, eLcV, len_tup, len_ref, len_fz, tuple_fz, tuple_ref, ty_non, ty_bl, ty_int, ty_str, ty_tup, ty_fz, isT, eqD_int, at0, at1])
local macro_rules | `(tactic| walk_at "fh") => `(tactic| try simp [*, runB, cSeq, cNil, cRet, cRetN, cExpr, cIf, cSet, cAsg, cPar, cAug, cRaise, cStore, cPass, cWipe, wipeD, toS_ok, toS_exn, toS_stuck, Res.bd_ok, Res.bd_exn, Res.bd_stuck, Res.bdN_ok, Res.bdN_exn, Res.bdN_stuck,
  eVar, eC, eTup, eLst, eOp, eChain, eUn, eAnd, eOr, eNot, eIf, eRep, tTs, tAnd2, tOr2, tNot2, tTrue, eCall, eBi, eIsi, eMtL, eSl, oNo, oSo, lNil, lCons, iSeq, iRange1, iRange2, zAdd, zSub, zMul, zDiv, zMod, ofO, opInt, opIn, opNotIn, opEq, opNe, opIs, opIsnt, mk_t, mk_f,
  List.map_cons, List.map_nil, List.length_cons, List.length_nil, List.replicate, List.append_nil, List.nil_append, List.cons_append, List.getElem?_cons_zero, List.getElem?_cons_succ, List.getElem?_nil, List.set_cons_zero, List.set_cons_succ, List.set_nil, lm0, lm1, lm2, lm3, lm4, lm5, lm6, lm7, lm8, lm9, asg_nm, asg_tp, asgs_nil, asgs_cons, Option.bind_some, Option.bind_none, Option.map_some, Option.map_none,
  Nat.reduceSub, Nat.reduceAdd, Nat.zero_add, Nat.add_zero, Nat.sub_self, if_true, if_false, reduceIte, Bool.false_eq_true, Bool.true_eq_false, Bool.not_true, Bool.not_false, ix_tup, ix_fz, at0, at1, at2, eDNew, eDGet, eDGet2, eDIn, eDPop, cDPut, cAugS, cSub2, dic_ref, keyOf, reduceCtorEq, and_self, Bool.and_self, decide_true, decide_false, List.append_assoc, List.length_append, Nat.add_assoc, at_new, at_newk, add_fz, add_rf, add_tt, ix_ref, seq_ref, list_ref, seq_tup, seq_fz, list_fz, ix_tup, ix_fz, neg_int, app_ref, set_newk, set_new0, iZ, iEn, sl_tup, sl_fz, eLcV, len_tup, len_ref, len_fz, tuple_fz, tuple_ref, ty_non, ty_bl, ty_int, ty_str, ty_tup, ty_fz, isT, eqD_int, at0, at1])
theorem goes_self {S : Sto} (ds : List Dv) : Goes (itSeq (.tup ds)) S ds fun x => x := goes_seq (by simp [seqOf])
theorem goes_selfL {S : Sto} (ds : List Dv) : Goes (itSeq (.fz ds)) S ds fun x => x := goes_seq (by simp [seqOf, listOf])
theorem all_fz {α : Type} (xs : List α) (c : α → Bool) (S : Sto) : fAll [.fz (xs.map fun x => .bl (c x))] S = some (.bl (xs.all c), S) := by
  have e : blsOf (xs.map fun x => Dv.bl (c x)) = some (xs.map c) := by
    induction xs with
    | nil => rfl
    | cons x xs ih => simp [blsOf, ih]
  simp only [fAll, listOf, e]
  simp [List.all_map]
theorem unFrs_all : ∀ (ds : List Dv), (∀ d ∈ ds, (isFr d).isSome = true) → ∃ qs : List Rat, ds = qs.map fr
  | [], _ => ⟨[], rfl⟩
  | d :: ds, h => by
    obtain ⟨q, hq⟩ := Option.isSome_iff_exists.mp (h d (by simp))
    obtain ⟨qs, e⟩ := unFrs_all ds fun x hx => h x (by simp [hx])
    exact ⟨q :: qs, by rw [isFr_eq hq, e]; rfl⟩
theorem okF_bd {S : Sto} {q : Rat} (h : okF S (fr q) = true) : Bd 600 q := by
  simp only [okF, fr, List.all_cons, List.all_nil, Bool.and_true, Bool.and_eq_true, okN, decide_eq_true_eq] at h
  refine ⟨h.1.2, ?_⟩
  have := h.2.2
  rwa [Int.natAbs_natCast] at this
theorem is_chances_run {d : Dv} {S : Sto} (h : okC S d = true) : r_is_chances [d] S = .ok (.bl (isCh d)) S := by
  refine f_val0 rfl ?_ rfl
  have other : ∀ t, tyD S d = some t → isT t .tup = false → isCh d = false → b_is_chances ([d].map some ++ List.replicate (2 - [d].length) none) S = .ok (.rt (.bl (isCh d))) S := by
    intro t e1 e2 e3
    rw [e3]
    unfold b_is_chances
    walk_at "fc"
    simp only [e1, e2]
    walk_at "fc"
  cases d with
  | ntp ds => cases h
  | tup es =>
    clear other
    simp only [okC, List.all_eq_true] at h
    unfold b_is_chances
    by_cases hl : 1 ≤ es.length ∧ es.length ≤ 6
    · have hl1 : (1 : Int) ≤ (es.length : Int) := by omega
      have hl2 : (es.length : Int) ≤ 6 := by omega
      have lc : lcV (itSeq (.tup es)) (.nm 1) tTrue (eAnd (eCall 1 r_is_fraction (lCons (eVar 1) lNil)) (eOp opGe (eOp opIx (eVar 1) (eC (.int 0))) (eC (.int 0)))) [some (.tup es), none] big 0 [] S = .ok (.fz (es.map fun x => .bl (goodF x))) S :=
        lcV_map es (fun x => x) (fun x => .bl (goodF x)) (goes_self es) (Nat.le_trans hl.2 (by decide)) fun x hx => ⟨_, rfl, is_chances_elt (h x hx) rfl⟩
      walk_at "fs"
      simp [hl1, hl2]
      walk_at "fg"
      rw [all_fz]
      walk_at "fc"
      cases hA : es.all goodF with
      | false =>
        have e3 : isCh (.tup es) = false := by
          cases e : isCh (.tup es) with
          | false => rfl
          | true =>
            obtain ⟨qs, e1, e2⟩ := isCh_eq e
            cases e1
            have : (qs.map fr).all goodF = true := by
              simp only [List.all_map, List.all_eq_true, Function.comp_apply]
              intro q hq
              simp [goodF, isFr_fr, e2.nn q hq]
            rw [this] at hA
            cases hA
        rw [e3]
        walk_at "fc"
      | true =>
        have hg := List.all_eq_true.mp hA
        obtain ⟨qs, rfl⟩ := unFrs_all es fun d hd => by
          have := hg d hd
          unfold goodF at this
          cases e : isFr d with
          | none => rw [e] at this; cases this
          | some q => rfl
        have nn : ∀ q ∈ qs, 0 ≤ q := fun q hq => by
          have := hg (fr q) (List.mem_map_of_mem hq)
          simpa [goodF, isFr_fr] using this
        have bd : ∀ q ∈ qs, Bd 600 q := fun q hq => okF_bd (h (fr q) (List.mem_map_of_mem hq))
        rw [List.length_map] at hl
        have lcl : qs.length ≤ lim := Nat.le_trans hl.2 (by decide)
        have sm : ∀ pre post, qs = pre ++ post → Sm (sumR pre) := fun pre post e => by
          have hpl : pre.length ≤ 6 := by
            have := congrArg List.length e
            simp at this
            omega
          exact (sum_bd (k := 600) fun q hq => bd q (by rw [e]; simp [hq])).sm (by omega)
        walk_at "fc"
        rw [added_run (qs := qs) rfl lcl sm fun q hq => (bd q hq).sm (by decide)]
        walk_at "fc"
        rw [fr_one, eqD_fr]
        walk_at "fc"
        have hb : lcmD qs < 2 ^ (1 + 600 * qs.length) := lcm_bd (fun q hq => (bd q hq).2) 1 1 (by decide)
        by_cases h1 : sumR qs = 1
        · rw [decide_eq_true h1]
          walk_at "fc"
          rw [common_bottom_run (qs := qs) rfl (by omega) fun q hq => Nat.lt_of_lt_of_le (bd q hq).2 (Nat.pow_le_pow_right (by decide) (by decide))]
          walk_at "fc"
          congr 3
          simp only [isCh, unFrs_map]
          rw [decide_eq_decide]
          constructor
          · intro z
            exact ⟨hl, nn, h1, by omega⟩
          · intro z
            have := z.bot
            omega
        · rw [decide_eq_false h1]
          walk_at "fc"
          congr 3
          simp only [isCh, unFrs_map]
          symm
          exact decide_eq_false fun z => h1 z.one
    · have e3 : isCh (.tup es) = false := by
        cases e : isCh (.tup es) with
        | false => rfl
        | true =>
          obtain ⟨qs, e1, e2⟩ := isCh_eq e
          cases e1
          exact absurd (by simpa using e2.many) hl
      rw [e3]
      walk_at "fs"
      by_cases h1 : 1 ≤ es.length
      · have h2 : ¬ ((es.length : Int) ≤ 6) := by omega
        have h3 : (1 : Int) ≤ es.length := by omega
        simp [h2, h3]
      · have h3 : ¬ (1 : Int) ≤ es.length := by omega
        simp [h3]
  | non => exact other .non rfl (by decide) rfl
  | bl b => exact other .bl rfl (by decide) rfl
  | int i => exact other .int rfl (by decide) rfl
  | str x => exact other .str rfl (by decide) rfl
  | dct kvs => exact other .dic rfl (by decide) rfl
  | fz x => exact other .lst rfl (by decide) rfl
  | obj c x => cases h
  | ref n =>
    obtain ⟨t, e⟩ := okT_some (d := .ref n) h
    refine other t e ?_ rfl
    simp only [tyD] at e
    split at e
    · cases e; decide
    · cases e; decide
    · cases e; decide
    · cases e
end Fc
set_option exponentiation.threshold 256
set_option maxHeartbeats 4000000
set_option maxHeartbeats 4000000
namespace Fc
open PySem L2
local macro_rules | `(tactic| walk_at "fc") => `(tactic| try simp only [runB, cSeq, cNil, cRet, cRetN, cExpr, cIf, cSet, cAsg, cPar, cAug, cRaise, cStore, cPass, cWipe, wipeD, toS_ok, toS_exn, toS_stuck, Res.bd_ok, Res.bd_exn, Res.bd_stuck, Res.bdN_ok, Res.bdN_exn, Res.bdN_stuck,
  eVar, eC, eTup, eLst, eOp, eChain, eUn, eAnd, eOr, eNot, eIf, eRep, tTs, tAnd2, tOr2, tNot2, tTrue, eCall, eBi, eIsi, eMtL, eSl, oNo, oSo, lNil, lCons, iSeq, iRange1, iRange2, zAdd, zSub, zMul, zDiv, zMod, ofO, opInt, opIn, opNotIn, opEq, opNe, opIs, opIsnt, mk_t, mk_f,
  List.map_cons, List.map_nil, List.length_cons, List.length_nil, List.replicate, List.append_nil, List.nil_append, List.cons_append, List.getElem?_cons_zero, List.getElem?_cons_succ, List.getElem?_nil, List.set_cons_zero, List.set_cons_succ, List.set_nil, lm0, lm1, lm2, lm3, lm4, lm5, lm6, lm7, lm8, lm9, asg_nm, asg_tp, asgs_nil, asgs_cons, Option.bind_some, Option.bind_none, Option.map_some, Option.map_none,
  Nat.reduceSub, Nat.reduceAdd, Nat.zero_add, Nat.add_zero, Nat.sub_self, if_true, if_false, reduceIte, Bool.false_eq_true, Bool.true_eq_false, Bool.not_true, Bool.not_false, ix_tup, ix_fz, at0, at1, at2, eDNew, eDGet, eDGet2, eDIn, eDPop, cDPut, cAugS, cSub2, dic_ref, keyOf, reduceCtorEq])
local macro_rules | `(tactic| walk_at "fo") => `(tactic| try simp only [*, runB, cSeq, cNil, cRet, cRetN, cExpr, cIf, cSet, cAsg, cPar, cAug, cRaise, cStore, cPass, cWipe, wipeD, toS_ok, toS_exn, toS_stuck, Res.bd_ok, Res.bd_exn, Res.bd_stuck, Res.bdN_ok, Res.bdN_exn, Res.bdN_stuck,
  eVar, eC, eTup, eLst, eOp, eChain, eUn, eAnd, eOr, eNot, eIf, eRep, tTs, tAnd2, tOr2, tNot2, tTrue, eCall, eBi, eIsi, eMtL, eSl, oNo, oSo, lNil, lCons, iSeq, iRange1, iRange2, zAdd, zSub, zMul, zDiv, zMod, ofO, opInt, opIn, opNotIn, opEq, opNe, opIs, opIsnt, mk_t, mk_f,
  List.map_cons, List.map_nil, List.length_cons, List.length_nil, List.replicate, List.append_nil, List.nil_append, List.cons_append, List.getElem?_cons_zero, List.getElem?_cons_succ, List.getElem?_nil, List.set_cons_zero, List.set_cons_succ, List.set_nil, lm0, lm1, lm2, lm3, lm4, lm5, lm6, lm7, lm8, lm9, asg_nm, asg_tp, asgs_nil, asgs_cons, Option.bind_some, Option.bind_none, Option.map_some, Option.map_none,
  Nat.reduceSub, Nat.reduceAdd, Nat.zero_add, Nat.add_zero, Nat.sub_self, if_true, if_false, reduceIte, Bool.false_eq_true, Bool.true_eq_false, Bool.not_true, Bool.not_false, ix_tup, ix_fz, at0, at1, at2, eDNew, eDGet, eDGet2, eDIn, eDPop, cDPut, cAugS, cSub2, dic_ref, keyOf, reduceCtorEq, and_self, Bool.and_self, decide_true, decide_false, List.append_assoc, List.length_append, Nat.add_assoc, at_new, at_newk, add_fz, add_rf, add_tt, ix_ref, seq_ref, list_ref, seq_tup, seq_fz, list_fz, ix_tup, ix_fz, neg_int, app_ref, set_newk, set_new0, iZ, iEn, sl_tup, sl_fz, eLcV, len_tup, len_ref, len_fz, tuple_fz, tuple_ref, ty_non, ty_bl, ty_int, ty_str, ty_tup, ty_fz])
local macro_rules | `(tactic| walk_at "fg") => `(tactic| try simp only [*, runB, cSeq, cNil, cRet, cRetN, cExpr, cIf, cSet, cAsg, cPar, cAug, cRaise, cStore, cPass, cWipe, wipeD, toS_ok, toS_exn, toS_stuck, Res.bd_ok, Res.bd_exn, Res.bd_stuck, Res.bdN_ok, Res.bdN_exn, Res.bdN_stuck,
  eVar, eC, eTup, eLst, eOp, eChain, eUn, eAnd, eOr, eNot, eIf, eRep, tTs, tAnd2, tOr2, tNot2, tTrue, eCall, eBi, eIsi, eMtL, eSl, oNo, oSo, lNil, lCons, iSeq, iRange1, iRange2, zAdd, zSub, zMul, zDiv, zMod, ofO, opInt, opIn, opNotIn, opEq, opNe, opIs, opIsnt, mk_t, mk_f,
  List.map_cons, List.map_nil, List.length_cons, List.length_nil, List.replicate, List.append_nil, List.nil_append, List.cons_append, List.getElem?_cons_zero, List.getElem?_cons_succ, List.getElem?_nil, List.set_cons_zero, List.set_cons_succ, List.set_nil, lm0, lm1, lm2, lm3, lm4, lm5, lm6, lm7, lm8, lm9, asg_nm, asg_tp, asgs_nil, asgs_cons, Option.bind_some, Option.bind_none, Option.map_some, Option.map_none,
  Nat.reduceSub, Nat.reduceAdd, Nat.zero_add, Nat.add_zero, Nat.sub_self, if_true, if_false, reduceIte, Bool.false_eq_true, Bool.true_eq_false, Bool.not_true, Bool.not_false, ix_tup, ix_fz, at0, at1, at2, eDNew, eDGet, eDGet2, eDIn, eDPop, cDPut, cAugS, cSub2, dic_ref, keyOf, reduceCtorEq, and_self, Bool.and_self, decide_true, decide_false, List.append_assoc, List.length_append, Nat.add_assoc, at_new, at_newk, add_fz, add_rf, add_tt, ix_ref, seq_ref, list_ref, seq_tup, seq_fz, list_fz, ix_tup, ix_fz, neg_int, app_ref, set_newk, set_new0, iZ, iEn, sl_tup, sl_fz, eLcV, len_tup, len_ref, len_fz, tuple_fz, tuple_ref, ty_non, ty_bl, ty_int, ty_str, ty_tup, ty_fz])
local macro_rules | `(tactic| walk_at "fs") => `(tactic| try simp [runB, cSeq, cNil, cRet, cRetN, cExpr, cIf, cSet, cAsg, cPar, cAug, cRaise, cStore, cPass, cWipe, wipeD, toS_ok, toS_exn, toS_stuck, Res.bd_ok, Res.bd_exn, Res.bd_stuck, Res.bdN_ok, Res.bdN_exn, Res.bdN_stuck,
  eVar, eC, eTup, eLst, eOp, eChain, eUn, eAnd, eOr, eNot, eIf, eRep, tTs, tAnd2, tOr2, tNot2, tTrue, eCall, eBi, eIsi, eMtL, eSl, oNo, oSo, lNil, lCons, iSeq, iRange1, iRange2, zAdd, zSub, zMul, zDiv, zMod, ofO, opInt, opIn, opNotIn, opEq, opNe, opIs, opIsnt, mk_t, mk_f,
  List.map_cons, List.map_nil, List.length_cons, List.length_nil, List.replicate, List.append_nil, List.nil_append, List.cons_append, List.getElem?_cons_zero, List.getElem?_cons_succ, List.getElem?_nil, List.set_cons_zero, List.set_cons_succ, List.set_nil, lm0, lm1, lm2, lm3, lm4, lm5, lm6, lm7, lm8, lm9, asg_nm, asg_tp, asgs_nil, asgs_cons, Option.bind_some, Option.bind_none, Option.map_some, Option.map_none,
  Nat.reduceSub, Nat.reduceAdd, Nat.zero_add, Nat.add_zero, Nat.sub_self, if_true, if_false, reduceIte, Bool.false_eq_true, Bool.true_eq_false, Bool.not_true, Bool.not_false, ix_tup, ix_fz, at0, at1, at2, eDNew, eDGet, eDGet2, eDIn, eDPop, cDPut, cAugS, cSub2, dic_ref, keyOf, reduceCtorEq, and_self, Bool.and_self, decide_true, decide_false, List.append_assoc, List.length_append, Nat.add_assoc, at_new, at_newk, add_fz, add_rf, add_tt, ix_ref, seq_ref, list_ref, seq_tup, seq_fz, list_fz, ix_tup, ix_fz, neg_int, app_ref, set_newk, set_new0, iZ, iEn, sl_tup, sl_fz, eLcV, len_tup, len_ref, len_fz, tuple_fz, tuple_ref, ty_non, ty_bl, ty_int, ty_str, ty_tup, ty_fz, isT, eqD_int, at0, at1])
local macro_rules | `(tactic| walk_at "fh") => `(tactic| try simp [*, runB, cSeq, cNil, cRet, cRetN, cExpr, cIf, cSet, cAsg, cPar, cAug, cRaise, cStore, cPass, cWipe, wipeD, toS_ok, toS_exn, toS_stuck, Res.bd_ok, Res.bd_exn, Res.bd_stuck, Res.bdN_ok, Res.bdN_exn, Res.bdN_stuck,
  eVar, eC, eTup, eLst, eOp, eChain, eUn, eAnd, eOr, eNot, eIf, eRep, tTs, tAnd2, tOr2, tNot2, tTrue, eCall, eBi, eIsi, eMtL, eSl, oNo, oSo, lNil, lCons, iSeq, iRange1, iRange2, zAdd, zSub, zMul, zDiv, zMod, ofO, opInt, opIn, opNotIn, opEq, opNe, opIs, opIsnt, mk_t, mk_f,
  List.map_cons, List.map_nil, List.length_cons, List.length_nil, List.replicate, List.append_nil, List.nil_append, List.cons_append, List.getElem?_cons_zero, List.getElem?_cons_succ, List.getElem?_nil, List.set_cons_zero, List.set_cons_succ, List.set_nil, lm0, lm1, lm2, lm3, lm4, lm5, lm6, lm7, lm8, lm9, asg_nm, asg_tp, asgs_nil, asgs_cons, Option.bind_some, Option.bind_none, Option.map_some, Option.map_none,
  Nat.reduceSub, Nat.reduceAdd, Nat.zero_add, Nat.add_zero, Nat.sub_self, if_true, if_false, reduceIte, Bool.false_eq_true, Bool.true_eq_false, Bool.not_true, Bool.not_false, ix_tup, ix_fz, at0, at1, at2, eDNew, eDGet, eDGet2, eDIn, eDPop, cDPut, cAugS, cSub2, dic_ref, keyOf, reduceCtorEq, and_self, Bool.and_self, decide_true, decide_false, List.append_assoc, List.length_append, Nat.add_assoc, at_new, at_newk, add_fz, add_rf, add_tt, ix_ref, seq_ref, list_ref, seq_tup, seq_fz, list_fz, ix_tup, ix_fz, neg_int, app_ref, set_newk, set_new0, iZ, iEn, sl_tup, sl_fz, eLcV, len_tup, len_ref, len_fz, tuple_fz, tuple_ref, ty_non, ty_bl, ty_int, ty_str, ty_tup, ty_fz, isT, eqD_int, at0, at1])
theorem okC_chs (qs : List Rat) (h : ∀ q ∈ qs, Bd 600 q) (S : Sto) : okC S (chs qs) = true := by
  simp only [okC, chs, List.all_eq_true, List.mem_map]
  rintro d ⟨q, hq, rfl⟩
  have := h q hq
  simp [okF, fr, okT, tyD, okN, this.1, this.2]
theorem den_dvd {qs : List Rat} {q : Rat} (hq : q ∈ qs) : q.den ∣ lcmD qs := by
  have key : ∀ (l : List Rat) (r : Nat), r ∣ l.foldl (fun r q => Nat.lcm r q.den) r ∧ ∀ q ∈ l, q.den ∣ l.foldl (fun r q => Nat.lcm r q.den) r := by
    intro l
    induction l with
    | nil => intro r; simp
    | cons p l ih =>
      intro r
      obtain ⟨h1, h2⟩ := ih (Nat.lcm r p.den)
      refine ⟨Nat.dvd_trans (Nat.dvd_lcm_left _ _) h1, fun q hq => ?_⟩
      rcases List.mem_cons.mp hq with rfl | hq
      · exact Nat.dvd_trans (Nat.dvd_lcm_right _ _) h1
      · exact h2 q hq
  exact (key qs 1).2 q hq
theorem lcm_pos (qs : List Rat) : 0 < lcmD qs := by
  have key : ∀ (l : List Rat) (r : Nat), 0 < r → 0 < l.foldl (fun r q => Nat.lcm r q.den) r := by
    intro l
    induction l with
    | nil => intro r h; exact h
    | cons p l ih => intro r h; exact ih _ (Nat.lcm_pos h p.den_pos)
  exact key qs 1 (by decide)
theorem sum_ge {qs : List Rat} (h : ∀ q ∈ qs, 0 ≤ q) : 0 ≤ sumR qs := by
  induction qs with
  | nil => exact Rat.le_refl
  | cons q qs ih =>
    rw [sumR_cons]
    have h1 := h q (by simp)
    have h2 := ih fun p hp => h p (by simp [hp])
    grind
theorem le_sum {qs : List Rat} (h : ∀ q ∈ qs, 0 ≤ q) {p : Rat} (hp : p ∈ qs) : p ≤ sumR qs := by
  induction qs with
  | nil => cases hp
  | cons q qs ih =>
    rw [sumR_cons]
    have h1 := h q (by simp)
    have h2 := sum_ge (qs := qs) fun p hp => h p (by simp [hp])
    rcases List.mem_cons.mp hp with rfl | hp
    · grind
    · have := ih (fun p hp => h p (by simp [hp])) hp
      grind
namespace Chances
variable {qs : List Rat}
theorem den_le (h : Chances qs) {q : Rat} (hq : q ∈ qs) : q.den ≤ 30 := Nat.le_trans (Nat.le_of_dvd (lcm_pos qs) (den_dvd hq)) h.bot
theorem le_one (h : Chances qs) {q : Rat} (hq : q ∈ qs) : q ≤ 1 := by
  have := le_sum h.nn hq
  rwa [h.one] at this
theorem num_le (h : Chances qs) {q : Rat} (hq : q ∈ qs) : 0 ≤ q.num ∧ q.num ≤ q.den := by
  refine ⟨Rat.num_nonneg.mpr (h.nn q hq), ?_⟩
  have h1 := h.le_one hq
  rw [Rat.le_iff] at h1
  simpa using h1
theorem bd (h : Chances qs) {q : Rat} (hq : q ∈ qs) : Bd 5 q := by
  have h1 := h.den_le hq
  have h2 := h.num_le hq
  exact ⟨by omega, by omega⟩
theorem okC (h : Chances qs) (S : Sto) : Fc.okC S (chs qs) = true := okC_chs qs (fun q hq => (h.bd hq).mono (by decide)) S
end Chances
end Fc
set_option exponentiation.threshold 256
set_option maxHeartbeats 4000000
set_option maxHeartbeats 4000000
namespace Fc
def sg (l : List Nat) (f : Nat → Rat) : Rat := l.foldr (fun j a => f j + a) 0
theorem sg_nil (f : Nat → Rat) : sg [] f = 0 := rfl
theorem sg_cons (k : Nat) (l : List Nat) (f : Nat → Rat) : sg (k :: l) f = f k + sg l f := rfl
theorem sg_congr {l : List Nat} {f g : Nat → Rat} (h : ∀ j ∈ l, f j = g j) : sg l f = sg l g := by
  induction l with
  | nil => rfl
  | cons k l ih =>
    rw [sg_cons, sg_cons, h k (by simp), ih fun j hj => h j (by simp [hj])]
theorem sg_add (l : List Nat) (f g : Nat → Rat) : sg l (fun j => f j + g j) = sg l f + sg l g := by
  induction l with
  | nil => simp only [sg_nil]; grind
  | cons k l ih => simp only [sg_cons, ih]; grind
theorem sg_mul (l : List Nat) (c : Rat) (f : Nat → Rat) : sg l (fun j => c * f j) = c * sg l f := by
  induction l with
  | nil => simp only [sg_nil]; grind
  | cons k l ih => simp only [sg_cons, ih]; grind
theorem sg_sub (l : List Nat) (f g : Nat → Rat) : sg l (fun j => f j - g j) = sg l f - sg l g := by
  induction l with
  | nil => simp only [sg_nil]; grind
  | cons k l ih => simp only [sg_cons, ih]; grind
theorem sg_perm {l m : List Nat} (h : l.Perm m) (f : Nat → Rat) : sg l f = sg m f := by
  induction h with
  | nil => rfl
  | cons x _ ih => simp only [sg_cons, ih]
  | swap x y l => simp only [sg_cons]; grind
  | trans _ _ h1 h2 => exact h1.trans h2
theorem sg_le {l : List Nat} {f g : Nat → Rat} (h : ∀ j ∈ l, f j ≤ g j) : sg l f ≤ sg l g := by
  induction l with
  | nil => exact Rat.le_refl
  | cons k l ih =>
    simp only [sg_cons]
    have h1 := h k (by simp)
    have h2 := ih fun j hj => h j (by simp [hj])
    grind
theorem sg_nonneg {l : List Nat} {f : Nat → Rat} (h : ∀ j ∈ l, 0 ≤ f j) : 0 ≤ sg l f := by
  have := sg_le (l := l) (f := fun _ => 0) (g := f) h
  have e : sg l (fun _ => 0) = 0 := by
    clear this h
    induction l with
    | nil => rfl
    | cons k l ih => simp only [sg_cons, ih]; grind
  rwa [e] at this
abbrev Mx := Nat → Nat → Rat
def elim (S : Mx) (k : Nat) : Mx := fun i j => S i j - S i k * S k j / S k k
def elims (M : Mx) : List Nat → Mx
  | [] => M
  | k :: L => elim (elims M L) k
def dets (M : Mx) : List Nat → Rat
  | [] => 1
  | k :: L => dets M L * elims M L k k
structure Good (R : List Nat) (h : Nat → Rat) (S : Mx) : Prop where
  off : ∀ i ∈ R, ∀ j ∈ R, i ≠ j → S i j ≤ 0
  row : ∀ i ∈ R, 1 ≤ sg R fun j => S i j * h j
theorem Good.pivot {R : List Nat} {h : Nat → Rat} {S : Mx} (g : Good R h S) (nd : R.Nodup) (hp : ∀ i, 0 < h i) {k : Nat} (hk : k ∈ R) : 0 < S k k := by
  have hpm := List.perm_cons_erase hk
  have h1 := g.row k hk
  rw [sg_perm hpm, sg_cons] at h1
  have h2 : sg (R.erase k) (fun j => S k j * h j) ≤ sg (R.erase k) fun _ => 0 := sg_le fun j hj => by
    have hj2 : j ∈ R := List.mem_of_mem_erase hj
    have hne : k ≠ j := fun e => by
      subst e
      exact (List.Nodup.mem_erase_iff nd).mp hj |>.1 rfl
    have := g.off k hk j hj2 hne
    have hh := hp j
    have : 0 ≤ (-(S k j)) * h j := Rat.mul_nonneg (by grind) (by grind)
    grind
  have e0 : sg (R.erase k) (fun _ => (0 : Rat)) = 0 := by
    generalize R.erase k = l
    induction l with
    | nil => rfl
    | cons k l ih => simp only [sg_cons, ih]; grind
  rw [e0] at h2
  have h3 : 1 ≤ S k k * h k := by grind
  have hh := hp k
  by_cases z : 0 < S k k
  · exact z
  · have z := Rat.not_lt.mp z
    have : 0 ≤ (-(S k k)) * h k := Rat.mul_nonneg (by grind) (by grind)
    grind
theorem Good.elim {R : List Nat} {h : Nat → Rat} {S : Mx} (g : Good R h S) (nd : R.Nodup) (hp : ∀ i, 0 < h i) {k : Nat} (hk : k ∈ R) : Good (R.erase k) h (Fc.elim S k) := by
  have pv := g.pivot nd hp hk
  have pi : 0 < (S k k)⁻¹ := Rat.inv_pos.mpr pv
  have hpm := List.perm_cons_erase hk
  have mem : ∀ {i}, i ∈ R.erase k → i ∈ R ∧ i ≠ k := fun {i} hi => ⟨List.mem_of_mem_erase hi, ((List.Nodup.mem_erase_iff nd).mp hi).1⟩
  refine ⟨fun i hi j hj hne => ?_, fun i hi => ?_⟩
  · obtain ⟨hi1, hi2⟩ := mem hi
    obtain ⟨hj1, hj2⟩ := mem hj
    have a := g.off i hi1 j hj1 hne
    have b := g.off i hi1 k hk hi2
    have c := g.off k hk j hj1 (Ne.symm hj2)
    have d : 0 ≤ S i k * S k j := by
      have := Rat.mul_nonneg (show 0 ≤ -(S i k) by grind) (show 0 ≤ -(S k j) by grind)
      grind
    have e : 0 ≤ S i k * S k j / S k k := by
      rw [Rat.div_def]
      exact Rat.mul_nonneg d (Rat.le_of_lt pi)
    show S i j - S i k * S k j / S k k ≤ 0
    grind
  · obtain ⟨hi1, hi2⟩ := mem hi
    have ri := g.row i hi1
    have rk := g.row k hk
    rw [sg_perm hpm, sg_cons] at ri rk
    have e : sg (R.erase k) (fun j => Fc.elim S k i j * h j) = sg (R.erase k) (fun j => S i j * h j) - (S i k / S k k) * sg (R.erase k) (fun j => S k j * h j) := by
      rw [← sg_mul, ← sg_sub]
      refine sg_congr fun j _ => ?_
      show (S i j - S i k * S k j / S k k) * h j = _
      grind
    rw [e]
    have b := g.off i hi1 k hk hi2
    have c : 0 ≤ -(S i k) / S k k := by
      rw [Rat.div_def]
      exact Rat.mul_nonneg (by grind) (Rat.le_of_lt pi)
    have d := Rat.mul_nonneg c (show 0 ≤ S k k * h k + sg (R.erase k) (fun j => S k j * h j) by grind)
    have e2 : S i k / S k k * (S k k * h k) = S i k * h k := by grind
    grind
theorem elim_swap {S : Mx} {a b : Nat} (ha : S a a ≠ 0) (hb : S b b ≠ 0) (h1 : elim S b a a ≠ 0) (h2 : elim S a b b ≠ 0) : elim (elim S b) a = elim (elim S a) b := by
  funext i j
  simp only [elim] at h1 h2 ⊢
  generalize S i j = ij at *
  generalize S i a = ia at *
  generalize S i b = ib at *
  generalize S a j = aj at *
  generalize S b j = bj at *
  generalize S a a = aa at *
  generalize S b b = bb at *
  generalize S a b = ab at *
  generalize S b a = ba at *
  have hd : aa * bb - ab * ba ≠ 0 := by
    intro z
    apply h1
    grind
  have e1 : aa - ab * ba / bb = (aa * bb - ab * ba) / bb := by grind
  have e2 : bb - ba * ab / aa = (aa * bb - ab * ba) / aa := by grind
  rw [e1, e2]
  generalize hD : aa * bb - ab * ba = D at *
  grind
def left (R : List Nat) (L : List Nat) : List Nat := L.foldr (fun k r => r.erase k) R
def Sub (R : List Nat) : List Nat → Prop
  | [] => True
  | k :: L => k ∈ left R L ∧ Sub R L
theorem left_nodup {R : List Nat} (nd : R.Nodup) : ∀ L : List Nat, (left R L).Nodup
  | [] => nd
  | k :: L => (left_nodup nd L).erase k
theorem mem_left {R : List Nat} (nd : R.Nodup) {i : Nat} : ∀ {L : List Nat}, i ∈ left R L ↔ i ∈ R ∧ i ∉ L
  | [] => by simp [left]
  | k :: L => by
    show i ∈ (left R L).erase k ↔ _
    rw [List.Nodup.mem_erase_iff (left_nodup nd L), mem_left nd (L := L)]
    simp only [List.mem_cons, not_or]
    constructor
    · rintro ⟨a, b, c⟩
      exact ⟨b, a, c⟩
    · rintro ⟨b, a, c⟩
      exact ⟨a, b, c⟩
theorem sub_iff {R : List Nat} (nd : R.Nodup) : ∀ {L : List Nat}, Sub R L ↔ L.Nodup ∧ ∀ k ∈ L, k ∈ R
  | [] => by simp [Sub]
  | k :: L => by
    show k ∈ left R L ∧ Sub R L ↔ _
    rw [mem_left nd, sub_iff nd (L := L), List.nodup_cons]
    constructor
    · rintro ⟨⟨a, b⟩, c, d⟩
      exact ⟨⟨b, c⟩, fun x hx => by rcases List.mem_cons.mp hx with rfl | hx; exact a; exact d x hx⟩
    · rintro ⟨⟨b, c⟩, d⟩
      exact ⟨⟨d k (by simp), b⟩, c, fun x hx => d x (by simp [hx])⟩
section
variable {M : Mx} {R : List Nat} {h : Nat → Rat}
theorem good_elims (g : Good R h M) (nd : R.Nodup) (hp : ∀ i, 0 < h i) : ∀ {L : List Nat}, Sub R L → Good (left R L) h (elims M L)
  | [], _ => g
  | k :: L, s => (good_elims g nd hp s.2).elim (left_nodup nd L) hp s.1
theorem pivot_pos (g : Good R h M) (nd : R.Nodup) (hp : ∀ i, 0 < h i) {L : List Nat} {k : Nat} (s : Sub R (k :: L)) : 0 < elims M L k k :=
  (good_elims g nd hp s.2).pivot (left_nodup nd L) hp s.1
theorem perm_elims (g : Good R h M) (nd : R.Nodup) (hp : ∀ i, 0 < h i) {L L' : List Nat} (p : L.Perm L') : Sub R L → elims M L = elims M L' ∧ dets M L = dets M L' := by
  induction p with
  | nil => intro _; exact ⟨rfl, rfl⟩
  | cons x p ih =>
    intro s
    obtain ⟨e1, e2⟩ := ih s.2
    exact ⟨by simp only [elims, e1], by simp only [dets, e1, e2]⟩
  | swap a b L =>
    intro s
    have s' : Sub R (a :: b :: L) := by
      rw [sub_iff nd] at s ⊢
      obtain ⟨n, m⟩ := s
      rw [List.nodup_cons, List.nodup_cons] at n
      simp only [List.mem_cons, not_or] at n
      refine ⟨?_, fun k hk => m k ?_⟩
      · rw [List.nodup_cons, List.nodup_cons]
        simp only [List.mem_cons, not_or]
        exact ⟨⟨Ne.symm n.1.1, n.2.1⟩, n.1.2, n.2.2⟩
      · simp only [List.mem_cons] at hk ⊢
        rcases hk with z | z | z
        · exact .inr (.inl z)
        · exact .inl z
        · exact .inr (.inr z)
    have p1 := pivot_pos g nd hp s
    have p2 := pivot_pos g nd hp s.2
    have q1 := pivot_pos g nd hp s'
    have q2 := pivot_pos g nd hp s'.2
    have n1 : elims M L a a ≠ 0 := by grind
    have n2 : elims M L b b ≠ 0 := by grind
    have n3 : elim (elims M L) a b b ≠ 0 := by
      have : elims M (a :: L) b b = elim (elims M L) a b b := rfl
      grind
    have n4 : elim (elims M L) b a a ≠ 0 := by
      have : elims M (b :: L) a a = elim (elims M L) b a a := rfl
      grind
    refine ⟨elim_swap n2 n1 n3 n4, ?_⟩
    show dets M L * elims M L a a * elim (elims M L) a b b = dets M L * elims M L b b * elim (elims M L) b a a
    simp only [elim]
    generalize elims M L a a = aa at *
    generalize elims M L b b = bb at *
    generalize elims M L a b = ab at *
    generalize elims M L b a = ba at *
    grind
  | trans p1 p2 ih1 ih2 =>
    intro s
    obtain ⟨e1, e2⟩ := ih1 s
    have s2 : Sub R _ := (sub_iff nd).mpr ⟨p1.nodup_iff.mp ((sub_iff nd).mp s).1, fun k hk => ((sub_iff nd).mp s).2 k (p1.mem_iff.mpr hk)⟩
    obtain ⟨e3, e4⟩ := ih2 s2
    exact ⟨e1.trans e3, e2.trans e4⟩
theorem sub_erase (nd : R.Nodup) {L : List Nat} (s : Sub R L) (k : Nat) : Sub R (L.erase k) := by
  rw [sub_iff nd] at s ⊢
  exact ⟨s.1.erase k, fun x hx => s.2 x (List.mem_of_mem_erase hx)⟩
def sol (M : Mx) (L : List Nat) (j l : Nat) : Rat := elims M (L.erase l) l j / elims M (L.erase l) l l
theorem expand (g : Good R h M) (nd : R.Nodup) (hp : ∀ i, 0 < h i) : ∀ {L : List Nat}, Sub R L → ∀ i j, M i j - sg L (fun l => M i l * sol M L j l) = elims M L i j
  | [], _, i, j => by
    simp only [sg_nil, elims]
    grind
  | k :: G, s, i, j => by
    have nk : k ∉ G := by
      have := ((sub_iff nd).mp s).1
      exact (List.nodup_cons.mp this).1
    have ndG : G.Nodup := ((sub_iff nd).mp s.2).1
    have ihj := expand g nd hp s.2 i j
    have ihk := expand g nd hp s.2 i k
    have pk := pivot_pos g nd hp s
    have ek : sol M (k :: G) j k = elims M G k j / elims M G k k := by simp [sol]
    have el : ∀ l ∈ G, sol M (k :: G) j l = sol M G j l - sol M G k l * (elims M G k j / elims M G k k) := by
      intro l hl
      have hne : l ≠ k := fun e => nk (e ▸ hl)
      have e0 : (k :: G).erase l = k :: G.erase l := by
        rw [List.erase_cons_tail]
        simpa using Ne.symm hne
      have pm : G.Perm (l :: G.erase l) := List.perm_cons_erase hl
      have sG : Sub R (l :: G.erase l) := (sub_iff nd).mpr ⟨pm.nodup_iff.mp ndG, fun x hx => ((sub_iff nd).mp s.2).2 x (pm.mem_iff.mpr hx)⟩
      obtain ⟨e1, _⟩ := perm_elims g nd hp pm s.2
      have sk : Sub R (k :: G.erase l) := by
        rw [sub_iff nd] at s ⊢
        refine ⟨List.nodup_cons.mpr ⟨fun z => nk (List.mem_of_mem_erase z), ndG.erase l⟩, fun x hx => s.2 x ?_⟩
        rcases List.mem_cons.mp hx with rfl | z
        · simp
        · simp [List.mem_of_mem_erase z]
      have p1 := pivot_pos g nd hp sG
      have p2 := pivot_pos g nd hp sk
      have p3 : 0 < elims M (k :: G.erase l) l l := by
        refine pivot_pos g nd hp (L := k :: G.erase l) (k := l) ?_
        rw [sub_iff nd] at s ⊢
        refine ⟨?_, fun x hx => s.2 x ?_⟩
        · rw [List.nodup_cons, List.nodup_cons]
          refine ⟨?_, fun z => nk (List.mem_of_mem_erase z), ndG.erase l⟩
          simp only [List.mem_cons, not_or]
          exact ⟨hne, fun z => ((List.Nodup.mem_erase_iff ndG).mp z).1 rfl⟩
        · simp only [List.mem_cons] at hx
          rcases hx with rfl | rfl | z
          · simp [hl]
          · simp
          · simp [List.mem_of_mem_erase z]
      simp only [sol, e0]
      have eS : elims M G = elim (elims M (G.erase l)) l := e1
      have eT : elims M (k :: G.erase l) = elim (elims M (G.erase l)) k := rfl
      rw [eS] at pk ⊢
      rw [eT] at p3 ⊢
      simp only [elim] at pk p3 ⊢
      generalize elims M (G.erase l) = T at *
      generalize T l l = ll at *
      generalize T k k = kk at *
      generalize T l k = lk at *
      generalize T k l = kl at *
      generalize T l j = lj at *
      generalize T k j = kj at *
      have hd : ll * kk - lk * kl ≠ 0 := by
        intro z
        have : kk - kl * lk / ll = 0 := by grind
        grind
      have q1 : ll - lk * kl / kk = (ll * kk - lk * kl) / kk := by grind
      have q2 : kk - kl * lk / ll = (ll * kk - lk * kl) / ll := by grind
      rw [q1, q2]
      have n1 : ll ≠ 0 := by grind
      have n2 : kk ≠ 0 := by grind
      clear ihj ihk ek e1 eS eT pk p3 q1 q2 p1 p2 pm sG sk e0 hne hl nk ndG s g nd hp
      obtain ⟨D, hD⟩ : ∃ D, ll * kk - lk * kl = D := ⟨_, rfl⟩
      rw [hD] at hd ⊢
      have x1 : D / ll * ll = D := by grind
      have x2 : D / kk * kk = D := by grind
      have x3 : D / ll ≠ 0 := fun z => by rw [z] at x1; grind
      have x4 : D / kk ≠ 0 := fun z => by rw [z] at x2; grind
      have a1 : (lj - lk * kj / kk) / (D / kk) = (lj * kk - lk * kj) / D := by grind
      have a2 : (kj - kl * lj / ll) / (D / ll) = (kj * ll - kl * lj) / D := by grind
      rw [a1, a2]
      grind
    have e : sg G (fun l => M i l * sol M (k :: G) j l) = sg G (fun l => M i l * sol M G j l) - (elims M G k j / elims M G k k) * sg G (fun l => M i l * sol M G k l) := by
      rw [← sg_mul, ← sg_sub]
      refine sg_congr fun l hl => ?_
      rw [el l hl]
      grind
    rw [sg_cons, ek, e]
    show _ = elims M G i j - elims M G i k * elims M G k j / elims M G k k
    grind
def isZ (q : Rat) : Prop := ∃ z : Int, q = (z : Rat)
theorem isZ.add {a b : Rat} : isZ a → isZ b → isZ (a + b) := fun ⟨x, hx⟩ ⟨y, hy⟩ => ⟨x + y, by rw [hx, hy, Rat.intCast_add]⟩
theorem isZ.sub {a b : Rat} : isZ a → isZ b → isZ (a - b) := fun ⟨x, hx⟩ ⟨y, hy⟩ => ⟨x - y, by rw [hx, hy, Rat.intCast_sub]⟩
theorem isZ.mul {a b : Rat} : isZ a → isZ b → isZ (a * b) := fun ⟨x, hx⟩ ⟨y, hy⟩ => ⟨x * y, by rw [hx, hy, Rat.intCast_mul]⟩
theorem isZ.int (z : Int) : isZ (z : Rat) := ⟨z, rfl⟩
theorem isZ.sg {l : List Nat} {f : Nat → Rat} (h : ∀ j ∈ l, isZ (f j)) : isZ (sg l f) := by
  induction l with
  | nil => exact ⟨0, rfl⟩
  | cons k l ih => exact (h k (by simp)).add (ih fun j hj => h j (by simp [hj]))
theorem minor_int (g : Good R h M) (nd : R.Nodup) (hp : ∀ i, 0 < h i) (hM : ∀ i j, isZ (M i j)) : ∀ (n : Nat) {L : List Nat}, L.length = n → Sub R L → isZ (dets M L) ∧ ∀ i j, isZ (dets M L * elims M L i j) := by
  intro n
  induction n with
  | zero =>
    intro L hl s
    cases L with
    | nil =>
      refine ⟨⟨1, rfl⟩, fun i j => ?_⟩
      show isZ (1 * M i j)
      rw [Rat.one_mul]
      exact hM i j
    | cons a b => cases hl
  | succ n ih =>
    intro L hl s
    have ndL := ((sub_iff nd).mp s).1
    have step : ∀ l ∈ L, dets M L = dets M (L.erase l) * elims M (L.erase l) l l ∧ isZ (dets M (L.erase l)) ∧ ∀ i j, isZ (dets M (L.erase l) * elims M (L.erase l) i j) := fun l hll => by
      have pm : L.Perm (l :: L.erase l) := List.perm_cons_erase hll
      obtain ⟨_, e⟩ := perm_elims g nd hp pm s
      have hlen : (L.erase l).length = n := by rw [List.length_erase_of_mem hll, hl]; rfl
      obtain ⟨a, b⟩ := ih hlen (sub_erase nd s l)
      exact ⟨e, a, b⟩
    have piv : ∀ l ∈ L, 0 < elims M (L.erase l) l l := fun l hll => by
      have pm : L.Perm (l :: L.erase l) := List.perm_cons_erase hll
      exact pivot_pos g nd hp ((sub_iff nd).mpr ⟨pm.nodup_iff.mp ndL, fun x hx => ((sub_iff nd).mp s).2 x (pm.mem_iff.mpr hx)⟩)
    have hD : isZ (dets M L) := by
      cases L with
      | nil => cases hl
      | cons k G =>
        obtain ⟨e, _, b⟩ := step k (by simp)
        rw [e]
        exact b k k
    refine ⟨hD, fun i j => ?_⟩
    have ex := expand g nd hp s i j
    have e : dets M L * elims M L i j = dets M L * M i j - sg L (fun l => M i l * (dets M L * sol M L j l)) := by
      rw [← ex]
      have : sg L (fun l => M i l * (dets M L * sol M L j l)) = dets M L * sg L (fun l => M i l * sol M L j l) := by
        rw [← sg_mul]
        exact sg_congr fun l _ => by grind
      rw [this]
      grind
    rw [e]
    refine (hD.mul (hM i j)).sub (isZ.sg fun l hll => (hM i l).mul ?_)
    obtain ⟨e1, _, b⟩ := step l hll
    have pv := piv l hll
    have : dets M L * sol M L j l = dets M (L.erase l) * elims M (L.erase l) l j := by
      rw [e1, sol]
      generalize elims M (L.erase l) l l = x at *
      grind
    rw [this]
    exact b l j
theorem dets_bd (g : Good R h M) (nd : R.Nodup) (hp : ∀ i, 0 < h i) {s : Rat} (hs : ∀ i ∈ R, M i i ≤ s) : ∀ {L : List Nat}, Sub R L → 0 < dets M L ∧ dets M L ≤ s ^ L.length ∧ ∀ i ∈ left R L, elims M L i i ≤ s
  | [], _ => ⟨by show (0 : Rat) < 1; decide, by show (1 : Rat) ≤ s ^ 0; rw [Rat.pow_zero]; exact Rat.le_refl, fun i hi => hs i hi⟩
  | k :: L, sb => by
    obtain ⟨a, b, c⟩ := dets_bd g nd hp hs sb.2
    have pk := pivot_pos g nd hp sb
    have ck := c k sb.1
    have gL := good_elims g nd hp sb.2
    refine ⟨Rat.mul_pos a pk, ?_, fun i hi => ?_⟩
    · show dets M L * elims M L k k ≤ s ^ (L.length + 1)
      rw [Rat.pow_succ]
      have h1 : dets M L * elims M L k k ≤ dets M L * s := Rat.mul_le_mul_of_nonneg_left ck (Rat.le_of_lt a)
      have h2 : dets M L * s ≤ s ^ L.length * s := Rat.mul_le_mul_of_nonneg_right b (by grind)
      exact Rat.le_trans h1 h2
    · have hi2 : i ∈ left R L ∧ i ≠ k := by
        have := (List.Nodup.mem_erase_iff (left_nodup nd L)).mp hi
        exact ⟨this.2, this.1⟩
      have o1 := gL.off i hi2.1 k sb.1 hi2.2
      have o2 := gL.off k sb.1 i hi2.1 (Ne.symm hi2.2)
      have d : 0 ≤ elims M L i k * elims M L k i := by
        have := Rat.mul_nonneg (show 0 ≤ -(elims M L i k) by grind) (show 0 ≤ -(elims M L k i) by grind)
        grind
      have e : 0 ≤ elims M L i k * elims M L k i / elims M L k k := by
        rw [Rat.div_def]
        exact Rat.mul_nonneg d (Rat.le_of_lt (Rat.inv_pos.mpr pk))
      have := c i hi2.1
      show elims M L i i - elims M L i k * elims M L k i / elims M L k k ≤ s
      grind
end
end Fc
set_option exponentiation.threshold 256
set_option maxHeartbeats 4000000
set_option maxHeartbeats 4000000
namespace Fc
open PySem L2
local macro_rules | `(tactic| walk_at "fc") => `(tactic| try simp only [runB, cSeq, cNil, cRet, cRetN, cExpr, cIf, cSet, cAsg, cPar, cAug, cRaise, cStore, cPass, cWipe, wipeD, toS_ok, toS_exn, toS_stuck, Res.bd_ok, Res.bd_exn, Res.bd_stuck, Res.bdN_ok, Res.bdN_exn, Res.bdN_stuck,
  eVar, eC, eTup, eLst, eOp, eChain, eUn, eAnd, eOr, eNot, eIf, eRep, tTs, tAnd2, tOr2, tNot2, tTrue, eCall, eBi, eIsi, eMtL, eSl, oNo, oSo, lNil, lCons, iSeq, iRange1, iRange2, zAdd, zSub, zMul, zDiv, zMod, ofO, opInt, opIn, opNotIn, opEq, opNe, opIs, opIsnt, mk_t, mk_f,
  List.map_cons, List.map_nil, List.length_cons, List.length_nil, List.replicate, List.append_nil, List.nil_append, List.cons_append, List.getElem?_cons_zero, List.getElem?_cons_succ, List.getElem?_nil, List.set_cons_zero, List.set_cons_succ, List.set_nil, lm0, lm1, lm2, lm3, lm4, lm5, lm6, lm7, lm8, lm9, asg_nm, asg_tp, asgs_nil, asgs_cons, Option.bind_some, Option.bind_none, Option.map_some, Option.map_none,
  Nat.reduceSub, Nat.reduceAdd, Nat.zero_add, Nat.add_zero, Nat.sub_self, if_true, if_false, reduceIte, Bool.false_eq_true, Bool.true_eq_false, Bool.not_true, Bool.not_false, ix_tup, ix_fz, at0, at1, at2, eDNew, eDGet, eDGet2, eDIn, eDPop, cDPut, cAugS, cSub2, dic_ref, keyOf, reduceCtorEq])
local macro_rules | `(tactic| walk_at "fo") => `(tactic| try simp only [*, runB, cSeq, cNil, cRet, cRetN, cExpr, cIf, cSet, cAsg, cPar, cAug, cRaise, cStore, cPass, cWipe, wipeD, toS_ok, toS_exn, toS_stuck, Res.bd_ok, Res.bd_exn, Res.bd_stuck, Res.bdN_ok, Res.bdN_exn, Res.bdN_stuck,
  eVar, eC, eTup, eLst, eOp, eChain, eUn, eAnd, eOr, eNot, eIf, eRep, tTs, tAnd2, tOr2, tNot2, tTrue, eCall, eBi, eIsi, eMtL, eSl, oNo, oSo, lNil, lCons, iSeq, iRange1, iRange2, zAdd, zSub, zMul, zDiv, zMod, ofO, opInt, opIn, opNotIn, opEq, opNe, opIs, opIsnt, mk_t, mk_f,
  List.map_cons, List.map_nil, List.length_cons, List.length_nil, List.replicate, List.append_nil, List.nil_append, List.cons_append, List.getElem?_cons_zero, List.getElem?_cons_succ, List.getElem?_nil, List.set_cons_zero, List.set_cons_succ, List.set_nil, lm0, lm1, lm2, lm3, lm4, lm5, lm6, lm7, lm8, lm9, asg_nm, asg_tp, asgs_nil, asgs_cons, Option.bind_some, Option.bind_none, Option.map_some, Option.map_none,
  Nat.reduceSub, Nat.reduceAdd, Nat.zero_add, Nat.add_zero, Nat.sub_self, if_true, if_false, reduceIte, Bool.false_eq_true, Bool.true_eq_false, Bool.not_true, Bool.not_false, ix_tup, ix_fz, at0, at1, at2, eDNew, eDGet, eDGet2, eDIn, eDPop, cDPut, cAugS, cSub2, dic_ref, keyOf, reduceCtorEq, and_self, Bool.and_self, decide_true, decide_false, List.append_assoc, List.length_append, Nat.add_assoc, at_new, at_newk, add_fz, add_rf, add_tt, ix_ref, seq_ref, list_ref, seq_tup, seq_fz, list_fz, ix_tup, ix_fz, neg_int, app_ref, set_newk, set_new0, iZ, iEn, sl_tup, sl_fz, eLcV, len_tup, len_ref, len_fz, tuple_fz, tuple_ref, ty_non, ty_bl, ty_int, ty_str, ty_tup, ty_fz])
local macro_rules | `(tactic| walk_at "fg") => `(tactic| try simp only [*, runB, cSeq, cNil, cRet, cRetN, cExpr, cIf, cSet, cAsg, cPar, cAug, cRaise, cStore, cPass, cWipe, wipeD, toS_ok, toS_exn, toS_stuck, Res.bd_ok, Res.bd_exn, Res.bd_stuck, Res.bdN_ok, Res.bdN_exn, Res.bdN_stuck,
  eVar, eC, eTup, eLst, eOp, eChain, eUn, eAnd, eOr, eNot, eIf, eRep, tTs, tAnd2, tOr2, tNot2, tTrue, eCall, eBi, eIsi, eMtL, eSl, oNo, oSo, lNil, lCons, iSeq, iRange1, iRange2, zAdd, zSub, zMul, zDiv, zMod, ofO, opInt, opIn, opNotIn, opEq, opNe, opIs, opIsnt, mk_t, mk_f,
  List.map_cons, List.map_nil, List.length_cons, List.length_nil, List.replicate, List.append_nil, List.nil_append, List.cons_append, List.getElem?_cons_zero, List.getElem?_cons_succ, List.getElem?_nil, List.set_cons_zero, List.set_cons_succ, List.set_nil, lm0, lm1, lm2, lm3, lm4, lm5, lm6, lm7, lm8, lm9, asg_nm, asg_tp, asgs_nil, asgs_cons, Option.bind_some, Option.bind_none, Option.map_some, Option.map_none,
  Nat.reduceSub, Nat.reduceAdd, Nat.zero_add, Nat.add_zero, Nat.sub_self, if_true, if_false, reduceIte, Bool.false_eq_true, Bool.true_eq_false, Bool.not_true, Bool.not_false, ix_tup, ix_fz, at0, at1, at2, eDNew, eDGet, eDGet2, eDIn, eDPop, cDPut, cAugS, cSub2, dic_ref, keyOf, reduceCtorEq, and_self, Bool.and_self, decide_true, decide_false, List.append_assoc, List.length_append, Nat.add_assoc, at_new, at_newk, add_fz, add_rf, add_tt, ix_ref, seq_ref, list_ref, seq_tup, seq_fz, list_fz, ix_tup, ix_fz, neg_int, app_ref, set_newk, set_new0, iZ, iEn, sl_tup, sl_fz, eLcV, len_tup, len_ref, len_fz, tuple_fz, tuple_ref, ty_non, ty_bl, ty_int, ty_str, ty_tup, ty_fz])
local macro_rules | `(tactic| walk_at "fs") => `(tactic| try simp [runB, cSeq, cNil, cRet, cRetN, cExpr, cIf, cSet, cAsg, cPar, cAug, cRaise, cStore, cPass, cWipe, wipeD, toS_ok, toS_exn, toS_stuck, Res.bd_ok, Res.bd_exn, Res.bd_stuck, Res.bdN_ok, Res.bdN_exn, Res.bdN_stuck,
  eVar, eC, eTup, eLst, eOp, eChain, eUn, eAnd, eOr, eNot, eIf, eRep, tTs, tAnd2, tOr2, tNot2, tTrue, eCall, eBi, eIsi, eMtL, eSl, oNo, oSo, lNil, lCons, iSeq, iRange1, iRange2, zAdd, zSub, zMul, zDiv, zMod, ofO, opInt, opIn, opNotIn, opEq, opNe, opIs, opIsnt, mk_t, mk_f,
  List.map_cons, List.map_nil, List.length_cons, List.length_nil, List.replicate, List.append_nil, List.nil_append, List.cons_append, List.getElem?_cons_zero, List.getElem?_cons_succ, List.getElem?_nil, List.set_cons_zero, List.set_cons_succ, List.set_nil, lm0, lm1, lm2, lm3, lm4, lm5, lm6, lm7, lm8, lm9, asg_nm, asg_tp, asgs_nil, asgs_cons, Option.bind_some, Option.bind_none, Option.map_some, Option.map_none,
  Nat.reduceSub, Nat.reduceAdd, Nat.zero_add, Nat.add_zero, Nat.sub_self, if_true, if_false, reduceIte, Bool.false_eq_true, Bool.true_eq_false, Bool.not_true, Bool.not_false, ix_tup, ix_fz, at0, at1, at2, eDNew, eDGet, eDGet2, eDIn, eDPop, cDPut, cAugS, cSub2, dic_ref, keyOf, reduceCtorEq, and_self, Bool.and_self, decide_true, decide_false, List.append_assoc, List.length_append, Nat.add_assoc, at_new, at_newk, add_fz, add_rf, add_tt, ix_ref, seq_ref, list_ref, seq_tup, seq_fz, list_fz, ix_tup, ix_fz, neg_int, app_ref, set_newk, set_new0, iZ, iEn, sl_tup, sl_fz, eLcV, len_tup, len_ref, len_fz, tuple_fz, tuple_ref, ty_non, ty_bl, ty_int, ty_str, ty_tup, ty_fz, isT, eqD_int, at0, at1])
local macro_rules | `(tactic| walk_at "fh") => `(tactic| try simp [*, runB, cSeq, cNil, cRet, cRetN, cExpr, cIf, cSet, cAsg, cPar, cAug, cRaise, cStore, cPass, cWipe, wipeD, toS_ok, toS_exn, toS_stuck, Res.bd_ok, Res.bd_exn, Res.bd_stuck, Res.bdN_ok, Res.bdN_exn, Res.bdN_stuck,
  eVar, eC, eTup, eLst, eOp, eChain, eUn, eAnd, eOr, eNot, eIf, eRep, tTs, tAnd2, tOr2, tNot2, tTrue, eCall, eBi, eIsi, eMtL, eSl, oNo, oSo, lNil, lCons, iSeq, iRange1, iRange2, zAdd, zSub, zMul, zDiv, zMod, ofO, opInt, opIn, opNotIn, opEq, opNe, opIs, opIsnt, mk_t, mk_f,
  List.map_cons, List.map_nil, List.length_cons, List.length_nil, List.replicate, List.append_nil, List.nil_append, List.cons_append, List.getElem?_cons_zero, List.getElem?_cons_succ, List.getElem?_nil, List.set_cons_zero, List.set_cons_succ, List.set_nil, lm0, lm1, lm2, lm3, lm4, lm5, lm6, lm7, lm8, lm9, asg_nm, asg_tp, asgs_nil, asgs_cons, Option.bind_some, Option.bind_none, Option.map_some, Option.map_none,
  Nat.reduceSub, Nat.reduceAdd, Nat.zero_add, Nat.add_zero, Nat.sub_self, if_true, if_false, reduceIte, Bool.false_eq_true, Bool.true_eq_false, Bool.not_true, Bool.not_false, ix_tup, ix_fz, at0, at1, at2, eDNew, eDGet, eDGet2, eDIn, eDPop, cDPut, cAugS, cSub2, dic_ref, keyOf, reduceCtorEq, and_self, Bool.and_self, decide_true, decide_false, List.append_assoc, List.length_append, Nat.add_assoc, at_new, at_newk, add_fz, add_rf, add_tt, ix_ref, seq_ref, list_ref, seq_tup, seq_fz, list_fz, ix_tup, ix_fz, neg_int, app_ref, set_newk, set_new0, iZ, iEn, sl_tup, sl_fz, eLcV, len_tup, len_ref, len_fz, tuple_fz, tuple_ref, ty_non, ty_bl, ty_int, ty_str, ty_tup, ty_fz, isT, eqD_int, at0, at1])
inductive Sta where
  | fin (o : Nat) | go (l : List Nat)
  deriving Inhabited, DecidableEq
def nn (j : Nat) : Dv := .int (j : Nat)
abbrev KQ := List (Nat × Rat)
def encK (ks : KQ) : Kd := ks.map fun p => (.inl ((p.1 : Nat) : Int), fr p.2)
def lookQ (ks : KQ) (j : Nat) : Option Rat := (ks.find? fun p => decide (p.1 = j)).map (·.2)
def putQ (ks : KQ) (j : Nat) (q : Rat) : KQ := if (ks.any fun p => decide (p.1 = j)) = true then ks.map (fun p => if p.1 = j then (p.1, q) else p) else ks ++ [(j, q)]
def dropQ (ks : KQ) (j : Nat) : KQ := ks.filter fun p => decide (p.1 ≠ j)
theorem key_eq (i j : Nat) : ((Sum.inl ((i : Nat) : Int) : Key) = Sum.inl ((j : Nat) : Int)) ↔ i = j := by
  constructor
  · intro h
    injection h with h
    omega
  · rintro rfl
    rfl
theorem val_enc (ks : KQ) (j : Nat) : valD (encK ks) (.inl ((j : Nat) : Int)) = (lookQ ks j).map fr := by
  induction ks with
  | nil => rfl
  | cons p ks ih =>
    simp only [valD, encK, lookQ, List.map_cons, List.find?_cons, key_eq] at ih ⊢
    by_cases h : p.1 = j
    · simp [h]
    · simp only [h, decide_false]
      exact ih
theorem put_enc (ks : KQ) (j : Nat) (q : Rat) : putKD (encK ks) (.inl ((j : Nat) : Int)) (fr q) = encK (putQ ks j q) := by
  have e : ((encK ks).any fun kv => decide (kv.1 = .inl ((j : Nat) : Int))) = ks.any fun p => decide (p.1 = j) := by
    simp only [encK, List.any_map]
    congr 1
    funext p
    simp only [Function.comp_apply, key_eq]
  unfold putKD putQ
  rw [e]
  split
  · simp only [encK, List.map_map]
    congr 1
    funext p
    simp only [Function.comp_apply, key_eq]
    by_cases h : p.1 = j
    · simp [h]
    · simp [h]
  · simp [encK]
theorem drop_enc (ks : KQ) (j : Nat) : dropKD (encK ks) (.inl ((j : Nat) : Int)) = encK (dropQ ks j) := by
  induction ks with
  | nil => rfl
  | cons p ks ih =>
    simp only [dropKD, encK, dropQ, List.map_cons, List.filter_cons, ne_eq, key_eq] at ih ⊢
    by_cases h : p.1 = j
    · simp only [h, not_true, decide_false]
      exact ih
    · simp only [h, not_false_eq_true, decide_true, if_true, List.map_cons]
      rw [← ih]
structure Row (ks : KQ) (a : Nat → Rat) : Prop where
  nd : (ks.map (·.1)).Nodup
  at_ : ∀ j, lookQ ks j = if a j = 0 then none else some (a j)
theorem look_put (ks : KQ) (j : Nat) (q : Rat) (i : Nat) : lookQ (putQ ks j q) i = if i = j then some q else lookQ ks i := by
  unfold putQ
  by_cases h : (ks.any fun p => decide (p.1 = j)) = true
  · rw [if_pos h]
    induction ks with
    | nil => simp at h
    | cons p ks ih =>
      simp only [lookQ, List.map_cons, List.find?_cons] at ih ⊢
      by_cases hp : p.1 = j
      · simp only [hp, if_true]
        by_cases hi : i = j
        · subst hi
          simp
        · have : ¬ j = i := fun e => hi e.symm
          simp only [hi, this, decide_false, if_false]
          clear ih h
          induction ks with
          | nil => rfl
          | cons p2 ks ih2 =>
            simp only [List.map_cons, List.find?_cons]
            by_cases h2 : p2.1 = j
            · simp only [h2, if_true, this, decide_false]
              exact ih2
            · simp only [h2, if_false]
              by_cases h3 : p2.1 = i
              · simp [h3]
              · simp only [h3, decide_false]
                exact ih2
      · simp only [hp, if_false]
        by_cases h3 : p.1 = i
        · have : ¬ i = j := fun e => hp (h3.trans e)
          simp [h3, this]
        · simp only [h3, decide_false]
          simp only [List.any_cons, hp, decide_false, Bool.false_or] at h
          exact ih h
  · rw [if_neg h]
    have hn : lookQ ks j = none := by
      simp only [lookQ, Option.map_eq_none_iff, List.find?_eq_none]
      intro p hp hd
      exact h (List.any_eq_true.mpr ⟨p, hp, hd⟩)
    simp only [lookQ, List.find?_append] at hn ⊢
    by_cases hi : i = j
    · subst hi
      simp only [Option.map_eq_none_iff] at hn
      simp [hn]
    · have : ¬ j = i := fun e => hi e.symm
      simp [hi, this]
theorem keys_put (ks : KQ) (j : Nat) (q : Rat) (h : (ks.map (·.1)).Nodup) : ((putQ ks j q).map (·.1)).Nodup := by
  unfold putQ
  split
  · rename_i hh
    have : (ks.map fun p => if p.1 = j then (p.1, q) else p).map (·.1) = ks.map (·.1) := by
      rw [List.map_map]
      congr 1
      funext p
      simp only [Function.comp_apply]
      split <;> rfl
    rw [this]
    exact h
  · rename_i hh
    rw [List.map_append, List.nodup_append]
    refine ⟨h, by simp, fun x hx y hy e => ?_⟩
    simp at hy
    subst hy e
    obtain ⟨p, hp, e⟩ := List.mem_map.mp hx
    exact hh (List.any_eq_true.mpr ⟨p, hp, decide_eq_true e⟩)
theorem look_drop (ks : KQ) (j i : Nat) : lookQ (dropQ ks j) i = if i = j then none else lookQ ks i := by
  induction ks with
  | nil => simp [lookQ, dropQ]
  | cons p ks ih =>
    simp only [lookQ, dropQ, List.filter_cons, ne_eq] at ih ⊢
    by_cases hp : p.1 = j
    · simp only [hp, not_true, decide_false, Bool.false_eq_true, if_false, ih, List.find?_cons]
      by_cases hi : i = j
      · simp [hi]
      · have : ¬ j = i := fun e => hi e.symm
        simp [hi, this]
    · simp only [hp, not_false_eq_true, decide_true, if_true, List.find?_cons]
      by_cases h3 : p.1 = i
      · have : ¬ i = j := fun e => hp (h3.trans e)
        simp [h3, this]
      · simp only [h3, decide_false]
        exact ih
theorem keys_drop (ks : KQ) (j : Nat) (h : (ks.map (·.1)).Nodup) : ((dropQ ks j).map (·.1)).Nodup := by
  unfold dropQ
  exact List.Nodup.sublist (List.Sublist.map _ List.filter_sublist) h
theorem Row.nil : Row [] fun _ => 0 := ⟨List.nodup_nil, fun j => by simp [lookQ]⟩
theorem Row.put {ks : KQ} {a : Nat → Rat} (r : Row ks a) (j : Nat) {q : Rat} (hq : q ≠ 0) : Row (putQ ks j q) fun i => if i = j then q else a i :=
  ⟨keys_put ks j q r.nd, fun i => by
    rw [look_put, r.at_]
    by_cases h : i = j
    · simp [h, hq]
    · simp [h]⟩
theorem Row.drop {ks : KQ} {a : Nat → Rat} (r : Row ks a) (j : Nat) : Row (dropQ ks j) fun i => if i = j then 0 else a i :=
  ⟨keys_drop ks j r.nd, fun i => by
    rw [look_drop, r.at_]
    by_cases h : i = j
    · simp [h]
    · simp [h]⟩
theorem Row.congr {ks : KQ} {a b : Nat → Rat} (r : Row ks a) (h : ∀ i, a i = b i) : Row ks b := by
  have : a = b := funext h
  rwa [← this]
theorem Row.get {ks : KQ} {a : Nat → Rat} (r : Row ks a) (j : Nat) : (lookQ ks j).getD 0 = a j := by
  rw [r.at_]
  by_cases h : a j = 0
  · simp [h]
  · simp [h]
theorem Row.mem {ks : KQ} {a : Nat → Rat} (r : Row ks a) {p : Nat × Rat} (hp : p ∈ ks) : a p.1 = p.2 ∧ p.2 ≠ 0 := by
  have key : lookQ ks p.1 = some p.2 := by
    have nd := r.nd
    clear r
    induction ks with
    | nil => cases hp
    | cons x ks ih =>
      rw [List.map_cons, List.nodup_cons] at nd
      simp only [lookQ, List.find?_cons] at ih ⊢
      rcases List.mem_cons.mp hp with rfl | hp
      · simp
      · have : ¬ x.1 = p.1 := fun e => nd.1 (by rw [e]; exact List.mem_map_of_mem hp)
        simp only [this, decide_false]
        exact ih hp nd.2
  rw [r.at_] at key
  by_cases h : a p.1 = 0
  · simp [h] at key
  · simp only [h, if_false, Option.some.injEq] at key
    exact ⟨key, fun z => h (by rw [key, z])⟩
end Fc
set_option exponentiation.threshold 256
set_option maxHeartbeats 4000000
set_option maxHeartbeats 4000000
namespace Fc
open PySem L2
structure PyE {α : Type} [DecidableEq α] (k : Nat) (e : α → Dv) (p : α → PyData) : Prop where
  py : ∀ a r, (e a).pyW r = some (p a)
  dep : ∀ a, (p a).depth ≤ k
  lay : ∀ a, (p a).canLay0 = true
  eqv : ∀ a b, PyData.eqv (p a) (p b) = decide (a = b)
section
variable {α β γ : Type} [DecidableEq α] [DecidableEq β] [DecidableEq γ] {e : α → Dv} {e' : β → Dv} {e3 : γ → Dv} {p : α → PyData} {q : β → PyData} {p3 : γ → PyData} {k j l : Nat}
theorem py_int : PyE 1 Dv.int PyData.int := ⟨fun _ _ => rfl, fun _ => by simp [PyData.depth], fun _ => by simp [PyData.canLay0], fun a b => by simp [PyData.eqv]; rfl⟩
theorem pys_of (P : PyE k e p) (r : Nat → Option PyData) : ∀ xs : List α, Dv.pysW r (xs.map e) = some (xs.map p)
  | [] => rfl
  | x :: xs => by simp only [List.map_cons, Dv.pysW, P.py, pys_of P r xs]
theorem eqvAll_of (P : PyE k e p) : ∀ xs ys : List α, PyData.eqvAll (xs.map p) (ys.map p) = decide (xs = ys)
  | [], [] => by simp [PyData.eqvAll]
  | [], _ :: _ => by simp [PyData.eqvAll]
  | _ :: _, [] => by simp [PyData.eqvAll]
  | x :: xs, y :: ys => by
    simp only [List.map_cons, PyData.eqvAll, P.eqv, eqvAll_of P xs ys, List.cons.injEq, Bool.decide_and]
theorem layAll_of (P : PyE k e p) : ∀ xs : List α, PyData.canLayAll0 (xs.map p) = true
  | [] => rfl
  | x :: xs => by simp [PyData.canLayAll0, P.lay, layAll_of P xs]
theorem depAll_of (P : PyE k e p) : ∀ xs : List α, PyData.depthAll (xs.map p) ≤ k
  | [] => by simp [PyData.depthAll]
  | x :: xs => by
    have := P.dep x
    have := depAll_of P xs
    simp only [List.map_cons, PyData.depthAll]
    omega
theorem py_L (P : PyE k e p) : PyE (k + 1) (encL e) fun xs => .list (xs.map p) := ⟨fun xs r => by simp only [encL, Dv.pyW, pys_of P, Option.map_some], fun xs => by have := depAll_of P xs; simp only [PyData.depth]; omega, fun xs => by simp [PyData.canLay0, layAll_of P],
  fun a b => by simp only [PyData.eqv, eqvAll_of P]⟩
theorem py_P (P : PyE k e p) (Q : PyE j e' q) : PyE (max k j + 1) (encP e e') fun x => .tuple [p x.1, q x.2] := ⟨fun x r => by simp only [encP, Dv.pyW, Dv.pysW, P.py, Q.py, Option.map_some], fun x => by have := P.dep x.1; have := Q.dep x.2; simp only [PyData.depth, PyData.depthAll]; omega,
  fun x => by simp [PyData.canLay0, PyData.canLayAll0, P.lay, Q.lay], fun a b => by
    simp only [PyData.eqv, PyData.eqvAll, P.eqv, Q.eqv, Bool.and_true]
    rw [← Bool.decide_and]
    congr 1
    rw [Prod.ext_iff]⟩
theorem shaped_of (P : PyE k e p) (hk : k ≤ 64) (a : α) : SeqAt.shaped (p a) = true := by
  have := P.dep a
  simp only [SeqAt.shaped, P.lay, Bool.true_and, decide_eq_true_eq]
  omega
theorem eqD_py {x y : Dv} {S : Sto} {u v : PyData} (h1 : x.py S = some u) (h2 : y.py S = some v) (s1 : SeqAt.shaped u = true) (s2 : SeqAt.shaped v = true) : eqD x y S = some (PyData.eqv u v) := by
  unfold eqD
  split
  · cases h1; cases h2; simp only [PyData.eqv]; rfl
  · cases h1; cases h2; simp only [PyData.eqv]; rfl
  · cases h1; cases h2; simp only [PyData.eqv]; rfl
  · rw [h1, h2]
    simp only [s1, s2, Bool.and_self, if_true]
theorem PyE.eqE (P : PyE k e p) (hk : k ≤ 64 := by decide) : EqE e := ⟨fun a b S => by rw [eqD_py (P.py a _) (P.py b _) (shaped_of P hk a) (shaped_of P hk b), P.eqv]⟩
theorem py_seen (P : PyE k e p) {S : Sto} {d : Dv} {xs : List α} (h : listOf S d = some (xs.map e)) : d.py S = some (.list (xs.map p)) := by
  cases d with
  | fz ds =>
    cases h
    simp only [Dv.py, Dv.pyW, pys_of P, Option.map_some]
  | ref n =>
    rw [list_ref] at h
    split at h
    · rename_i ds e1
      cases h
      simp only [Dv.py, Dv.pyW, pyRef, e1, pys_of P, Option.map_some]
    · cases h
  | _ => cases h
theorem o_eqL {e : α → Dv} {p : α → PyData} (P : PyE k e p) (hk : k ≤ 63) (a b : List α) (S : Sto) (x y : Dv) (h1 : sl e a S x) (h2 : sl e b S y) : OpR2 (opEq x y S) S (.ok (decide (a = b))) (vl Dv.bl) := by
  have q1 := py_seen P h1
  have q2 := py_seen P h2
  have P2 := py_L P
  refine ⟨_, ?_, rfl⟩
  simp only [opEq, eqD_py q1 q2 (shaped_of P2 (by omega) a) (shaped_of P2 (by omega) b), Option.map_some]
  rw [P2.eqv a b]
theorem o_neL {e : α → Dv} {p : α → PyData} (P : PyE k e p) (hk : k ≤ 63) (a b : List α) (S : Sto) (x y : Dv) (h1 : sl e a S x) (h2 : sl e b S y) : OpR2 (opNe x y S) S (.ok (!decide (a = b))) (vl Dv.bl) := by
  have q1 := py_seen P h1
  have q2 := py_seen P h2
  have P2 := py_L P
  refine ⟨_, ?_, rfl⟩
  simp only [opNe, eqD_py q1 q2 (shaped_of P2 (by omega) a) (shaped_of P2 (by omega) b), Option.map_some]
  rw [P2.eqv a b]
end
theorem py_fr : PyE 2 fr fun q => .tuple [.int q.num, .int q.den] := ⟨fun x r => by simp only [fr, Dv.pyW, Dv.pysW, Option.map_some], fun x => by simp [PyData.depth, PyData.depthAll], fun x => by simp [PyData.canLay0, PyData.canLayAll0], fun a b => by
  simp only [PyData.eqv, PyData.eqvAll, Bool.and_true]
  rw [Bool.eq_iff_iff]
  simp only [Bool.and_eq_true, beq_iff_eq, decide_eq_true_eq]
  constructor
  · rintro ⟨h1, h2⟩
    exact Rat.ext h1 (by omega)
  · rintro rfl
    exact ⟨rfl, rfl⟩⟩
section
variable {fx : Fx} {Γ : Cxt} {f g : DE} {α β γ : Type}
theorem xe_frP {ma : M Rat} {m : M (Int × Int)} (h : XE fx Γ f ma (vl fr)) (hm : (ma.bd fun q => .ok (q.num, (q.den : Int))) = m := by first | rfl | simp only [M.bd_assoc, M.bd_ok]) : XE fx Γ f m (vl (encP Dv.int Dv.int)) := xe_as h (fun q => .ok (q.num, (q.den : Int))) (fun a S d h => h) hm
theorem xe_fr0 {ma : M Rat} {m : M Int} (h : XE fx Γ f ma (vl fr)) (hm : (ma.bd fun q => .ok q.num) = m := by first | rfl | simp only [M.bd_assoc, M.bd_ok]) : XE fx Γ (eOp opIx f (eC (.int 0))) m (vl Dv.int) :=
  xe_ixc h (fun a S x h => by
    cases h
    exact ⟨_, by simp only [fr, ix_tup, at0], rfl⟩) hm
theorem xe_fr1 {ma : M Rat} {m : M Int} (h : XE fx Γ f ma (vl fr)) (hm : (ma.bd fun q => .ok (q.den : Int)) = m := by first | rfl | simp only [M.bd_assoc, M.bd_ok]) : XE fx Γ (eOp opIx f (eC (.int 1))) m (vl Dv.int) :=
  xe_ixc h (fun a S x h => by
    cases h
    exact ⟨_, by simp only [fr, ix_tup, at1], rfl⟩) hm
open Classical in
noncomputable def mkFr (p : Int × Int) : M Rat := if h : ∃ q : Rat, q.num = p.1 ∧ (q.den : Int) = p.2 then .ok (Classical.choose h) else .no
theorem mkFr_q (q : Rat) : mkFr (q.num, (q.den : Int)) = .ok q := by
  have h : ∃ q' : Rat, q'.num = q.num ∧ (q'.den : Int) = q.den := ⟨q, rfl, rfl⟩
  unfold mkFr
  rw [dif_pos h]
  have := Classical.choose_spec h
  congr 1
  exact Rat.ext this.1 (by omega)
theorem xe_mkFr {ma : M (Int × Int)} {m : M Rat} (h : XE fx Γ f ma (vl (encP Dv.int Dv.int))) (hm : (ma.bd mkFr) = m := by first | rfl | simp only [M.bd_assoc, M.bd_ok]) : XE fx Γ f m (vl fr) := xe_as h mkFr (fun a S d h => by
  cases h
  by_cases h0 : ∃ q : Rat, q.num = a.1 ∧ (q.den : Int) = a.2
  · have := Classical.choose_spec h0
    unfold mkFr
    rw [dif_pos h0]
    show encP Dv.int Dv.int a = fr _
    simp only [encP, fr, this.1, this.2]
  · unfold mkFr
    rw [dif_neg h0]
    trivial) hm
def dInt (d : Dv) : M Int := match d with
  | .int i => .ok i
  | _ => .no
theorem xe_dInt {ma : M Dv} {m : M Int} (h : XE fx Γ f ma (vl encD)) (hm : (ma.bd dInt) = m := by first | rfl | simp only [M.bd_assoc, M.bd_ok]) : XE fx Γ f m (vl Dv.int) := xe_as h dInt (fun a S d h => by
  cases h
  cases a <;> first | trivial | rfl) hm
def dSeq (d : Dv) : M (List Dv) := match d with
  | .tup ds => .ok ds
  | _ => .no
theorem xe_dSeq {ma : M Dv} {m : M (List Dv)} (h : XE fx Γ f ma (vl encD)) (hm : (ma.bd dSeq) = m := by first | rfl | simp only [M.bd_assoc, M.bd_ok]) : XE fx Γ f m (vl (encT encD)) := xe_as h dSeq (fun a S d h => by
  cases h
  cases a with
  | tup ds => simp only [dSeq]; show Dv.tup ds = encT encD ds; rw [show encT encD ds = Dv.tup (ds.map id) from rfl, List.map_id]
  | _ => trivial) hm
def lt {α ω : Type} (v : α) (k : α → M ω) : M ω := k v
@[simp] theorem lt_eq {α ω : Type} (v : α) (k : α → M ω) : lt v k = k v := rfl
variable {i n : Nat} {rest b1 b2 body : DS} {ω σ τ ι : Type} {Q : Post ω} {t : DT} {fi : DI}
theorem w_set (i : Nat) {mf : M α} {e : α → Dv} {k : α → M ω} (h : XE fx Γ f mf (vl e)) (hk : ∀ a, Wp fx ((i, .val (e a)) :: del i Γ) rest (k a) Q) (hi : i < fx.N := by decide)
    (sf : Safe fx Γ mf := by first | exact safe_ok | exact safe_nil | exact safe_gd | exact safe_ix | exact safe_one (j := 0) rfl | exact safe_inst) : Wp fx Γ (cSeq (cSet i f) rest) (mf.bd k) Q := wp_set i h hk rfl hi sf
theorem w_setT (i : Nat) {v : α} {e : α → Dv} {k : α → M ω} (h : XE fx Γ f (.ok v) (vl e)) (hk : ∀ a, Wp fx ((i, .val (e a)) :: del i Γ) rest (k a) Q) (hi : i < fx.N := by decide) : Wp fx Γ (cSeq (cSet i f) rest) (lt v k) Q := wp_set i h hk rfl hi safe_ok
theorem w_par (i j : Nat) {f2 : DE} {m1 : M α} {m2 : M β} {e : α → Dv} {e' : β → Dv} {k : α → β → M ω} (h1 : XE fx Γ f m1 (vl e)) (h2 : XE fx Γ f2 m2 (vl e')) (hk : ∀ a b, Wp fx ((j, .val (e' b)) :: del j ((i, .val (e a)) :: del i Γ)) rest (k a b) Q)
    (hi : i < fx.N := by decide) (hj : j < fx.N := by decide)
    (sf : Safe fx Γ m1 := by first | exact safe_ok | exact safe_nil | exact safe_gd | exact safe_ix | exact safe_one (j := 0) rfl | exact safe_inst) (sf2 : Safe fx Γ m2 := by first | exact safe_ok | exact safe_nil | exact safe_gd | exact safe_ix | exact safe_one (j := 0) rfl | exact safe_inst) :
    Wp fx Γ (cSeq (cPar i j (lCons f (lCons f2 lNil))) rest) (m1.bd fun a => m2.bd fun b => k a b) Q := wp_par i j h1 h2 hk rfl hi hj sf sf2
theorem w_parT (i j : Nat) {f2 : DE} {v1 : α} {v2 : β} {e : α → Dv} {e' : β → Dv} {k : α → β → M ω} (h1 : XE fx Γ f (.ok v1) (vl e)) (h2 : XE fx Γ f2 (.ok v2) (vl e')) (hk : ∀ a b, Wp fx ((j, .val (e' b)) :: del j ((i, .val (e a)) :: del i Γ)) rest (k a b) Q)
    (hi : i < fx.N := by decide) (hj : j < fx.N := by decide) :
    Wp fx Γ (cSeq (cPar i j (lCons f (lCons f2 lNil))) rest) (lt (v1, v2) fun p => k p.1 p.2) Q := wp_par i j h1 h2 hk rfl hi hj safe_ok safe_ok
theorem w_if {mt : M Bool} {m1 m2 : M ω} (ht : XT fx Γ t mt) (h1 : Wp fx Γ (cSeq b1 rest) m1 Q) (h2 : Wp fx Γ (cSeq b2 rest) m2 Q) (sf : Safe fx Γ mt := by first | exact safe_ok | exact safe_nil | exact safe_gd | exact safe_ix | exact safe_one (j := 0) rfl | exact safe_inst) :
    Wp fx Γ (cSeq (cIf t b1 b2) rest) (mt.bd fun c => if c then m1 else m2) Q := wp_if ht h1 h2 rfl sf
theorem w_ifT {c : Bool} {m1 m2 : M ω} (ht : XT fx Γ t (.ok c)) (h1 : Wp fx Γ (cSeq b1 rest) m1 Q) (h2 : Wp fx Γ (cSeq b2 rest) m2 Q) : Wp fx Γ (cSeq (cIf t b1 b2) rest) (if c then m1 else m2) Q := wp_if ht h1 h2 rfl safe_ok
theorem w_retF {mf : M β} {e : β → Dv} (h : XE fx Γ f mf (vl e)) (hU : Unc fx Γ := by exact unc_nil) : Wp fx Γ (cSeq (cRet f) rest) mf (PF e) := wp_ret to_pf h (by cases mf <;> rfl) hU
theorem w_retTF {v : β} {e : β → Dv} (h : XE fx Γ f (.ok v) (vl e)) (hU : Unc fx Γ := by exact unc_nil) : Wp fx Γ (cSeq (cRet f) rest) (.ok v) (PF e) := wp_ret to_pf h rfl hU
theorem w_forST {tg : Tg} {xs : List α} {e : α → Dv} {ns : List Nat} (view : σ → Cxt) {bm : σ → α → M σ} {s0 : σ} {Γ' : σ → α → Cxt} {k : σ → M ω} (hi : XI fx Γ fi (.ok xs) e (some ns)) (h0 : subs (view s0) Γ) (hd : ∀ s, deps ns Γ (view s)) (hb : ∀ s, Bnd fx tg e (view s) (Γ' s))
    (hw : ∀ s x, Wp fx (Γ' s x) body (bm s x) (PS fx view)) (hk : ∀ s, Wp fx (view s) rest (k s) Q) : Wp fx Γ (cSeq (cFor fi tg body) rest) (gl xs ((forS bm xs s0).bd k)) Q := wp_forS view bm s0 k hi h0 hd hb hw hk rfl safe_ok
theorem w_whS (view : σ → Cxt) {tm : σ → M Bool} {bm : σ → M σ} {s0 : σ} {k : σ → M ω} (h0 : subs (view s0) Γ) (ht : ∀ s, XT fx (view s) t (tm s)) (hw : ∀ s, Wp fx (view s) body (bm s) (PS fx view)) (hk : ∀ s, Wp fx (view s) rest (k s) Q)
    (sf : ∀ s, Safe fx (view s) (tm s) := by first | exact fun _ => safe_ok | exact fun _ => safe_nil | exact fun _ => safe_gd | exact fun _ => safe_ix | exact fun _ => safe_one (j := 0) rfl | exact fun _ => safe_inst) : Wp fx Γ (cSeq (cWhile t body) rest) ((whS tm bm big s0).bd k) Q := wp_whS view tm bm s0 k h0 ht hw hk rfl sf
end
section
variable {α β γ : Type} {e : α → Dv} {e' : β → Dv} {e3 : γ → Dv}
theorem pl_int (a : Int) : (Dv.int a).plain = true := rfl
theorem pl_bl (a : Bool) : (Dv.bl a).plain = true := rfl
theorem pl_fr (a : Rat) : (fr a).plain = true := rfl
end
end Fc
set_option exponentiation.threshold 256
set_option maxHeartbeats 4000000
set_option maxHeartbeats 4000000
namespace Fc
open PySem L2
section
variable {fx : Fx} {Γ : Cxt} {f g f1 f2 : DE} {t : DT} {fi : DI} {α β γ σ ω : Type} {i n : Nat} {ns : Option (List Nat)} {lo hi : DO}
structure XO (fx : Fx) (Γ : Cxt) (l : DO) (m : M (Option Int)) : Prop where
  run : ∀ B ρ S, Sat fx B Γ ρ S → match m with
    | .ok a => l ρ S = .ok a S
    | .exn c => l ρ S = .exn c S
    | .no => True
theorem b_all (a : List Bool) (S : Sto) (x : Dv) (h : sl Dv.bl a S x) : OpR2 (fAll [x] S) S (.ok (a.all id)) (vl Dv.bl) := by
  have h' : listOf S x = some (a.map Dv.bl) := h
  exact ⟨_, by simp only [fAll, h', blsOf_map], rfl⟩
end
end Fc
set_option exponentiation.threshold 256
set_option maxHeartbeats 4000000
set_option maxHeartbeats 4000000
namespace Fc
open PySem L2
section
variable {fx : Fx} {Γ : Cxt} {f g f1 f2 fo : DE} {t u : DT} {fi : DI} {α β γ σ τ ω : Type} {i n : Nat} {rest b b1 b2 : DS} {Q : Post ω} {l : DL}
structure XF {α ω : Type} (fx : Fx) (Γ : Cxt) (f : DE) (e : α → Dv) (m : M ω) (K : Cxt → α → M ω → Prop) : Prop where
  run : ∀ B ρ S, Sat fx B Γ ρ S → m = .no ∨ (∃ c G, m = .exn c ∧ f ρ S = .exn c (B ++ G)) ∨ ∃ a S' Γ', f ρ S = .ok (e a) S' ∧ Sat fx B Γ' ρ S' ∧ K Γ' a m
structure XG {ω : Type} (fx : Fx) (Γ : Cxt) (t : DT) (m : M ω) (K : Cxt → Bool → M ω → Prop) : Prop where
  run : ∀ B ρ S, Sat fx B Γ ρ S → m = .no ∨ (∃ c G, m = .exn c ∧ t ρ S = .exn c (B ++ G)) ∨ ∃ a S' Γ', t ρ S = .ok a S' ∧ Sat fx B Γ' ρ S' ∧ K Γ' a m
def SimB {β τ : Type} (r : Res Dv) (S : Sto) (n : Nat) (m : M (β × τ)) (e : β → Dv) (ob : τ → Ob) : Prop := match m with
  | .ok p => r = .ok (e p.1) (S.set n (ob p.2))
  | .exn c => r = .exn c S
  | .no => True
theorem SimB.bd {r : Res Dv} {S : Sto} {m : M α} {R : Rn α} {k : Dv → Sto → Res Dv} {km : α → M (β × τ)} {e : β → Dv} {ob : τ → Ob} (h : Sim r S m R) (hk : ∀ a d, R a S d → SimB (k d S) S n (km a) e ob) : SimB (r.bd k) S n (m.bd km) e ob := by
  cases m with
  | ok a => obtain ⟨d, h1, h2⟩ := h; rw [h1]; exact hk a d h2
  | exn c => rw [show r = .exn c S from h]; rfl
  | no => trivial
inductive HdW {β : Type} (e : β → Dv) : List (Nat × DS) → List (Nat × β) → Prop
  | nil : HdW e [] []
  | cons {cl : Nat} {v : β} {d : Dv} {g : DS} {l : List (Nat × DS)} {r : List (Nat × β)} (h : d = e v) : HdW e l r → HdW e ((cl, cSeq (cRet (eC d)) g) :: l) ((cl, v) :: r)
end
end Fc
set_option exponentiation.threshold 256
set_option maxHeartbeats 4000000
set_option maxHeartbeats 4000000
namespace Fc
open PySem L2
section
variable {X : Cx} {C : Nat → Addr} {W : WX}
end
end Fc
set_option exponentiation.threshold 256
set_option maxHeartbeats 4000000
set_option maxHeartbeats 4000000
namespace Fc
open PySem L2
section
variable {X : Cx} {C : Nat → Addr} {K : PySem.W.Frag} {H : Hp} {μ : Mu}
end
end Fc
set_option exponentiation.threshold 256
set_option maxHeartbeats 4000000
set_option maxHeartbeats 4000000
namespace Fc
open PySem L2
section
variable {fx : Fx} {Γ : Cxt} {f g : DE}
end
end Fc
set_option exponentiation.threshold 256
set_option maxHeartbeats 4000000
set_option maxHeartbeats 4000000
namespace Fc
open PySem L2
inductive Odd where
  | non | bl (b : Bool) | int (i : Int) | str (x : Str) | tup (l : List Odd) | lst (l : List Odd) | dct
  deriving Inhabited
def Odd.ty : Odd → Ty
  | .non => .non | .bl _ => .bl | .int _ => .int | .str _ => .str | .tup _ => .tup | .lst _ => .lst | .dct => .dic
section
variable {fx : Fx} {Γ : Cxt} {f g f1 f2 fa fb fc : DE} {α β γ : Type}
theorem xe_chainM {o1 o2 : Op2} {a : α} {mb : M β} {c : γ} {ea : α → Dv} {eb : β → Dv} {ec : γ → Dv} {p1 : α → β → Bool} {p2 : β → γ → Bool} {m : M Bool} (h1 : ∀ a b S x y, vl ea a S x → vl eb b S y → OpR2 (o1 x y S) S (.ok (p1 a b)) (vl Dv.bl)) (h2 : ∀ a b S x y, vl eb a S x → vl ec b S y → OpR2 (o2 x y S) S (.ok (p2 a b)) (vl Dv.bl))
    (ha : XE fx Γ fa (.ok a) (vl ea)) (hb : XE fx Γ fb mb (vl eb)) (hc : XE fx Γ fc (.ok c) (vl ec)) (hm : (mb.bd fun b => .ok (p1 a b && p2 b c)) = m := by first | rfl | simp only [M.bd_assoc, M.bd_ok]) : XE fx Γ (eChain o1 o2 fa fb fc) m (vl Dv.bl) := ⟨fun B ρ S s => by
  subst hm
  obtain ⟨x, q1, r1⟩ := ha.run B ρ S s
  have r2 := hb.run B ρ S s
  obtain ⟨z, q3, r3⟩ := hc.run B ρ S s
  cases mb with
  | no => trivial
  | exn cc =>
    show eChain o1 o2 fa fb fc ρ S = _
    simp only [eChain, q1, Res.bd_ok, show fb ρ S = .exn cc S from r2, Res.bd_exn]
  | ok b =>
    obtain ⟨y, q2, r2⟩ := r2
    obtain ⟨d, e1, e2⟩ := h1 a b S x y r1 r2
    obtain ⟨d', e3, e4⟩ := h2 b c S y z r2 r3
    cases e2; cases e4
    refine ⟨.bl (p1 a b && p2 b c), ?_, rfl⟩
    simp only [eChain, q1, q2, Res.bd_ok, e1, ofO]
    cases p1 a b with
    | true => simp only [q3, Res.bd_ok, e3, ofO, Bool.true_and]
    | false => rfl⟩
section
variable {δ : Type} {e0 : α → Dv} {e1 : β → Dv} {e2 : γ → Dv} {e3 : δ → Dv}
end
end
end Fc
set_option exponentiation.threshold 256
set_option maxHeartbeats 4000000
set_option maxHeartbeats 4000000
namespace Fc
open PySem L2
section
variable {X : Cx} {C : Nat → Addr} {W : WX} {e o i a b value : Expr} {fk fv : DE} {pos : Pos}
def eD1 (fk fv : DE) : DE := fun ρ S => (fk ρ (S ++ [.dic []])).bd fun y S2 => (fv ρ S2).bd fun x S3 => match keyOf y, S3[S.length]? with
  | some k, some (.dic []) => .ok (.ref S.length) (S3.set S.length (.dic [(k, x)]))
  | _, _ => .stuck
theorem se_d1 (hk : SE X C W e fk) (hv : SE X C W value fv) : SE X C W (.Dict [some e] [value] pos) (eD1 fk fv) := by
  refine ⟨pe_imp (pe_disp (pps_cons hk.pe hv.pe pps_nil) rfl rfl (by simp) (by simp)) fun σ H Q q => ?_⟩
  obtain ⟨μ, ρ, S, rl, q⟩ := q
  intro p hp
  have s1 : SR X.K C (μ.add p) (S ++ [.dic []]) (L2.upd H p (.dK [])) := rl.sr.alloc hp ⟨[], rfl, rfl⟩
  have af := rl.sr.alloc_aft (ho := .dK []) hp
  have ap : (μ.add p).tr[S.length]? = some p := by
    show (μ.tr ++ [p])[S.length]? = some p
    rw [List.getElem?_append_right (by rw [rl.sr.len]; exact Nat.le_refl _), rl.sr.len]
    simp
  have rl1 := rl.next af s1
  have q' : tR X.K C W (PV X.K) (eD1 fk fv ρ S) (μ.add p) σ (L2.upd H p (.dK [])) Q := tR.aft q af
  refine ⟨μ.add p, ρ, _, rl1, (tR.bd q').imp fun y H1 q1 => ?_⟩
  obtain ⟨μ1, S1, dy, a1, s2, vy, q1⟩ := q1
  refine ⟨μ1, ρ, S1, rl1.next a1 s2, (tR.bd q1).imp fun x H2 q2 => ?_⟩
  obtain ⟨μ2, S2, dx, a2, s3, vx, q2⟩ := q2
  show H2 p = some (.dK []) ∧ _
  split at q2
  · rename_i k e1 e2
    have ap2 := (a1.trans a2).at ap
    obtain ⟨ho, e3, kws, rfl, r⟩ := s3.ob _ _ p e2 ap2
    cases (show kws = [] from r)
    refine ⟨e3, [(k, x)], ?_, by simp, ?_⟩
    · have : y = kV k := keyOf_V e1 vy
      rw [this]
      rfl
    · have so : Soft (H2 p) := by rw [e3]; exact True.intro
      have af2 := s3.put_aft (ho := .dK [(k, x)]) ap2 so
      have s4 : SR X.K C μ2 (S2.set S.length (.dic [(k, dx)])) (L2.upd H2 p (.dK [(k, x)])) := s3.put (o := .dic [(k, dx)]) ap2 so ⟨[(k, x)], rfl, ⟨x, [], rfl, vx.mono af2, rfl⟩⟩
      exact q2 μ2 _ _ af2 s4 (VR_ref.mpr ⟨p, ap2, rfl⟩)
  · exact q2.elim
end
section
variable {K : PySem.W.Frag} {C : Nat → Addr} {H : Hp} {μ : Mu} {S : Sto} {n : Nat}
theorem rsvK_ok (sr : SR K C μ S H) {k : Nat} {v : V} {kvs kvs' : List (Key × Dv)} (e1 : S[k]? = some (.dic kvs)) (hk : ¬ k < n) (e2 : Dv.rsvk (rsvR n S 6) kvs = some kvs') (h : VR K H μ (.ref k) v) : VR K H (μ.cut n) (.dct kvs') v := by
  obtain ⟨a, ha, rfl⟩ := VR_ref.mp h
  have out : (μ.cut n).out a := by
    refine ⟨fun hm => ?_, fun hm => ?_⟩
    · obtain ⟨i, ei⟩ := List.getElem?_of_mem (show a ∈ μ.tr.take n from hm)
      rw [List.getElem?_take] at ei
      split at ei
      · rename_i hi
        have := SR.put.nodup_ix' sr.nd ei ha
        omega
      · cases ei
    · exact sr.apart a hm (List.mem_of_getElem? ha)
  obtain ⟨ho, e3, kws, rfl, r⟩ := sr.ob k _ a e1 ha
  exact VR_dct.mpr ⟨a, kws, rfl, out, e3, rsvk_of (rsvR_ok sr 6) e2 (VRk_KRs.mpr r)⟩
end
open Classical in
noncomputable def tidyK (S : Sto) (r : Res Dv) : Res Dv := match r with
  | .ok (.ref k) S' => if Kept S (S'.take S.length) ∧ ¬ k < S.length then (match S'[k]? with
    | some (.dic kvs) => (match Dv.rsvk (rsvR S.length S' 6) kvs with
      | some kvs' => .ok (.dct kvs') (S'.take S.length)
      | none => .ok (.ref k) S')
    | _ => tidy S r) else tidy S r
  | _ => tidy S r
theorem tidyK_go {K : PySem.W.Frag} {C : Nat → Addr} {S : Sto} {r : Res Dv} {μ : Mu} {H : Hp} {W : WX} {σ : L2.St} {Q : VK} (s0 : SR K C μ S H) (q : tR K C W (PV K) (tidyK S r) μ σ H Q) : tR K C W (PV K) r μ σ H Q := by
  unfold tidyK at q
  split at q
  · rename_i k S'
    split at q
    · rename_i hk
      split at q
      · rename_i kvs e1
        split at q
        · rename_i kvs' e2
          intro μ' H' v a s vr
          have hc : μ'.cut S.length = μ := by
            obtain ⟨ν, e1, _⟩ := a.aw.pre
            cases μ
            simp only [Mu.cut, e1, a.hid]
            rw [List.take_left' s0.len]
          have vr' := rsvK_ok (n := S.length) s e1 hk.2 e2 vr
          rw [hc] at vr'
          exact q μ H' v a.cut (s0.cut a s hk.1) vr'
        · exact q
      · exact tidy_go s0 q
    · exact tidy_go s0 q
  · exact tidy_go s0 q
noncomputable def runD (n : Nat) (body : DS) : Den := fun args S => tidyK S (runB n body args S)
theorem Df.tidyK {P : Program} {w : World} {K : PySem.W.Frag} {mg : Str → Option Value} {base : Heap} {C : Nat → Addr} {x : Str} {n k m : Nat} {body : DS} (F : Df P w K mg base C x n k (runB m body)) : Df P w K mg base C x n k (runD m body) :=
  F.imp fun _ _ _ _ _ _ sr q => tidyK_go sr q
theorem tidyK_dic {S : Sto} {kvs : List (Key × Dv)} (h : Dv.plaink kvs = true) {G : Sto} {j : Nat} (hj : G[j]? = some (.dic kvs)) : tidyK S (.ok (.ref (S.length + j)) (S ++ G)) = .ok (.dct kvs) S := by
  have e : (S ++ G)[S.length + j]? = some (.dic kvs) := by
    rw [List.getElem?_append_right (Nat.le_add_right _ _), Nat.add_sub_cancel_left]
    exact hj
  have hn : ¬ (S.length + j < S.length) := by omega
  have ht : (S ++ G).take S.length = S := List.take_left' rfl
  simp only [tidyK, ht]
  rw [if_pos ⟨by rw [ht]; exact Kept.refl S, hn⟩]
  simp only [e, plaink_rsv _ kvs h]
end Fc
set_option exponentiation.threshold 256
set_option maxHeartbeats 4000000
set_option maxHeartbeats 4000000
namespace Fc
open PySem L2
section
variable {α β : Type}
def encKv (e : α → Dv) (l : List (Int × α)) : List (Key × Dv) := l.map fun p => (Sum.inl p.1, e p.2)
end
section
variable {fx : Fx} {Γ : Cxt} {f g fa fb fk fv : DE} {α β ω : Type} {i n : Nat} {rest : DS} {Q : Post ω}
def dq {α : Type} (e : α → Dv) : Rn (List (Int × α)) := fun l S d => dicOf S d = some (encKv e l)
end
end Fc
set_option exponentiation.threshold 256
set_option maxHeartbeats 4000000
set_option maxHeartbeats 4000000
namespace Fc
open PySem L2
section
variable {fx : Fx} {Γ : Cxt} {f g f1 f2 : DE} {α β γ τ : Type}
theorem bnd_fr {t1 t2 : Tg} {Γ1 : Int → Cxt} {Γ2 : Int → Int → Cxt} (h1 : Bnd fx t1 Dv.int Γ Γ1) (h2 : ∀ a, Bnd fx t2 Dv.int (Γ1 a) (Γ2 a)) : Bnd fx (.tp [t1, t2]) fr Γ fun q => Γ2 q.num (q.den : Int) := ⟨fun B ρ S a s => by
  obtain ⟨ρ1, q1, s1⟩ := h1.go B ρ S a.num s
  obtain ⟨ρ2, q2, s2⟩ := (h2 a.num).go B ρ1 S (a.den : Int) s1
  exact ⟨ρ2, by simp only [fr, asg_tp, asgs_cons, q1, q2, Option.bind_some, asgs_nil], s2⟩⟩
end
end Fc
set_option exponentiation.threshold 256
set_option maxHeartbeats 4000000
set_option maxHeartbeats 4000000
namespace Fc
open PySem L2
section
variable {fx : Fx} {Γ : Cxt} {f : DE} {fi : DI} {α β γ σ τ ω κ : Type} {n : Nat} {rest body : DS} {Q : Post ω}
end
end Fc
set_option exponentiation.threshold 256
set_option maxHeartbeats 4000000
set_option maxHeartbeats 4000000
namespace Fc
open PySem L2
section
variable {fx : Fx} {Γ : Cxt} {f : DE} {α β γ : Type}
end
end Fc
set_option exponentiation.threshold 256
set_option maxHeartbeats 4000000
set_option maxHeartbeats 4000000
namespace Fc
open PySem L2
section
variable {fx : Fx} {Γ : Cxt} {f : DE} {rest : DS} {α β ω : Type} {Q : Post ω}
theorem w_parT2 (i j : Nat) {f2 : DE} {v1 : α} {v2 : β} {e : α → Dv} {e' : β → Dv} {k : α × β → M ω} (h1 : XE fx Γ f (.ok v1) (vl e)) (h2 : XE fx Γ f2 (.ok v2) (vl e')) (hk : ∀ a b, Wp fx ((j, .val (e' b)) :: del j ((i, .val (e a)) :: del i Γ)) rest (k (a, b)) Q)
    (hi : i < fx.N := by decide) (hj : j < fx.N := by decide) :
    Wp fx Γ (cSeq (cPar i j (lCons f (lCons f2 lNil))) rest) (lt (v1, v2) k) Q := w_parT (k := fun a b => k (a, b)) i j h1 h2 hk hi hj
end
end Fc
set_option exponentiation.threshold 256
set_option maxHeartbeats 4000000
set_option maxHeartbeats 4000000
namespace Fc
open PySem L2
section
variable {α β σ τ : Type}
theorem gl_ok {xs : List α} {m : M β} (h : xs.length ≤ lim) : gl xs m = m := by simp [gl, gd, h]
theorem gl_100 {xs : List α} {m : M β} (h : xs.length ≤ 1000) : gl xs m = m := gl_ok (Nat.le_trans h (by decide))
theorem filM_ok {c : α → M Bool} {f : α → M β} (p : α → Bool) (h : α → β) : ∀ {xs : List α}, (∀ x ∈ xs, c x = .ok (p x) ∧ (p x = true → f x = .ok (h x))) → filM c f xs = .ok ((xs.filter p).map h)
  | [], _ => rfl
  | x :: xs, hx => by
    obtain ⟨h1, h2⟩ := hx x List.mem_cons_self
    have ih := filM_ok p h fun y hy => hx y (List.mem_cons_of_mem _ hy)
    simp only [filM, h1, M.bdN_ok]
    cases hp : p x with
    | true => simp [h2 hp, ih, List.filter_cons_of_pos hp]
    | false => simp [ih, List.filter_cons_of_neg, hp]
theorem forS_inv {b : σ → α → M σ} (Inv : List α → σ → Prop) : ∀ {xs : List α} {s0 : σ}, Inv [] s0 → (∀ pre x post s, xs = pre ++ x :: post → Inv pre s → ∃ s', b s x = .ok s' ∧ Inv (pre ++ [x]) s') → ∃ s', forS b xs s0 = .ok s' ∧ Inv xs s' := by
  intro xs
  induction xs generalizing Inv with
  | nil => exact fun h0 _ => ⟨_, rfl, h0⟩
  | cons x xs ih =>
    intro s0 h0 step
    obtain ⟨s1, h1, h2⟩ := step [] x xs s0 rfl h0
    obtain ⟨s', h3, h4⟩ := ih (fun pre s => Inv (x :: pre) s) (by simpa using h2) fun pre y post s e hi => by
      obtain ⟨s', q1, q2⟩ := step (x :: pre) y post s (by rw [e]; rfl) hi
      exact ⟨s', q1, by simpa using q2⟩
    exact ⟨s', by simp only [forS, h1, M.bd_ok, h3], h4⟩
theorem ixM_nat {xs : List α} {j : Nat} {v : α} (h : xs[j]? = some v) : ixM xs (j : Int) = .ok v := by
  simp only [ixM, atI_nat h]
theorem modM_ok {a b : Int} (h : 0 < b) : modM a b = .ok (a % b) := by simp [modM, gd, h]
theorem divM_ok {a b : Int} (h : divOk b = true) : divM a b = .ok (a / b) := by simp [divM, gd, h]
theorem mulM_ok {a b : Int} (h : mulOk a b = true) : mulM a b = .ok (a * b) := by simp [mulM, gd, h]
theorem mulOk_small {a b : Int} (h1 : a.natAbs < 2 ^ 90) (h2 : b.natAbs < 2 ^ 90) : mulOk a b = true := mulOk_of h1 h2 (by decide) (by decide) (by decide)
theorem rng2M_ok {a b : Int} (ha : -(2 ^ 62) ≤ a ∧ a < 2 ^ 62) (hb : -(2 ^ 62) ≤ b ∧ b < 2 ^ 62) : rng2M a b = .ok (rngI a b) := by
  have h1 : rngB a = true := rngB_iff.mpr ha
  have h2 : rngB b = true := rngB_iff.mpr hb
  simp only [rng2M, h1, h2, Bool.and_self, gd, if_true]
end
end Fc
namespace Fc
open PySem L2
section
variable {α β σ τ : Type}
instance nexc_gl (xs : List α) (m : M β) [h : NexC m] : NexC (gl xs m) := nexc_gd _ m
instance nexc_mapM (f : α → M β) : ∀ xs : List α, NexC (mapM f xs)
  | [] => nexc_ok _
  | x :: xs => by
    have := nexc_mapM f xs
    unfold mapM
    infer_instance
instance nexc_filM (c : α → M Bool) (f : α → M β) : ∀ xs : List α, NexC (filM c f xs)
  | [] => nexc_ok _
  | x :: xs => by
    have := nexc_filM c f xs
    unfold filM
    infer_instance
instance nexc_forS (b : σ → α → M σ) [h : ∀ s x, NexC (b s x)] : ∀ (xs : List α) (s0 : σ), NexC (forS b xs s0)
  | [], s0 => nexc_ok _
  | x :: xs, s0 => by
    have := fun s => nexc_forS b xs s
    unfold forS
    infer_instance
instance nexc_whS (t : σ → M Bool) (b : σ → M σ) [h : ∀ s, NexC (t s)] [g : ∀ s, NexC (b s)] : ∀ (n : Nat) (s0 : σ), NexC (whS t b n s0)
  | 0, s0 => ⟨fun c z => by simp only [whS] at z; cases z⟩
  | n + 1, s0 => by
    have := fun s => nexc_whS t b n s
    unfold whS
    infer_instance
instance nexc_lt (v : α) (k : α → M β) [h : NexC (k v)] : NexC (lt v k) := h
instance nexc_rng2 (a b : Int) : NexC (rng2M a b) := nexc_gd _ _
end
end Fc
set_option exponentiation.threshold 256
set_option maxHeartbeats 4000000
set_option maxHeartbeats 4000000
namespace Fc
open PySem L2
local macro_rules | `(tactic| walk_at "fc") => `(tactic| try simp only [runB, cSeq, cNil, cRet, cRetN, cExpr, cIf, cSet, cAsg, cPar, cAug, cRaise, cStore, cPass, cWipe, wipeD, toS_ok, toS_exn, toS_stuck, Res.bd_ok, Res.bd_exn, Res.bd_stuck, Res.bdN_ok, Res.bdN_exn, Res.bdN_stuck,
  eVar, eC, eTup, eLst, eOp, eChain, eUn, eAnd, eOr, eNot, eIf, eRep, tTs, tAnd2, tOr2, tNot2, tTrue, eCall, eBi, eIsi, eMtL, eSl, oNo, oSo, lNil, lCons, iSeq, iRange1, iRange2, zAdd, zSub, zMul, zDiv, zMod, ofO, opInt, opIn, opNotIn, opEq, opNe, opIs, opIsnt, mk_t, mk_f,
  List.map_cons, List.map_nil, List.length_cons, List.length_nil, List.replicate, List.append_nil, List.nil_append, List.cons_append, List.getElem?_cons_zero, List.getElem?_cons_succ, List.getElem?_nil, List.set_cons_zero, List.set_cons_succ, List.set_nil, lm0, lm1, lm2, lm3, lm4, lm5, lm6, lm7, lm8, lm9, asg_nm, asg_tp, asgs_nil, asgs_cons, Option.bind_some, Option.bind_none, Option.map_some, Option.map_none,
  Nat.reduceSub, Nat.reduceAdd, Nat.zero_add, Nat.add_zero, Nat.sub_self, if_true, if_false, reduceIte, Bool.false_eq_true, Bool.true_eq_false, Bool.not_true, Bool.not_false, ix_tup, ix_fz, at0, at1, at2, eDNew, eDGet, eDGet2, eDIn, eDPop, cDPut, cAugS, cSub2, dic_ref, keyOf, reduceCtorEq])
local macro_rules | `(tactic| walk_at "fo") => `(tactic| try simp only [*, runB, cSeq, cNil, cRet, cRetN, cExpr, cIf, cSet, cAsg, cPar, cAug, cRaise, cStore, cPass, cWipe, wipeD, toS_ok, toS_exn, toS_stuck, Res.bd_ok, Res.bd_exn, Res.bd_stuck, Res.bdN_ok, Res.bdN_exn, Res.bdN_stuck,
  eVar, eC, eTup, eLst, eOp, eChain, eUn, eAnd, eOr, eNot, eIf, eRep, tTs, tAnd2, tOr2, tNot2, tTrue, eCall, eBi, eIsi, eMtL, eSl, oNo, oSo, lNil, lCons, iSeq, iRange1, iRange2, zAdd, zSub, zMul, zDiv, zMod, ofO, opInt, opIn, opNotIn, opEq, opNe, opIs, opIsnt, mk_t, mk_f,
  List.map_cons, List.map_nil, List.length_cons, List.length_nil, List.replicate, List.append_nil, List.nil_append, List.cons_append, List.getElem?_cons_zero, List.getElem?_cons_succ, List.getElem?_nil, List.set_cons_zero, List.set_cons_succ, List.set_nil, lm0, lm1, lm2, lm3, lm4, lm5, lm6, lm7, lm8, lm9, asg_nm, asg_tp, asgs_nil, asgs_cons, Option.bind_some, Option.bind_none, Option.map_some, Option.map_none,
  Nat.reduceSub, Nat.reduceAdd, Nat.zero_add, Nat.add_zero, Nat.sub_self, if_true, if_false, reduceIte, Bool.false_eq_true, Bool.true_eq_false, Bool.not_true, Bool.not_false, ix_tup, ix_fz, at0, at1, at2, eDNew, eDGet, eDGet2, eDIn, eDPop, cDPut, cAugS, cSub2, dic_ref, keyOf, reduceCtorEq, and_self, Bool.and_self, decide_true, decide_false, List.append_assoc, List.length_append, Nat.add_assoc, at_new, at_newk, add_fz, add_rf, add_tt, ix_ref, seq_ref, list_ref, seq_tup, seq_fz, list_fz, ix_tup, ix_fz, neg_int, app_ref, set_newk, set_new0, iZ, iEn, sl_tup, sl_fz, eLcV, len_tup, len_ref, len_fz, tuple_fz, tuple_ref, ty_non, ty_bl, ty_int, ty_str, ty_tup, ty_fz])
local macro_rules | `(tactic| walk_at "fg") => `(tactic| try simp only [*, runB, cSeq, cNil, cRet, cRetN, cExpr, cIf, cSet, cAsg, cPar, cAug, cRaise, cStore, cPass, cWipe, wipeD, toS_ok, toS_exn, toS_stuck, Res.bd_ok, Res.bd_exn, Res.bd_stuck, Res.bdN_ok, Res.bdN_exn, Res.bdN_stuck,
  eVar, eC, eTup, eLst, eOp, eChain, eUn, eAnd, eOr, eNot, eIf, eRep, tTs, tAnd2, tOr2, tNot2, tTrue, eCall, eBi, eIsi, eMtL, eSl, oNo, oSo, lNil, lCons, iSeq, iRange1, iRange2, zAdd, zSub, zMul, zDiv, zMod, ofO, opInt, opIn, opNotIn, opEq, opNe, opIs, opIsnt, mk_t, mk_f,
  List.map_cons, List.map_nil, List.length_cons, List.length_nil, List.replicate, List.append_nil, List.nil_append, List.cons_append, List.getElem?_cons_zero, List.getElem?_cons_succ, List.getElem?_nil, List.set_cons_zero, List.set_cons_succ, List.set_nil, lm0, lm1, lm2, lm3, lm4, lm5, lm6, lm7, lm8, lm9, asg_nm, asg_tp, asgs_nil, asgs_cons, Option.bind_some, Option.bind_none, Option.map_some, Option.map_none,
  Nat.reduceSub, Nat.reduceAdd, Nat.zero_add, Nat.add_zero, Nat.sub_self, if_true, if_false, reduceIte, Bool.false_eq_true, Bool.true_eq_false, Bool.not_true, Bool.not_false, ix_tup, ix_fz, at0, at1, at2, eDNew, eDGet, eDGet2, eDIn, eDPop, cDPut, cAugS, cSub2, dic_ref, keyOf, reduceCtorEq, and_self, Bool.and_self, decide_true, decide_false, List.append_assoc, List.length_append, Nat.add_assoc, at_new, at_newk, add_fz, add_rf, add_tt, ix_ref, seq_ref, list_ref, seq_tup, seq_fz, list_fz, ix_tup, ix_fz, neg_int, app_ref, set_newk, set_new0, iZ, iEn, sl_tup, sl_fz, eLcV, len_tup, len_ref, len_fz, tuple_fz, tuple_ref, ty_non, ty_bl, ty_int, ty_str, ty_tup, ty_fz])
local macro_rules | `(tactic| walk_at "fs") => `(tactic| try simp [runB, cSeq, cNil, cRet, cRetN, cExpr, cIf, cSet, cAsg, cPar, cAug, cRaise, cStore, cPass, cWipe, wipeD, toS_ok, toS_exn, toS_stuck, Res.bd_ok, Res.bd_exn, Res.bd_stuck, Res.bdN_ok, Res.bdN_exn, Res.bdN_stuck,
  eVar, eC, eTup, eLst, eOp, eChain, eUn, eAnd, eOr, eNot, eIf, eRep, tTs, tAnd2, tOr2, tNot2, tTrue, eCall, eBi, eIsi, eMtL, eSl, oNo, oSo, lNil, lCons, iSeq, iRange1, iRange2, zAdd, zSub, zMul, zDiv, zMod, ofO, opInt, opIn, opNotIn, opEq, opNe, opIs, opIsnt, mk_t, mk_f,
  List.map_cons, List.map_nil, List.length_cons, List.length_nil, List.replicate, List.append_nil, List.nil_append, List.cons_append, List.getElem?_cons_zero, List.getElem?_cons_succ, List.getElem?_nil, List.set_cons_zero, List.set_cons_succ, List.set_nil, lm0, lm1, lm2, lm3, lm4, lm5, lm6, lm7, lm8, lm9, asg_nm, asg_tp, asgs_nil, asgs_cons, Option.bind_some, Option.bind_none, Option.map_some, Option.map_none,
  Nat.reduceSub, Nat.reduceAdd, Nat.zero_add, Nat.add_zero, Nat.sub_self, if_true, if_false, reduceIte, Bool.false_eq_true, Bool.true_eq_false, Bool.not_true, Bool.not_false, ix_tup, ix_fz, at0, at1, at2, eDNew, eDGet, eDGet2, eDIn, eDPop, cDPut, cAugS, cSub2, dic_ref, keyOf, reduceCtorEq, and_self, Bool.and_self, decide_true, decide_false, List.append_assoc, List.length_append, Nat.add_assoc, at_new, at_newk, add_fz, add_rf, add_tt, ix_ref, seq_ref, list_ref, seq_tup, seq_fz, list_fz, ix_tup, ix_fz, neg_int, app_ref, set_newk, set_new0, iZ, iEn, sl_tup, sl_fz, eLcV, len_tup, len_ref, len_fz, tuple_fz, tuple_ref, ty_non, ty_bl, ty_int, ty_str, ty_tup, ty_fz, isT, eqD_int, at0, at1])
local macro_rules | `(tactic| walk_at "fh") => `(tactic| try simp [*, runB, cSeq, cNil, cRet, cRetN, cExpr, cIf, cSet, cAsg, cPar, cAug, cRaise, cStore, cPass, cWipe, wipeD, toS_ok, toS_exn, toS_stuck, Res.bd_ok, Res.bd_exn, Res.bd_stuck, Res.bdN_ok, Res.bdN_exn, Res.bdN_stuck,
  eVar, eC, eTup, eLst, eOp, eChain, eUn, eAnd, eOr, eNot, eIf, eRep, tTs, tAnd2, tOr2, tNot2, tTrue, eCall, eBi, eIsi, eMtL, eSl, oNo, oSo, lNil, lCons, iSeq, iRange1, iRange2, zAdd, zSub, zMul, zDiv, zMod, ofO, opInt, opIn, opNotIn, opEq, opNe, opIs, opIsnt, mk_t, mk_f,
  List.map_cons, List.map_nil, List.length_cons, List.length_nil, List.replicate, List.append_nil, List.nil_append, List.cons_append, List.getElem?_cons_zero, List.getElem?_cons_succ, List.getElem?_nil, List.set_cons_zero, List.set_cons_succ, List.set_nil, lm0, lm1, lm2, lm3, lm4, lm5, lm6, lm7, lm8, lm9, asg_nm, asg_tp, asgs_nil, asgs_cons, Option.bind_some, Option.bind_none, Option.map_some, Option.map_none,
  Nat.reduceSub, Nat.reduceAdd, Nat.zero_add, Nat.add_zero, Nat.sub_self, if_true, if_false, reduceIte, Bool.false_eq_true, Bool.true_eq_false, Bool.not_true, Bool.not_false, ix_tup, ix_fz, at0, at1, at2, eDNew, eDGet, eDGet2, eDIn, eDPop, cDPut, cAugS, cSub2, dic_ref, keyOf, reduceCtorEq, and_self, Bool.and_self, decide_true, decide_false, List.append_assoc, List.length_append, Nat.add_assoc, at_new, at_newk, add_fz, add_rf, add_tt, ix_ref, seq_ref, list_ref, seq_tup, seq_fz, list_fz, ix_tup, ix_fz, neg_int, app_ref, set_newk, set_new0, iZ, iEn, sl_tup, sl_fz, eLcV, len_tup, len_ref, len_fz, tuple_fz, tuple_ref, ty_non, ty_bl, ty_int, ty_str, ty_tup, ty_fz, isT, eqD_int, at0, at1])
def showOk (p : PyData) : Bool := SeqAt.shaped p && PyData.showable p && decide (p.shown.length ≤ lim)
noncomputable def b_law_same : DS :=
 (cSeq (cRet (eOp opEq (eBi fRepr (lCons (eVar 0) lNil)) (eBi fRepr (lCons (eVar 1) lNil))))
 cNil)
noncomputable def r_law_same : Den := runF 2 b_law_same
theorem repr_run {d : Dv} {S : Sto} {p : PyData} (h1 : d.py S = some p) (h3 : showOk p = true) : fRepr [d] S = some (.str p.shown, S) := by
  simp only [showOk] at h3
  simp only [fRepr, h1, h3, if_true]
theorem law_same_run {d e : Dv} {S : Sto} {p : PyData} (h1 : d.py S = some p) (h2 : e.py S = some p) (h3 : showOk p = true) : r_law_same [d, e] S = .ok (.bl true) S := by
  refine f_val0 rfl ?_ rfl
  unfold b_law_same
  walk_at "fc"
  rw [repr_run h1 h3]
  walk_at "fc"
  rw [repr_run h2 h3]
  walk_at "fc"
  simp [eqD]
mutual
def tame (k : Nat) : PyData → Bool
  | .none | .bool _ => true
  | .int i => decide (i.natAbs < 10 ^ k)
  | .str x => PyData.strOk x
  | .list xs | .tuple xs => tames k xs
  | .dict _ => false
def tames (k : Nat) : List PyData → Bool
  | [] => true
  | x :: xs => tame k x && tames k xs
end
theorem log_of {n k : Nat} (h : n < 10 ^ k) (hk : k ≤ 570) : n.log2 < 1920 := by
  have : n < 2 ^ 1900 := Nat.lt_of_lt_of_le h (Nat.le_trans (Nat.pow_le_pow_right (by decide) hk) (by
    have e : (10 : Nat) ^ 570 ≤ 2 ^ 1900 := by
      rw [show (570 : Nat) = 3 * 190 from rfl, show (1900 : Nat) = 10 * 190 from rfl, Nat.pow_mul, Nat.pow_mul]
      exact Nat.pow_le_pow_left (by decide) _
    exact e))
  have := log2_lt this (by decide)
  omega
mutual
theorem tame_ok {k : Nat} (hk : 0 < k) (h57 : k ≤ 570) : ∀ p : PyData, tame k p = true → p.canLay0 = true ∧ p.showable = true ∧ p.intsShort (k + 1) = true
  | .none, _ => ⟨rfl, rfl, rfl⟩
  | .bool _, _ => ⟨rfl, rfl, rfl⟩
  | .int i, h => by
    have h' : i.natAbs < 10 ^ k := by simpa [tame] using h
    refine ⟨rfl, ?_, ?_⟩
    · simpa [PyData.showable] using log_of h' h57
    · have e := int_text_length_le10 hk h'
      simp only [PyData.intsShort, decide_eq_true_eq]
      show (Str.ofString (toString i)).length ≤ k + 1
      rw [PySem.ofString_length]
      exact e
  | .str x, h => ⟨by simpa [PyData.canLay0, tame] using h, rfl, rfl⟩
  | .list xs, h => by simpa [PyData.canLay0, PyData.showable, PyData.intsShort] using tames_ok hk h57 xs (by simpa [tame] using h)
  | .tuple xs, h => by simpa [PyData.canLay0, PyData.showable, PyData.intsShort] using tames_ok hk h57 xs (by simpa [tame] using h)
  | .dict _, h => by simp [tame] at h
theorem tames_ok {k : Nat} (hk : 0 < k) (h57 : k ≤ 570) : ∀ ps : List PyData, tames k ps = true → PyData.canLayAll0 ps = true ∧ PyData.showableAll ps = true ∧ PyData.intsShortAll (k + 1) ps = true
  | [], _ => ⟨rfl, rfl, rfl⟩
  | p :: ps, h => by
    simp only [tames, Bool.and_eq_true] at h
    obtain ⟨a1, a2, a3⟩ := tame_ok hk h57 p h.1
    obtain ⟨b1, b2, b3⟩ := tames_ok hk h57 ps h.2
    simp [PyData.canLayAll0, PyData.showableAll, PyData.intsShortAll, *]
end
theorem showOk_of (k : Nat) {p : PyData} (h : tame k p = true) (h7 : 7 ≤ k) (h57 : k ≤ 570) (hd : p.depth ≤ 64) (hb : (k + 3) * p.bulk + (k + 1) ≤ lim) : showOk p = true := by
  obtain ⟨h1, h2, h3⟩ := tame_ok (by omega) h57 p h
  have h4 := PyData.leavesShort_of_canLay0 (k + 1) p h1 h3
  have h5 := PyData.shown_le_bulk (k + 1) (by omega) p h4
  simp only [showOk, SeqAt.shaped, h1, h2, hd, decide_true, Bool.and_self, Bool.true_and, decide_eq_true_eq]
  exact Nat.le_trans h5 hb
mutual
def Dv.flat : Dv → Option PyData
  | .non => some .none
  | .bl b => some (.bool b)
  | .int i => some (.int i)
  | .str x => some (.str x)
  | .tup ds => (Dv.flats ds).map .tuple
  | .ntp ds => (Dv.flats ds).map .tuple
  | .fz ds => (Dv.flats ds).map .list
  | .ref _ => none
  | .obj _ _ => none
  | .dct _ => none
def Dv.flats : List Dv → Option (List PyData)
  | [] => some []
  | d :: ds => match d.flat, Dv.flats ds with
    | some p, some ps => some (p :: ps)
    | _, _ => none
end
mutual
theorem flat_pyW (r : Nat → Option PyData) : ∀ (d : Dv) (p : PyData), d.flat = some p → d.pyW r = some p
  | .non, _, h => h
  | .bl _, _, h => h
  | .int _, _, h => h
  | .str _, _, h => h
  | .dct _, _, h => by simp [Dv.flat] at h
  | .tup ds, p, h => by
    simp only [Dv.flat] at h
    obtain ⟨q, h1, rfl⟩ := Option.map_eq_some_iff.mp h
    simp [Dv.pyW, flats_pysW r ds q h1]
  | .ntp ds, p, h => by
    simp only [Dv.flat] at h
    obtain ⟨q, h1, rfl⟩ := Option.map_eq_some_iff.mp h
    simp [Dv.pyW, flats_pysW r ds q h1]
  | .fz ds, p, h => by
    simp only [Dv.flat] at h
    obtain ⟨q, h1, rfl⟩ := Option.map_eq_some_iff.mp h
    simp [Dv.pyW, flats_pysW r ds q h1]
  | .ref _, _, h => by cases h
  | .obj _ _, _, h => by cases h
theorem flats_pysW (r : Nat → Option PyData) : ∀ (ds : List Dv) (ps : List PyData), Dv.flats ds = some ps → Dv.pysW r ds = some ps
  | [], _, h => h
  | d :: ds, p, h => by
    simp only [Dv.flats] at h
    split at h
    · rename_i a b e1 e2
      cases h
      simp [Dv.pysW, flat_pyW r d a e1, flats_pysW r ds b e2]
    · cases h
end
theorem flat_py {d : Dv} {p : PyData} (h : d.flat = some p) (S : Sto) : d.py S = some p := flat_pyW _ d p h
theorem flats_map {α : Type} {f : α → Dv} {g : α → PyData} : ∀ xs : List α, (∀ x ∈ xs, (f x).flat = some (g x)) → Dv.flats (xs.map f) = some (xs.map g)
  | [], _ => rfl
  | x :: xs, h => by
    have := flats_map xs fun y hy => h y (List.mem_cons_of_mem _ hy)
    simp [Dv.flats, this, h x (List.mem_cons_self ..)]
theorem bulkAll_le {c : Nat} : ∀ xs : List PyData, (∀ x ∈ xs, x.bulk ≤ c) → PyData.bulkAll xs ≤ xs.length * (c + 1)
  | [], _ => by simp [PyData.bulkAll]
  | x :: xs, h => by
    have h1 := bulkAll_le xs fun y hy => h y (List.mem_cons_of_mem _ hy)
    have h2 := h x (List.mem_cons_self ..)
    simp only [PyData.bulkAll, List.length_cons, Nat.add_mul]
    omega
theorem depthAll_le {c : Nat} : ∀ xs : List PyData, (∀ x ∈ xs, x.depth ≤ c) → PyData.depthAll xs ≤ c
  | [], _ => by simp [PyData.depthAll]
  | x :: xs, h => by
    have h1 := depthAll_le xs fun y hy => h y (List.mem_cons_of_mem _ hy)
    have h2 := h x (List.mem_cons_self ..)
    simp only [PyData.depthAll]
    omega
end Fc
set_option exponentiation.threshold 256
set_option maxHeartbeats 4000000
set_option maxHeartbeats 4000000
namespace Fc
open PySem L2
local macro_rules | `(tactic| walk_at "fc") => `(tactic| try simp only [runB, cSeq, cNil, cRet, cRetN, cExpr, cIf, cSet, cAsg, cPar, cAug, cRaise, cStore, cPass, cWipe, wipeD, toS_ok, toS_exn, toS_stuck, Res.bd_ok, Res.bd_exn, Res.bd_stuck, Res.bdN_ok, Res.bdN_exn, Res.bdN_stuck,
  eVar, eC, eTup, eLst, eOp, eChain, eUn, eAnd, eOr, eNot, eIf, eRep, tTs, tAnd2, tOr2, tNot2, tTrue, eCall, eBi, eIsi, eMtL, eSl, oNo, oSo, lNil, lCons, iSeq, iRange1, iRange2, zAdd, zSub, zMul, zDiv, zMod, ofO, opInt, opIn, opNotIn, opEq, opNe, opIs, opIsnt, mk_t, mk_f,
  List.map_cons, List.map_nil, List.length_cons, List.length_nil, List.replicate, List.append_nil, List.nil_append, List.cons_append, List.getElem?_cons_zero, List.getElem?_cons_succ, List.getElem?_nil, List.set_cons_zero, List.set_cons_succ, List.set_nil, lm0, lm1, lm2, lm3, lm4, lm5, lm6, lm7, lm8, lm9, asg_nm, asg_tp, asgs_nil, asgs_cons, Option.bind_some, Option.bind_none, Option.map_some, Option.map_none,
  Nat.reduceSub, Nat.reduceAdd, Nat.zero_add, Nat.add_zero, Nat.sub_self, if_true, if_false, reduceIte, Bool.false_eq_true, Bool.true_eq_false, Bool.not_true, Bool.not_false, ix_tup, ix_fz, at0, at1, at2, eDNew, eDGet, eDGet2, eDIn, eDPop, cDPut, cAugS, cSub2, dic_ref, keyOf, reduceCtorEq])
local macro_rules | `(tactic| walk_at "fo") => `(tactic| try simp only [*, runB, cSeq, cNil, cRet, cRetN, cExpr, cIf, cSet, cAsg, cPar, cAug, cRaise, cStore, cPass, cWipe, wipeD, toS_ok, toS_exn, toS_stuck, Res.bd_ok, Res.bd_exn, Res.bd_stuck, Res.bdN_ok, Res.bdN_exn, Res.bdN_stuck,
  eVar, eC, eTup, eLst, eOp, eChain, eUn, eAnd, eOr, eNot, eIf, eRep, tTs, tAnd2, tOr2, tNot2, tTrue, eCall, eBi, eIsi, eMtL, eSl, oNo, oSo, lNil, lCons, iSeq, iRange1, iRange2, zAdd, zSub, zMul, zDiv, zMod, ofO, opInt, opIn, opNotIn, opEq, opNe, opIs, opIsnt, mk_t, mk_f,
  List.map_cons, List.map_nil, List.length_cons, List.length_nil, List.replicate, List.append_nil, List.nil_append, List.cons_append, List.getElem?_cons_zero, List.getElem?_cons_succ, List.getElem?_nil, List.set_cons_zero, List.set_cons_succ, List.set_nil, lm0, lm1, lm2, lm3, lm4, lm5, lm6, lm7, lm8, lm9, asg_nm, asg_tp, asgs_nil, asgs_cons, Option.bind_some, Option.bind_none, Option.map_some, Option.map_none,
  Nat.reduceSub, Nat.reduceAdd, Nat.zero_add, Nat.add_zero, Nat.sub_self, if_true, if_false, reduceIte, Bool.false_eq_true, Bool.true_eq_false, Bool.not_true, Bool.not_false, ix_tup, ix_fz, at0, at1, at2, eDNew, eDGet, eDGet2, eDIn, eDPop, cDPut, cAugS, cSub2, dic_ref, keyOf, reduceCtorEq, and_self, Bool.and_self, decide_true, decide_false, List.append_assoc, List.length_append, Nat.add_assoc, at_new, at_newk, add_fz, add_rf, add_tt, ix_ref, seq_ref, list_ref, seq_tup, seq_fz, list_fz, ix_tup, ix_fz, neg_int, app_ref, set_newk, set_new0, iZ, iEn, sl_tup, sl_fz, eLcV, len_tup, len_ref, len_fz, tuple_fz, tuple_ref, ty_non, ty_bl, ty_int, ty_str, ty_tup, ty_fz])
local macro_rules | `(tactic| walk_at "fg") => `(tactic| try simp only [*, runB, cSeq, cNil, cRet, cRetN, cExpr, cIf, cSet, cAsg, cPar, cAug, cRaise, cStore, cPass, cWipe, wipeD, toS_ok, toS_exn, toS_stuck, Res.bd_ok, Res.bd_exn, Res.bd_stuck, Res.bdN_ok, Res.bdN_exn, Res.bdN_stuck,
  eVar, eC, eTup, eLst, eOp, eChain, eUn, eAnd, eOr, eNot, eIf, eRep, tTs, tAnd2, tOr2, tNot2, tTrue, eCall, eBi, eIsi, eMtL, eSl, oNo, oSo, lNil, lCons, iSeq, iRange1, iRange2, zAdd, zSub, zMul, zDiv, zMod, ofO, opInt, opIn, opNotIn, opEq, opNe, opIs, opIsnt, mk_t, mk_f,
  List.map_cons, List.map_nil, List.length_cons, List.length_nil, List.replicate, List.append_nil, List.nil_append, List.cons_append, List.getElem?_cons_zero, List.getElem?_cons_succ, List.getElem?_nil, List.set_cons_zero, List.set_cons_succ, List.set_nil, lm0, lm1, lm2, lm3, lm4, lm5, lm6, lm7, lm8, lm9, asg_nm, asg_tp, asgs_nil, asgs_cons, Option.bind_some, Option.bind_none, Option.map_some, Option.map_none,
  Nat.reduceSub, Nat.reduceAdd, Nat.zero_add, Nat.add_zero, Nat.sub_self, if_true, if_false, reduceIte, Bool.false_eq_true, Bool.true_eq_false, Bool.not_true, Bool.not_false, ix_tup, ix_fz, at0, at1, at2, eDNew, eDGet, eDGet2, eDIn, eDPop, cDPut, cAugS, cSub2, dic_ref, keyOf, reduceCtorEq, and_self, Bool.and_self, decide_true, decide_false, List.append_assoc, List.length_append, Nat.add_assoc, at_new, at_newk, add_fz, add_rf, add_tt, ix_ref, seq_ref, list_ref, seq_tup, seq_fz, list_fz, ix_tup, ix_fz, neg_int, app_ref, set_newk, set_new0, iZ, iEn, sl_tup, sl_fz, eLcV, len_tup, len_ref, len_fz, tuple_fz, tuple_ref, ty_non, ty_bl, ty_int, ty_str, ty_tup, ty_fz])
local macro_rules | `(tactic| walk_at "fs") => `(tactic| try simp [runB, cSeq, cNil, cRet, cRetN, cExpr, cIf, cSet, cAsg, cPar, cAug, cRaise, cStore, cPass, cWipe, wipeD, toS_ok, toS_exn, toS_stuck, Res.bd_ok, Res.bd_exn, Res.bd_stuck, Res.bdN_ok, Res.bdN_exn, Res.bdN_stuck,
  eVar, eC, eTup, eLst, eOp, eChain, eUn, eAnd, eOr, eNot, eIf, eRep, tTs, tAnd2, tOr2, tNot2, tTrue, eCall, eBi, eIsi, eMtL, eSl, oNo, oSo, lNil, lCons, iSeq, iRange1, iRange2, zAdd, zSub, zMul, zDiv, zMod, ofO, opInt, opIn, opNotIn, opEq, opNe, opIs, opIsnt, mk_t, mk_f,
  List.map_cons, List.map_nil, List.length_cons, List.length_nil, List.replicate, List.append_nil, List.nil_append, List.cons_append, List.getElem?_cons_zero, List.getElem?_cons_succ, List.getElem?_nil, List.set_cons_zero, List.set_cons_succ, List.set_nil, lm0, lm1, lm2, lm3, lm4, lm5, lm6, lm7, lm8, lm9, asg_nm, asg_tp, asgs_nil, asgs_cons, Option.bind_some, Option.bind_none, Option.map_some, Option.map_none,
  Nat.reduceSub, Nat.reduceAdd, Nat.zero_add, Nat.add_zero, Nat.sub_self, if_true, if_false, reduceIte, Bool.false_eq_true, Bool.true_eq_false, Bool.not_true, Bool.not_false, ix_tup, ix_fz, at0, at1, at2, eDNew, eDGet, eDGet2, eDIn, eDPop, cDPut, cAugS, cSub2, dic_ref, keyOf, reduceCtorEq, and_self, Bool.and_self, decide_true, decide_false, List.append_assoc, List.length_append, Nat.add_assoc, at_new, at_newk, add_fz, add_rf, add_tt, ix_ref, seq_ref, list_ref, seq_tup, seq_fz, list_fz, ix_tup, ix_fz, neg_int, app_ref, set_newk, set_new0, iZ, iEn, sl_tup, sl_fz, eLcV, len_tup, len_ref, len_fz, tuple_fz, tuple_ref, ty_non, ty_bl, ty_int, ty_str, ty_tup, ty_fz, isT, eqD_int, at0, at1])
local macro_rules | `(tactic| walk_at "fh") => `(tactic| try simp [*, runB, cSeq, cNil, cRet, cRetN, cExpr, cIf, cSet, cAsg, cPar, cAug, cRaise, cStore, cPass, cWipe, wipeD, toS_ok, toS_exn, toS_stuck, Res.bd_ok, Res.bd_exn, Res.bd_stuck, Res.bdN_ok, Res.bdN_exn, Res.bdN_stuck,
  eVar, eC, eTup, eLst, eOp, eChain, eUn, eAnd, eOr, eNot, eIf, eRep, tTs, tAnd2, tOr2, tNot2, tTrue, eCall, eBi, eIsi, eMtL, eSl, oNo, oSo, lNil, lCons, iSeq, iRange1, iRange2, zAdd, zSub, zMul, zDiv, zMod, ofO, opInt, opIn, opNotIn, opEq, opNe, opIs, opIsnt, mk_t, mk_f,
  List.map_cons, List.map_nil, List.length_cons, List.length_nil, List.replicate, List.append_nil, List.nil_append, List.cons_append, List.getElem?_cons_zero, List.getElem?_cons_succ, List.getElem?_nil, List.set_cons_zero, List.set_cons_succ, List.set_nil, lm0, lm1, lm2, lm3, lm4, lm5, lm6, lm7, lm8, lm9, asg_nm, asg_tp, asgs_nil, asgs_cons, Option.bind_some, Option.bind_none, Option.map_some, Option.map_none,
  Nat.reduceSub, Nat.reduceAdd, Nat.zero_add, Nat.add_zero, Nat.sub_self, if_true, if_false, reduceIte, Bool.false_eq_true, Bool.true_eq_false, Bool.not_true, Bool.not_false, ix_tup, ix_fz, at0, at1, at2, eDNew, eDGet, eDGet2, eDIn, eDPop, cDPut, cAugS, cSub2, dic_ref, keyOf, reduceCtorEq, and_self, Bool.and_self, decide_true, decide_false, List.append_assoc, List.length_append, Nat.add_assoc, at_new, at_newk, add_fz, add_rf, add_tt, ix_ref, seq_ref, list_ref, seq_tup, seq_fz, list_fz, ix_tup, ix_fz, neg_int, app_ref, set_newk, set_new0, iZ, iEn, sl_tup, sl_fz, eLcV, len_tup, len_ref, len_fz, tuple_fz, tuple_ref, ty_non, ty_bl, ty_int, ty_str, ty_tup, ty_fz, isT, eqD_int, at0, at1])
def rs1 (s : Int) (B : Nat) (k : Nat) (q : Rat) : Int := s ^ k * q.num * ((B : Int) / (q.den : Int)) % (B : Int)
def rst (s : Int) (qs : List Rat) (k : Nat) : List Int := qs.map (rs1 s (lcmD qs) k)
theorem Chances.sm {qs : List Rat} (h : Chances qs) : ∀ q ∈ qs, Sm q := fun q hq => (h.bd hq).sm (by decide)
theorem Chances.lim {qs : List Rat} (h : Chances qs) : qs.length ≤ lim := Nat.le_trans h.many.2 (by decide)
structure Cg (s : Int) (qs : List Rat) : Prop where
  many : 1 ≤ qs.length ∧ qs.length ≤ 6
  nn : ∀ q ∈ qs, 0 ≤ q
  one : sumR qs = 1
  bot : lcmD qs ≤ 46656
  rep : ∃ m, m ≤ 30 ∧ rst s qs m ∈ (List.range m).map (rst s qs)
namespace Cg
variable {s : Int} {qs : List Rat}
theorem den_le (h : Cg s qs) {q : Rat} (hq : q ∈ qs) : q.den ≤ 46656 := Nat.le_trans (Nat.le_of_dvd (lcm_pos qs) (den_dvd hq)) h.bot
theorem le_one (h : Cg s qs) {q : Rat} (hq : q ∈ qs) : q ≤ 1 := by
  have := le_sum h.nn hq
  rwa [h.one] at this
theorem num_le (h : Cg s qs) {q : Rat} (hq : q ∈ qs) : 0 ≤ q.num ∧ q.num ≤ q.den := by
  refine ⟨Rat.num_nonneg.mpr (h.nn q hq), ?_⟩
  have h1 := h.le_one hq
  rw [Rat.le_iff] at h1
  simpa using h1
theorem bd (h : Cg s qs) {q : Rat} (hq : q ∈ qs) : Bd 16 q := by
  have h1 := h.den_le hq
  have h2 := h.num_le hq
  exact ⟨by omega, by omega⟩
theorem sm (h : Cg s qs) : ∀ q ∈ qs, Sm q := fun q hq => (h.bd hq).sm (by decide)
theorem lim (h : Cg s qs) : qs.length ≤ Fc.lim := Nat.le_trans h.many.2 (by decide)
end Cg
section
variable {α : Type} [DecidableEq α]
end
theorem pigeon (B : Nat) (w : Nat → Nat) (h : ∀ i, w i < B) : ∃ m, m ≤ B ∧ ∃ i, i < m ∧ w i = w m := by
  have key : ∀ (B : Nat) (l : List Nat), l.Nodup → (∀ x ∈ l, x < B) → l.length ≤ B := by
    intro B
    induction B with
    | zero =>
      intro l _ h
      cases l with
      | nil => simp
      | cons x l => exact absurd (h x (by simp)) (by omega)
    | succ B ih =>
      intro l hn h
      have h1 := ih (l.erase B) (hn.erase B) fun x hx => by
        have h2 := h x (List.mem_of_mem_erase hx)
        have h3 : x ≠ B := fun e => by
          subst e
          exact (List.Nodup.mem_erase_iff hn).mp hx |>.1 rfl
        omega
      have : l.length ≤ (l.erase B).length + 1 := by
        rw [List.length_erase]
        split <;> omega
      omega
  rcases Classical.em (∃ m, m ≤ B ∧ ∃ i, i < m ∧ w i = w m) with z | z
  · exact z
  · exfalso
    have nd : ((List.range (B + 1)).map w).Nodup := by
      rw [List.Nodup, List.pairwise_map]
      refine List.Pairwise.imp_of_mem ?_ (List.pairwise_lt_range (n := B + 1))
      intro a b ha hb hlt e
      exact z ⟨b, by have := List.mem_range.mp hb; omega, a, hlt, e⟩
    have := key B _ nd fun x hx => by
      obtain ⟨i, _, rfl⟩ := List.mem_map.mp hx
      exact h i
    simp at this
    omega
theorem rs1_mod (s : Int) (B k : Nat) (q : Rat) : rs1 s B k q = (s ^ k % (B : Int)) * (q.num * ((B : Int) / (q.den : Int))) % (B : Int) := by
  unfold rs1
  conv => rhs; rw [Int.mul_emod, Int.emod_emod]
  rw [Int.mul_assoc, Int.mul_emod]
theorem Chances.cg {s : Int} {qs : List Rat} (h : Chances qs) : Cg s qs := by
  have hB := lcm_pos qs
  have h30 := h.bot
  obtain ⟨m, hm, i, hi, e⟩ := pigeon (lcmD qs) (fun k => (s ^ k % (lcmD qs : Int)).toNat) fun k => by
    have h1 := Int.emod_nonneg (s ^ k) (b := (lcmD qs : Int)) (by omega)
    have h2 := Int.emod_lt_of_pos (s ^ k) (b := (lcmD qs : Int)) (by omega)
    show (s ^ k % (lcmD qs : Int)).toNat < lcmD qs
    omega
  have e2 : s ^ i % (lcmD qs : Int) = s ^ m % (lcmD qs : Int) := by
    have h1 := Int.emod_nonneg (s ^ i) (b := (lcmD qs : Int)) (by omega)
    have h2 := Int.emod_nonneg (s ^ m) (b := (lcmD qs : Int)) (by omega)
    have e' : (s ^ i % (lcmD qs : Int)).toNat = (s ^ m % (lcmD qs : Int)).toNat := e
    omega
  exact ⟨h.many, h.nn, h.one, by omega, m, by omega, List.mem_map.mpr ⟨i, List.mem_range.mpr hi, by
    unfold rst
    refine List.map_congr_left fun q _ => ?_
    rw [rs1_mod, rs1_mod, e2]⟩⟩
end Fc
set_option exponentiation.threshold 256
set_option maxHeartbeats 4000000
set_option maxHeartbeats 4000000
namespace Fc
open PySem L2
local macro_rules | `(tactic| walk_at "fc") => `(tactic| try simp only [runB, cSeq, cNil, cRet, cRetN, cExpr, cIf, cSet, cAsg, cPar, cAug, cRaise, cStore, cPass, cWipe, wipeD, toS_ok, toS_exn, toS_stuck, Res.bd_ok, Res.bd_exn, Res.bd_stuck, Res.bdN_ok, Res.bdN_exn, Res.bdN_stuck,
  eVar, eC, eTup, eLst, eOp, eChain, eUn, eAnd, eOr, eNot, eIf, eRep, tTs, tAnd2, tOr2, tNot2, tTrue, eCall, eBi, eIsi, eMtL, eSl, oNo, oSo, lNil, lCons, iSeq, iRange1, iRange2, zAdd, zSub, zMul, zDiv, zMod, ofO, opInt, opIn, opNotIn, opEq, opNe, opIs, opIsnt, mk_t, mk_f,
  List.map_cons, List.map_nil, List.length_cons, List.length_nil, List.replicate, List.append_nil, List.nil_append, List.cons_append, List.getElem?_cons_zero, List.getElem?_cons_succ, List.getElem?_nil, List.set_cons_zero, List.set_cons_succ, List.set_nil, lm0, lm1, lm2, lm3, lm4, lm5, lm6, lm7, lm8, lm9, asg_nm, asg_tp, asgs_nil, asgs_cons, Option.bind_some, Option.bind_none, Option.map_some, Option.map_none,
  Nat.reduceSub, Nat.reduceAdd, Nat.zero_add, Nat.add_zero, Nat.sub_self, if_true, if_false, reduceIte, Bool.false_eq_true, Bool.true_eq_false, Bool.not_true, Bool.not_false, ix_tup, ix_fz, at0, at1, at2, eDNew, eDGet, eDGet2, eDIn, eDPop, cDPut, cAugS, cSub2, dic_ref, keyOf, reduceCtorEq])
local macro_rules | `(tactic| walk_at "fo") => `(tactic| try simp only [*, runB, cSeq, cNil, cRet, cRetN, cExpr, cIf, cSet, cAsg, cPar, cAug, cRaise, cStore, cPass, cWipe, wipeD, toS_ok, toS_exn, toS_stuck, Res.bd_ok, Res.bd_exn, Res.bd_stuck, Res.bdN_ok, Res.bdN_exn, Res.bdN_stuck,
  eVar, eC, eTup, eLst, eOp, eChain, eUn, eAnd, eOr, eNot, eIf, eRep, tTs, tAnd2, tOr2, tNot2, tTrue, eCall, eBi, eIsi, eMtL, eSl, oNo, oSo, lNil, lCons, iSeq, iRange1, iRange2, zAdd, zSub, zMul, zDiv, zMod, ofO, opInt, opIn, opNotIn, opEq, opNe, opIs, opIsnt, mk_t, mk_f,
  List.map_cons, List.map_nil, List.length_cons, List.length_nil, List.replicate, List.append_nil, List.nil_append, List.cons_append, List.getElem?_cons_zero, List.getElem?_cons_succ, List.getElem?_nil, List.set_cons_zero, List.set_cons_succ, List.set_nil, lm0, lm1, lm2, lm3, lm4, lm5, lm6, lm7, lm8, lm9, asg_nm, asg_tp, asgs_nil, asgs_cons, Option.bind_some, Option.bind_none, Option.map_some, Option.map_none,
  Nat.reduceSub, Nat.reduceAdd, Nat.zero_add, Nat.add_zero, Nat.sub_self, if_true, if_false, reduceIte, Bool.false_eq_true, Bool.true_eq_false, Bool.not_true, Bool.not_false, ix_tup, ix_fz, at0, at1, at2, eDNew, eDGet, eDGet2, eDIn, eDPop, cDPut, cAugS, cSub2, dic_ref, keyOf, reduceCtorEq, and_self, Bool.and_self, decide_true, decide_false, List.append_assoc, List.length_append, Nat.add_assoc, at_new, at_newk, add_fz, add_rf, add_tt, ix_ref, seq_ref, list_ref, seq_tup, seq_fz, list_fz, ix_tup, ix_fz, neg_int, app_ref, set_newk, set_new0, iZ, iEn, sl_tup, sl_fz, eLcV, len_tup, len_ref, len_fz, tuple_fz, tuple_ref, ty_non, ty_bl, ty_int, ty_str, ty_tup, ty_fz])
local macro_rules | `(tactic| walk_at "fg") => `(tactic| try simp only [*, runB, cSeq, cNil, cRet, cRetN, cExpr, cIf, cSet, cAsg, cPar, cAug, cRaise, cStore, cPass, cWipe, wipeD, toS_ok, toS_exn, toS_stuck, Res.bd_ok, Res.bd_exn, Res.bd_stuck, Res.bdN_ok, Res.bdN_exn, Res.bdN_stuck,
  eVar, eC, eTup, eLst, eOp, eChain, eUn, eAnd, eOr, eNot, eIf, eRep, tTs, tAnd2, tOr2, tNot2, tTrue, eCall, eBi, eIsi, eMtL, eSl, oNo, oSo, lNil, lCons, iSeq, iRange1, iRange2, zAdd, zSub, zMul, zDiv, zMod, ofO, opInt, opIn, opNotIn, opEq, opNe, opIs, opIsnt, mk_t, mk_f,
  List.map_cons, List.map_nil, List.length_cons, List.length_nil, List.replicate, List.append_nil, List.nil_append, List.cons_append, List.getElem?_cons_zero, List.getElem?_cons_succ, List.getElem?_nil, List.set_cons_zero, List.set_cons_succ, List.set_nil, lm0, lm1, lm2, lm3, lm4, lm5, lm6, lm7, lm8, lm9, asg_nm, asg_tp, asgs_nil, asgs_cons, Option.bind_some, Option.bind_none, Option.map_some, Option.map_none,
  Nat.reduceSub, Nat.reduceAdd, Nat.zero_add, Nat.add_zero, Nat.sub_self, if_true, if_false, reduceIte, Bool.false_eq_true, Bool.true_eq_false, Bool.not_true, Bool.not_false, ix_tup, ix_fz, at0, at1, at2, eDNew, eDGet, eDGet2, eDIn, eDPop, cDPut, cAugS, cSub2, dic_ref, keyOf, reduceCtorEq, and_self, Bool.and_self, decide_true, decide_false, List.append_assoc, List.length_append, Nat.add_assoc, at_new, at_newk, add_fz, add_rf, add_tt, ix_ref, seq_ref, list_ref, seq_tup, seq_fz, list_fz, ix_tup, ix_fz, neg_int, app_ref, set_newk, set_new0, iZ, iEn, sl_tup, sl_fz, eLcV, len_tup, len_ref, len_fz, tuple_fz, tuple_ref, ty_non, ty_bl, ty_int, ty_str, ty_tup, ty_fz])
local macro_rules | `(tactic| walk_at "fs") => `(tactic| try simp [runB, cSeq, cNil, cRet, cRetN, cExpr, cIf, cSet, cAsg, cPar, cAug, cRaise, cStore, cPass, cWipe, wipeD, toS_ok, toS_exn, toS_stuck, Res.bd_ok, Res.bd_exn, Res.bd_stuck, Res.bdN_ok, Res.bdN_exn, Res.bdN_stuck,
  eVar, eC, eTup, eLst, eOp, eChain, eUn, eAnd, eOr, eNot, eIf, eRep, tTs, tAnd2, tOr2, tNot2, tTrue, eCall, eBi, eIsi, eMtL, eSl, oNo, oSo, lNil, lCons, iSeq, iRange1, iRange2, zAdd, zSub, zMul, zDiv, zMod, ofO, opInt, opIn, opNotIn, opEq, opNe, opIs, opIsnt, mk_t, mk_f,
  List.map_cons, List.map_nil, List.length_cons, List.length_nil, List.replicate, List.append_nil, List.nil_append, List.cons_append, List.getElem?_cons_zero, List.getElem?_cons_succ, List.getElem?_nil, List.set_cons_zero, List.set_cons_succ, List.set_nil, lm0, lm1, lm2, lm3, lm4, lm5, lm6, lm7, lm8, lm9, asg_nm, asg_tp, asgs_nil, asgs_cons, Option.bind_some, Option.bind_none, Option.map_some, Option.map_none,
  Nat.reduceSub, Nat.reduceAdd, Nat.zero_add, Nat.add_zero, Nat.sub_self, if_true, if_false, reduceIte, Bool.false_eq_true, Bool.true_eq_false, Bool.not_true, Bool.not_false, ix_tup, ix_fz, at0, at1, at2, eDNew, eDGet, eDGet2, eDIn, eDPop, cDPut, cAugS, cSub2, dic_ref, keyOf, reduceCtorEq, and_self, Bool.and_self, decide_true, decide_false, List.append_assoc, List.length_append, Nat.add_assoc, at_new, at_newk, add_fz, add_rf, add_tt, ix_ref, seq_ref, list_ref, seq_tup, seq_fz, list_fz, ix_tup, ix_fz, neg_int, app_ref, set_newk, set_new0, iZ, iEn, sl_tup, sl_fz, eLcV, len_tup, len_ref, len_fz, tuple_fz, tuple_ref, ty_non, ty_bl, ty_int, ty_str, ty_tup, ty_fz, isT, eqD_int, at0, at1])
local macro_rules | `(tactic| walk_at "fh") => `(tactic| try simp [*, runB, cSeq, cNil, cRet, cRetN, cExpr, cIf, cSet, cAsg, cPar, cAug, cRaise, cStore, cPass, cWipe, wipeD, toS_ok, toS_exn, toS_stuck, Res.bd_ok, Res.bd_exn, Res.bd_stuck, Res.bdN_ok, Res.bdN_exn, Res.bdN_stuck,
  eVar, eC, eTup, eLst, eOp, eChain, eUn, eAnd, eOr, eNot, eIf, eRep, tTs, tAnd2, tOr2, tNot2, tTrue, eCall, eBi, eIsi, eMtL, eSl, oNo, oSo, lNil, lCons, iSeq, iRange1, iRange2, zAdd, zSub, zMul, zDiv, zMod, ofO, opInt, opIn, opNotIn, opEq, opNe, opIs, opIsnt, mk_t, mk_f,
  List.map_cons, List.map_nil, List.length_cons, List.length_nil, List.replicate, List.append_nil, List.nil_append, List.cons_append, List.getElem?_cons_zero, List.getElem?_cons_succ, List.getElem?_nil, List.set_cons_zero, List.set_cons_succ, List.set_nil, lm0, lm1, lm2, lm3, lm4, lm5, lm6, lm7, lm8, lm9, asg_nm, asg_tp, asgs_nil, asgs_cons, Option.bind_some, Option.bind_none, Option.map_some, Option.map_none,
  Nat.reduceSub, Nat.reduceAdd, Nat.zero_add, Nat.add_zero, Nat.sub_self, if_true, if_false, reduceIte, Bool.false_eq_true, Bool.true_eq_false, Bool.not_true, Bool.not_false, ix_tup, ix_fz, at0, at1, at2, eDNew, eDGet, eDGet2, eDIn, eDPop, cDPut, cAugS, cSub2, dic_ref, keyOf, reduceCtorEq, and_self, Bool.and_self, decide_true, decide_false, List.append_assoc, List.length_append, Nat.add_assoc, at_new, at_newk, add_fz, add_rf, add_tt, ix_ref, seq_ref, list_ref, seq_tup, seq_fz, list_fz, ix_tup, ix_fz, neg_int, app_ref, set_newk, set_new0, iZ, iEn, sl_tup, sl_fz, eLcV, len_tup, len_ref, len_fz, tuple_fz, tuple_ref, ty_non, ty_bl, ty_int, ty_str, ty_tup, ty_fz, isT, eqD_int, at0, at1])
end Fc
set_option exponentiation.threshold 256
set_option maxHeartbeats 4000000
set_option maxHeartbeats 4000000
namespace Fc
open PySem L2
local macro_rules | `(tactic| walk_at "fc") => `(tactic| try simp only [runB, cSeq, cNil, cRet, cRetN, cExpr, cIf, cSet, cAsg, cPar, cAug, cRaise, cStore, cPass, cWipe, wipeD, toS_ok, toS_exn, toS_stuck, Res.bd_ok, Res.bd_exn, Res.bd_stuck, Res.bdN_ok, Res.bdN_exn, Res.bdN_stuck,
  eVar, eC, eTup, eLst, eOp, eChain, eUn, eAnd, eOr, eNot, eIf, eRep, tTs, tAnd2, tOr2, tNot2, tTrue, eCall, eBi, eIsi, eMtL, eSl, oNo, oSo, lNil, lCons, iSeq, iRange1, iRange2, zAdd, zSub, zMul, zDiv, zMod, ofO, opInt, opIn, opNotIn, opEq, opNe, opIs, opIsnt, mk_t, mk_f,
  List.map_cons, List.map_nil, List.length_cons, List.length_nil, List.replicate, List.append_nil, List.nil_append, List.cons_append, List.getElem?_cons_zero, List.getElem?_cons_succ, List.getElem?_nil, List.set_cons_zero, List.set_cons_succ, List.set_nil, lm0, lm1, lm2, lm3, lm4, lm5, lm6, lm7, lm8, lm9, asg_nm, asg_tp, asgs_nil, asgs_cons, Option.bind_some, Option.bind_none, Option.map_some, Option.map_none,
  Nat.reduceSub, Nat.reduceAdd, Nat.zero_add, Nat.add_zero, Nat.sub_self, if_true, if_false, reduceIte, Bool.false_eq_true, Bool.true_eq_false, Bool.not_true, Bool.not_false, ix_tup, ix_fz, at0, at1, at2, eDNew, eDGet, eDGet2, eDIn, eDPop, cDPut, cAugS, cSub2, dic_ref, keyOf, reduceCtorEq])
local macro_rules | `(tactic| walk_at "fo") => `(tactic| try simp only [*, runB, cSeq, cNil, cRet, cRetN, cExpr, cIf, cSet, cAsg, cPar, cAug, cRaise, cStore, cPass, cWipe, wipeD, toS_ok, toS_exn, toS_stuck, Res.bd_ok, Res.bd_exn, Res.bd_stuck, Res.bdN_ok, Res.bdN_exn, Res.bdN_stuck,
  eVar, eC, eTup, eLst, eOp, eChain, eUn, eAnd, eOr, eNot, eIf, eRep, tTs, tAnd2, tOr2, tNot2, tTrue, eCall, eBi, eIsi, eMtL, eSl, oNo, oSo, lNil, lCons, iSeq, iRange1, iRange2, zAdd, zSub, zMul, zDiv, zMod, ofO, opInt, opIn, opNotIn, opEq, opNe, opIs, opIsnt, mk_t, mk_f,
  List.map_cons, List.map_nil, List.length_cons, List.length_nil, List.replicate, List.append_nil, List.nil_append, List.cons_append, List.getElem?_cons_zero, List.getElem?_cons_succ, List.getElem?_nil, List.set_cons_zero, List.set_cons_succ, List.set_nil, lm0, lm1, lm2, lm3, lm4, lm5, lm6, lm7, lm8, lm9, asg_nm, asg_tp, asgs_nil, asgs_cons, Option.bind_some, Option.bind_none, Option.map_some, Option.map_none,
  Nat.reduceSub, Nat.reduceAdd, Nat.zero_add, Nat.add_zero, Nat.sub_self, if_true, if_false, reduceIte, Bool.false_eq_true, Bool.true_eq_false, Bool.not_true, Bool.not_false, ix_tup, ix_fz, at0, at1, at2, eDNew, eDGet, eDGet2, eDIn, eDPop, cDPut, cAugS, cSub2, dic_ref, keyOf, reduceCtorEq, and_self, Bool.and_self, decide_true, decide_false, List.append_assoc, List.length_append, Nat.add_assoc, at_new, at_newk, add_fz, add_rf, add_tt, ix_ref, seq_ref, list_ref, seq_tup, seq_fz, list_fz, ix_tup, ix_fz, neg_int, app_ref, set_newk, set_new0, iZ, iEn, sl_tup, sl_fz, eLcV, len_tup, len_ref, len_fz, tuple_fz, tuple_ref, ty_non, ty_bl, ty_int, ty_str, ty_tup, ty_fz])
local macro_rules | `(tactic| walk_at "fg") => `(tactic| try simp only [*, runB, cSeq, cNil, cRet, cRetN, cExpr, cIf, cSet, cAsg, cPar, cAug, cRaise, cStore, cPass, cWipe, wipeD, toS_ok, toS_exn, toS_stuck, Res.bd_ok, Res.bd_exn, Res.bd_stuck, Res.bdN_ok, Res.bdN_exn, Res.bdN_stuck,
  eVar, eC, eTup, eLst, eOp, eChain, eUn, eAnd, eOr, eNot, eIf, eRep, tTs, tAnd2, tOr2, tNot2, tTrue, eCall, eBi, eIsi, eMtL, eSl, oNo, oSo, lNil, lCons, iSeq, iRange1, iRange2, zAdd, zSub, zMul, zDiv, zMod, ofO, opInt, opIn, opNotIn, opEq, opNe, opIs, opIsnt, mk_t, mk_f,
  List.map_cons, List.map_nil, List.length_cons, List.length_nil, List.replicate, List.append_nil, List.nil_append, List.cons_append, List.getElem?_cons_zero, List.getElem?_cons_succ, List.getElem?_nil, List.set_cons_zero, List.set_cons_succ, List.set_nil, lm0, lm1, lm2, lm3, lm4, lm5, lm6, lm7, lm8, lm9, asg_nm, asg_tp, asgs_nil, asgs_cons, Option.bind_some, Option.bind_none, Option.map_some, Option.map_none,
  Nat.reduceSub, Nat.reduceAdd, Nat.zero_add, Nat.add_zero, Nat.sub_self, if_true, if_false, reduceIte, Bool.false_eq_true, Bool.true_eq_false, Bool.not_true, Bool.not_false, ix_tup, ix_fz, at0, at1, at2, eDNew, eDGet, eDGet2, eDIn, eDPop, cDPut, cAugS, cSub2, dic_ref, keyOf, reduceCtorEq, and_self, Bool.and_self, decide_true, decide_false, List.append_assoc, List.length_append, Nat.add_assoc, at_new, at_newk, add_fz, add_rf, add_tt, ix_ref, seq_ref, list_ref, seq_tup, seq_fz, list_fz, ix_tup, ix_fz, neg_int, app_ref, set_newk, set_new0, iZ, iEn, sl_tup, sl_fz, eLcV, len_tup, len_ref, len_fz, tuple_fz, tuple_ref, ty_non, ty_bl, ty_int, ty_str, ty_tup, ty_fz])
local macro_rules | `(tactic| walk_at "fs") => `(tactic| try simp [runB, cSeq, cNil, cRet, cRetN, cExpr, cIf, cSet, cAsg, cPar, cAug, cRaise, cStore, cPass, cWipe, wipeD, toS_ok, toS_exn, toS_stuck, Res.bd_ok, Res.bd_exn, Res.bd_stuck, Res.bdN_ok, Res.bdN_exn, Res.bdN_stuck,
  eVar, eC, eTup, eLst, eOp, eChain, eUn, eAnd, eOr, eNot, eIf, eRep, tTs, tAnd2, tOr2, tNot2, tTrue, eCall, eBi, eIsi, eMtL, eSl, oNo, oSo, lNil, lCons, iSeq, iRange1, iRange2, zAdd, zSub, zMul, zDiv, zMod, ofO, opInt, opIn, opNotIn, opEq, opNe, opIs, opIsnt, mk_t, mk_f,
  List.map_cons, List.map_nil, List.length_cons, List.length_nil, List.replicate, List.append_nil, List.nil_append, List.cons_append, List.getElem?_cons_zero, List.getElem?_cons_succ, List.getElem?_nil, List.set_cons_zero, List.set_cons_succ, List.set_nil, lm0, lm1, lm2, lm3, lm4, lm5, lm6, lm7, lm8, lm9, asg_nm, asg_tp, asgs_nil, asgs_cons, Option.bind_some, Option.bind_none, Option.map_some, Option.map_none,
  Nat.reduceSub, Nat.reduceAdd, Nat.zero_add, Nat.add_zero, Nat.sub_self, if_true, if_false, reduceIte, Bool.false_eq_true, Bool.true_eq_false, Bool.not_true, Bool.not_false, ix_tup, ix_fz, at0, at1, at2, eDNew, eDGet, eDGet2, eDIn, eDPop, cDPut, cAugS, cSub2, dic_ref, keyOf, reduceCtorEq, and_self, Bool.and_self, decide_true, decide_false, List.append_assoc, List.length_append, Nat.add_assoc, at_new, at_newk, add_fz, add_rf, add_tt, ix_ref, seq_ref, list_ref, seq_tup, seq_fz, list_fz, ix_tup, ix_fz, neg_int, app_ref, set_newk, set_new0, iZ, iEn, sl_tup, sl_fz, eLcV, len_tup, len_ref, len_fz, tuple_fz, tuple_ref, ty_non, ty_bl, ty_int, ty_str, ty_tup, ty_fz, isT, eqD_int, at0, at1])
local macro_rules | `(tactic| walk_at "fh") => `(tactic| try simp [*, runB, cSeq, cNil, cRet, cRetN, cExpr, cIf, cSet, cAsg, cPar, cAug, cRaise, cStore, cPass, cWipe, wipeD, toS_ok, toS_exn, toS_stuck, Res.bd_ok, Res.bd_exn, Res.bd_stuck, Res.bdN_ok, Res.bdN_exn, Res.bdN_stuck,
  eVar, eC, eTup, eLst, eOp, eChain, eUn, eAnd, eOr, eNot, eIf, eRep, tTs, tAnd2, tOr2, tNot2, tTrue, eCall, eBi, eIsi, eMtL, eSl, oNo, oSo, lNil, lCons, iSeq, iRange1, iRange2, zAdd, zSub, zMul, zDiv, zMod, ofO, opInt, opIn, opNotIn, opEq, opNe, opIs, opIsnt, mk_t, mk_f,
  List.map_cons, List.map_nil, List.length_cons, List.length_nil, List.replicate, List.append_nil, List.nil_append, List.cons_append, List.getElem?_cons_zero, List.getElem?_cons_succ, List.getElem?_nil, List.set_cons_zero, List.set_cons_succ, List.set_nil, lm0, lm1, lm2, lm3, lm4, lm5, lm6, lm7, lm8, lm9, asg_nm, asg_tp, asgs_nil, asgs_cons, Option.bind_some, Option.bind_none, Option.map_some, Option.map_none,
  Nat.reduceSub, Nat.reduceAdd, Nat.zero_add, Nat.add_zero, Nat.sub_self, if_true, if_false, reduceIte, Bool.false_eq_true, Bool.true_eq_false, Bool.not_true, Bool.not_false, ix_tup, ix_fz, at0, at1, at2, eDNew, eDGet, eDGet2, eDIn, eDPop, cDPut, cAugS, cSub2, dic_ref, keyOf, reduceCtorEq, and_self, Bool.and_self, decide_true, decide_false, List.append_assoc, List.length_append, Nat.add_assoc, at_new, at_newk, add_fz, add_rf, add_tt, ix_ref, seq_ref, list_ref, seq_tup, seq_fz, list_fz, ix_tup, ix_fz, neg_int, app_ref, set_newk, set_new0, iZ, iEn, sl_tup, sl_fz, eLcV, len_tup, len_ref, len_fz, tuple_fz, tuple_ref, ty_non, ty_bl, ty_int, ty_str, ty_tup, ty_fz, isT, eqD_int, at0, at1])
theorem pow_le6 {s : Int} (h : 2 ≤ s ∧ s ≤ 6) : ∀ k : Nat, s ^ k ≤ 6 ^ k
  | 0 => by simp
  | k + 1 => by
    rw [Int.pow_succ, Int.pow_succ]
    exact Int.mul_le_mul (pow_le6 h k) h.2 (by omega) (Int.le_of_lt (Int.pow_pos (by decide)))
theorem ne_cast {n : Int} (h : 0 < n) : (n : Rat) ≠ 0 := by
  intro e
  have : n = 0 := by exact_mod_cast e
  omega
end Fc
set_option exponentiation.threshold 256
set_option maxHeartbeats 4000000
set_option maxHeartbeats 4000000
namespace Fc
open PySem L2
local macro_rules | `(tactic| walk_at "fc") => `(tactic| try simp only [runB, cSeq, cNil, cRet, cRetN, cExpr, cIf, cSet, cAsg, cPar, cAug, cRaise, cStore, cPass, cWipe, wipeD, toS_ok, toS_exn, toS_stuck, Res.bd_ok, Res.bd_exn, Res.bd_stuck, Res.bdN_ok, Res.bdN_exn, Res.bdN_stuck,
  eVar, eC, eTup, eLst, eOp, eChain, eUn, eAnd, eOr, eNot, eIf, eRep, tTs, tAnd2, tOr2, tNot2, tTrue, eCall, eBi, eIsi, eMtL, eSl, oNo, oSo, lNil, lCons, iSeq, iRange1, iRange2, zAdd, zSub, zMul, zDiv, zMod, ofO, opInt, opIn, opNotIn, opEq, opNe, opIs, opIsnt, mk_t, mk_f,
  List.map_cons, List.map_nil, List.length_cons, List.length_nil, List.replicate, List.append_nil, List.nil_append, List.cons_append, List.getElem?_cons_zero, List.getElem?_cons_succ, List.getElem?_nil, List.set_cons_zero, List.set_cons_succ, List.set_nil, lm0, lm1, lm2, lm3, lm4, lm5, lm6, lm7, lm8, lm9, asg_nm, asg_tp, asgs_nil, asgs_cons, Option.bind_some, Option.bind_none, Option.map_some, Option.map_none,
  Nat.reduceSub, Nat.reduceAdd, Nat.zero_add, Nat.add_zero, Nat.sub_self, if_true, if_false, reduceIte, Bool.false_eq_true, Bool.true_eq_false, Bool.not_true, Bool.not_false, ix_tup, ix_fz, at0, at1, at2, eDNew, eDGet, eDGet2, eDIn, eDPop, cDPut, cAugS, cSub2, dic_ref, keyOf, reduceCtorEq])
local macro_rules | `(tactic| walk_at "fo") => `(tactic| try simp only [*, runB, cSeq, cNil, cRet, cRetN, cExpr, cIf, cSet, cAsg, cPar, cAug, cRaise, cStore, cPass, cWipe, wipeD, toS_ok, toS_exn, toS_stuck, Res.bd_ok, Res.bd_exn, Res.bd_stuck, Res.bdN_ok, Res.bdN_exn, Res.bdN_stuck,
  eVar, eC, eTup, eLst, eOp, eChain, eUn, eAnd, eOr, eNot, eIf, eRep, tTs, tAnd2, tOr2, tNot2, tTrue, eCall, eBi, eIsi, eMtL, eSl, oNo, oSo, lNil, lCons, iSeq, iRange1, iRange2, zAdd, zSub, zMul, zDiv, zMod, ofO, opInt, opIn, opNotIn, opEq, opNe, opIs, opIsnt, mk_t, mk_f,
  List.map_cons, List.map_nil, List.length_cons, List.length_nil, List.replicate, List.append_nil, List.nil_append, List.cons_append, List.getElem?_cons_zero, List.getElem?_cons_succ, List.getElem?_nil, List.set_cons_zero, List.set_cons_succ, List.set_nil, lm0, lm1, lm2, lm3, lm4, lm5, lm6, lm7, lm8, lm9, asg_nm, asg_tp, asgs_nil, asgs_cons, Option.bind_some, Option.bind_none, Option.map_some, Option.map_none,
  Nat.reduceSub, Nat.reduceAdd, Nat.zero_add, Nat.add_zero, Nat.sub_self, if_true, if_false, reduceIte, Bool.false_eq_true, Bool.true_eq_false, Bool.not_true, Bool.not_false, ix_tup, ix_fz, at0, at1, at2, eDNew, eDGet, eDGet2, eDIn, eDPop, cDPut, cAugS, cSub2, dic_ref, keyOf, reduceCtorEq, and_self, Bool.and_self, decide_true, decide_false, List.append_assoc, List.length_append, Nat.add_assoc, at_new, at_newk, add_fz, add_rf, add_tt, ix_ref, seq_ref, list_ref, seq_tup, seq_fz, list_fz, ix_tup, ix_fz, neg_int, app_ref, set_newk, set_new0, iZ, iEn, sl_tup, sl_fz, eLcV, len_tup, len_ref, len_fz, tuple_fz, tuple_ref, ty_non, ty_bl, ty_int, ty_str, ty_tup, ty_fz])
local macro_rules | `(tactic| walk_at "fg") => `(tactic| try simp only [*, runB, cSeq, cNil, cRet, cRetN, cExpr, cIf, cSet, cAsg, cPar, cAug, cRaise, cStore, cPass, cWipe, wipeD, toS_ok, toS_exn, toS_stuck, Res.bd_ok, Res.bd_exn, Res.bd_stuck, Res.bdN_ok, Res.bdN_exn, Res.bdN_stuck,
  eVar, eC, eTup, eLst, eOp, eChain, eUn, eAnd, eOr, eNot, eIf, eRep, tTs, tAnd2, tOr2, tNot2, tTrue, eCall, eBi, eIsi, eMtL, eSl, oNo, oSo, lNil, lCons, iSeq, iRange1, iRange2, zAdd, zSub, zMul, zDiv, zMod, ofO, opInt, opIn, opNotIn, opEq, opNe, opIs, opIsnt, mk_t, mk_f,
  List.map_cons, List.map_nil, List.length_cons, List.length_nil, List.replicate, List.append_nil, List.nil_append, List.cons_append, List.getElem?_cons_zero, List.getElem?_cons_succ, List.getElem?_nil, List.set_cons_zero, List.set_cons_succ, List.set_nil, lm0, lm1, lm2, lm3, lm4, lm5, lm6, lm7, lm8, lm9, asg_nm, asg_tp, asgs_nil, asgs_cons, Option.bind_some, Option.bind_none, Option.map_some, Option.map_none,
  Nat.reduceSub, Nat.reduceAdd, Nat.zero_add, Nat.add_zero, Nat.sub_self, if_true, if_false, reduceIte, Bool.false_eq_true, Bool.true_eq_false, Bool.not_true, Bool.not_false, ix_tup, ix_fz, at0, at1, at2, eDNew, eDGet, eDGet2, eDIn, eDPop, cDPut, cAugS, cSub2, dic_ref, keyOf, reduceCtorEq, and_self, Bool.and_self, decide_true, decide_false, List.append_assoc, List.length_append, Nat.add_assoc, at_new, at_newk, add_fz, add_rf, add_tt, ix_ref, seq_ref, list_ref, seq_tup, seq_fz, list_fz, ix_tup, ix_fz, neg_int, app_ref, set_newk, set_new0, iZ, iEn, sl_tup, sl_fz, eLcV, len_tup, len_ref, len_fz, tuple_fz, tuple_ref, ty_non, ty_bl, ty_int, ty_str, ty_tup, ty_fz])
local macro_rules | `(tactic| walk_at "fs") => `(tactic| try simp [runB, cSeq, cNil, cRet, cRetN, cExpr, cIf, cSet, cAsg, cPar, cAug, cRaise, cStore, cPass, cWipe, wipeD, toS_ok, toS_exn, toS_stuck, Res.bd_ok, Res.bd_exn, Res.bd_stuck, Res.bdN_ok, Res.bdN_exn, Res.bdN_stuck,
  eVar, eC, eTup, eLst, eOp, eChain, eUn, eAnd, eOr, eNot, eIf, eRep, tTs, tAnd2, tOr2, tNot2, tTrue, eCall, eBi, eIsi, eMtL, eSl, oNo, oSo, lNil, lCons, iSeq, iRange1, iRange2, zAdd, zSub, zMul, zDiv, zMod, ofO, opInt, opIn, opNotIn, opEq, opNe, opIs, opIsnt, mk_t, mk_f,
  List.map_cons, List.map_nil, List.length_cons, List.length_nil, List.replicate, List.append_nil, List.nil_append, List.cons_append, List.getElem?_cons_zero, List.getElem?_cons_succ, List.getElem?_nil, List.set_cons_zero, List.set_cons_succ, List.set_nil, lm0, lm1, lm2, lm3, lm4, lm5, lm6, lm7, lm8, lm9, asg_nm, asg_tp, asgs_nil, asgs_cons, Option.bind_some, Option.bind_none, Option.map_some, Option.map_none,
  Nat.reduceSub, Nat.reduceAdd, Nat.zero_add, Nat.add_zero, Nat.sub_self, if_true, if_false, reduceIte, Bool.false_eq_true, Bool.true_eq_false, Bool.not_true, Bool.not_false, ix_tup, ix_fz, at0, at1, at2, eDNew, eDGet, eDGet2, eDIn, eDPop, cDPut, cAugS, cSub2, dic_ref, keyOf, reduceCtorEq, and_self, Bool.and_self, decide_true, decide_false, List.append_assoc, List.length_append, Nat.add_assoc, at_new, at_newk, add_fz, add_rf, add_tt, ix_ref, seq_ref, list_ref, seq_tup, seq_fz, list_fz, ix_tup, ix_fz, neg_int, app_ref, set_newk, set_new0, iZ, iEn, sl_tup, sl_fz, eLcV, len_tup, len_ref, len_fz, tuple_fz, tuple_ref, ty_non, ty_bl, ty_int, ty_str, ty_tup, ty_fz, isT, eqD_int, at0, at1])
local macro_rules | `(tactic| walk_at "fh") => `(tactic| try simp [*, runB, cSeq, cNil, cRet, cRetN, cExpr, cIf, cSet, cAsg, cPar, cAug, cRaise, cStore, cPass, cWipe, wipeD, toS_ok, toS_exn, toS_stuck, Res.bd_ok, Res.bd_exn, Res.bd_stuck, Res.bdN_ok, Res.bdN_exn, Res.bdN_stuck,
  eVar, eC, eTup, eLst, eOp, eChain, eUn, eAnd, eOr, eNot, eIf, eRep, tTs, tAnd2, tOr2, tNot2, tTrue, eCall, eBi, eIsi, eMtL, eSl, oNo, oSo, lNil, lCons, iSeq, iRange1, iRange2, zAdd, zSub, zMul, zDiv, zMod, ofO, opInt, opIn, opNotIn, opEq, opNe, opIs, opIsnt, mk_t, mk_f,
  List.map_cons, List.map_nil, List.length_cons, List.length_nil, List.replicate, List.append_nil, List.nil_append, List.cons_append, List.getElem?_cons_zero, List.getElem?_cons_succ, List.getElem?_nil, List.set_cons_zero, List.set_cons_succ, List.set_nil, lm0, lm1, lm2, lm3, lm4, lm5, lm6, lm7, lm8, lm9, asg_nm, asg_tp, asgs_nil, asgs_cons, Option.bind_some, Option.bind_none, Option.map_some, Option.map_none,
  Nat.reduceSub, Nat.reduceAdd, Nat.zero_add, Nat.add_zero, Nat.sub_self, if_true, if_false, reduceIte, Bool.false_eq_true, Bool.true_eq_false, Bool.not_true, Bool.not_false, ix_tup, ix_fz, at0, at1, at2, eDNew, eDGet, eDGet2, eDIn, eDPop, cDPut, cAugS, cSub2, dic_ref, keyOf, reduceCtorEq, and_self, Bool.and_self, decide_true, decide_false, List.append_assoc, List.length_append, Nat.add_assoc, at_new, at_newk, add_fz, add_rf, add_tt, ix_ref, seq_ref, list_ref, seq_tup, seq_fz, list_fz, ix_tup, ix_fz, neg_int, app_ref, set_newk, set_new0, iZ, iEn, sl_tup, sl_fz, eLcV, len_tup, len_ref, len_fz, tuple_fz, tuple_ref, ty_non, ty_bl, ty_int, ty_str, ty_tup, ty_fz, isT, eqD_int, at0, at1])
end Fc
set_option exponentiation.threshold 256
set_option maxHeartbeats 4000000
set_option maxHeartbeats 4000000
namespace Fc
open PySem L2
open Classical in
noncomputable def cd {α : Type} (p : Prop) (a : α) : M α := if p then .ok a else .no
instance nexc_cd {α : Type} (p : Prop) (a : α) : NexC (cd p a) := ⟨fun c => by
  unfold cd
  split <;> exact fun h => nomatch h⟩
end Fc
set_option exponentiation.threshold 256
set_option maxHeartbeats 4000000
set_option maxHeartbeats 4000000
set_option exponentiation.threshold 3000
namespace Fc
open PySem L2
end Fc
set_option exponentiation.threshold 256
set_option maxHeartbeats 4000000
set_option maxHeartbeats 4000000
namespace Fc
open PySem L2
theorem encK_nil : encK [] = [] := rfl
local macro_rules | `(tactic| walk_at "fc") => `(tactic| try simp only [runB, cSeq, cNil, cRet, cRetN, cExpr, cIf, cSet, cAsg, cPar, cAug, cRaise, cStore, cPass, cWipe, wipeD, toS_ok, toS_exn, toS_stuck, Res.bd_ok, Res.bd_exn, Res.bd_stuck, Res.bdN_ok, Res.bdN_exn, Res.bdN_stuck,
  eVar, eC, eTup, eLst, eOp, eChain, eUn, eAnd, eOr, eNot, eIf, eRep, tTs, tAnd2, tOr2, tNot2, tTrue, eCall, eBi, eIsi, eMtL, eSl, oNo, oSo, lNil, lCons, iSeq, iRange1, iRange2, zAdd, zSub, zMul, zDiv, zMod, ofO, opInt, opIn, opNotIn, opEq, opNe, opIs, opIsnt, mk_t, mk_f,
  List.map_cons, List.map_nil, List.length_cons, List.length_nil, List.replicate, List.append_nil, List.nil_append, List.cons_append, List.getElem?_cons_zero, List.getElem?_cons_succ, List.getElem?_nil, List.set_cons_zero, List.set_cons_succ, List.set_nil, lm0, lm1, lm2, lm3, lm4, lm5, lm6, lm7, lm8, lm9, asg_nm, asg_tp, asgs_nil, asgs_cons, Option.bind_some, Option.bind_none, Option.map_some, Option.map_none,
  Nat.reduceSub, Nat.reduceAdd, Nat.zero_add, Nat.add_zero, Nat.sub_self, if_true, if_false, reduceIte, Bool.false_eq_true, Bool.true_eq_false, Bool.not_true, Bool.not_false, ix_tup, ix_fz, at0, at1, at2, eDNew, eDGet, eDGet2, eDIn, eDPop, cDPut, cAugS, cSub2, dic_ref, keyOf, reduceCtorEq, encK_nil, val_enc, put_enc])
local macro_rules | `(tactic| walk_at "fo") => `(tactic| try simp only [*, runB, cSeq, cNil, cRet, cRetN, cExpr, cIf, cSet, cAsg, cPar, cAug, cRaise, cStore, cPass, cWipe, wipeD, toS_ok, toS_exn, toS_stuck, Res.bd_ok, Res.bd_exn, Res.bd_stuck, Res.bdN_ok, Res.bdN_exn, Res.bdN_stuck,
  eVar, eC, eTup, eLst, eOp, eChain, eUn, eAnd, eOr, eNot, eIf, eRep, tTs, tAnd2, tOr2, tNot2, tTrue, eCall, eBi, eIsi, eMtL, eSl, oNo, oSo, lNil, lCons, iSeq, iRange1, iRange2, zAdd, zSub, zMul, zDiv, zMod, ofO, opInt, opIn, opNotIn, opEq, opNe, opIs, opIsnt, mk_t, mk_f,
  List.map_cons, List.map_nil, List.length_cons, List.length_nil, List.replicate, List.append_nil, List.nil_append, List.cons_append, List.getElem?_cons_zero, List.getElem?_cons_succ, List.getElem?_nil, List.set_cons_zero, List.set_cons_succ, List.set_nil, lm0, lm1, lm2, lm3, lm4, lm5, lm6, lm7, lm8, lm9, asg_nm, asg_tp, asgs_nil, asgs_cons, Option.bind_some, Option.bind_none, Option.map_some, Option.map_none,
  Nat.reduceSub, Nat.reduceAdd, Nat.zero_add, Nat.add_zero, Nat.sub_self, if_true, if_false, reduceIte, Bool.false_eq_true, Bool.true_eq_false, Bool.not_true, Bool.not_false, ix_tup, ix_fz, at0, at1, at2, eDNew, eDGet, eDGet2, eDIn, eDPop, cDPut, cAugS, cSub2, dic_ref, keyOf, reduceCtorEq, and_self, Bool.and_self, decide_true, decide_false, List.append_assoc, List.length_append, Nat.add_assoc, at_new, at_newk, add_fz, add_rf, add_tt, ix_ref, seq_ref, list_ref, seq_tup, seq_fz, list_fz, ix_tup, ix_fz, neg_int, app_ref, set_newk, set_new0, iZ, iEn, sl_tup, sl_fz, eLcV, len_tup, len_ref, len_fz, tuple_fz, tuple_ref, ty_non, ty_bl, ty_int, ty_str, ty_tup, ty_fz, encK_nil, val_enc, put_enc])
local macro_rules | `(tactic| walk_at "fg") => `(tactic| try simp only [*, runB, cSeq, cNil, cRet, cRetN, cExpr, cIf, cSet, cAsg, cPar, cAug, cRaise, cStore, cPass, cWipe, wipeD, toS_ok, toS_exn, toS_stuck, Res.bd_ok, Res.bd_exn, Res.bd_stuck, Res.bdN_ok, Res.bdN_exn, Res.bdN_stuck,
  eVar, eC, eTup, eLst, eOp, eChain, eUn, eAnd, eOr, eNot, eIf, eRep, tTs, tAnd2, tOr2, tNot2, tTrue, eCall, eBi, eIsi, eMtL, eSl, oNo, oSo, lNil, lCons, iSeq, iRange1, iRange2, zAdd, zSub, zMul, zDiv, zMod, ofO, opInt, opIn, opNotIn, opEq, opNe, opIs, opIsnt, mk_t, mk_f,
  List.map_cons, List.map_nil, List.length_cons, List.length_nil, List.replicate, List.append_nil, List.nil_append, List.cons_append, List.getElem?_cons_zero, List.getElem?_cons_succ, List.getElem?_nil, List.set_cons_zero, List.set_cons_succ, List.set_nil, lm0, lm1, lm2, lm3, lm4, lm5, lm6, lm7, lm8, lm9, asg_nm, asg_tp, asgs_nil, asgs_cons, Option.bind_some, Option.bind_none, Option.map_some, Option.map_none,
  Nat.reduceSub, Nat.reduceAdd, Nat.zero_add, Nat.add_zero, Nat.sub_self, if_true, if_false, reduceIte, Bool.false_eq_true, Bool.true_eq_false, Bool.not_true, Bool.not_false, ix_tup, ix_fz, at0, at1, at2, eDNew, eDGet, eDGet2, eDIn, eDPop, cDPut, cAugS, cSub2, dic_ref, keyOf, reduceCtorEq, and_self, Bool.and_self, decide_true, decide_false, List.append_assoc, List.length_append, Nat.add_assoc, at_new, at_newk, add_fz, add_rf, add_tt, ix_ref, seq_ref, list_ref, seq_tup, seq_fz, list_fz, ix_tup, ix_fz, neg_int, app_ref, set_newk, set_new0, iZ, iEn, sl_tup, sl_fz, eLcV, len_tup, len_ref, len_fz, tuple_fz, tuple_ref, ty_non, ty_bl, ty_int, ty_str, ty_tup, ty_fz, encK_nil, val_enc, put_enc])
local macro_rules | `(tactic| walk_at "fs") => `(tactic| try simp [runB, cSeq, cNil, cRet, cRetN, cExpr, cIf, cSet, cAsg, cPar, cAug, cRaise, cStore, cPass, cWipe, wipeD, toS_ok, toS_exn, toS_stuck, Res.bd_ok, Res.bd_exn, Res.bd_stuck, Res.bdN_ok, Res.bdN_exn, Res.bdN_stuck,
  eVar, eC, eTup, eLst, eOp, eChain, eUn, eAnd, eOr, eNot, eIf, eRep, tTs, tAnd2, tOr2, tNot2, tTrue, eCall, eBi, eIsi, eMtL, eSl, oNo, oSo, lNil, lCons, iSeq, iRange1, iRange2, zAdd, zSub, zMul, zDiv, zMod, ofO, opInt, opIn, opNotIn, opEq, opNe, opIs, opIsnt, mk_t, mk_f,
  List.map_cons, List.map_nil, List.length_cons, List.length_nil, List.replicate, List.append_nil, List.nil_append, List.cons_append, List.getElem?_cons_zero, List.getElem?_cons_succ, List.getElem?_nil, List.set_cons_zero, List.set_cons_succ, List.set_nil, lm0, lm1, lm2, lm3, lm4, lm5, lm6, lm7, lm8, lm9, asg_nm, asg_tp, asgs_nil, asgs_cons, Option.bind_some, Option.bind_none, Option.map_some, Option.map_none,
  Nat.reduceSub, Nat.reduceAdd, Nat.zero_add, Nat.add_zero, Nat.sub_self, if_true, if_false, reduceIte, Bool.false_eq_true, Bool.true_eq_false, Bool.not_true, Bool.not_false, ix_tup, ix_fz, at0, at1, at2, eDNew, eDGet, eDGet2, eDIn, eDPop, cDPut, cAugS, cSub2, dic_ref, keyOf, reduceCtorEq, and_self, Bool.and_self, decide_true, decide_false, List.append_assoc, List.length_append, Nat.add_assoc, at_new, at_newk, add_fz, add_rf, add_tt, ix_ref, seq_ref, list_ref, seq_tup, seq_fz, list_fz, ix_tup, ix_fz, neg_int, app_ref, set_newk, set_new0, iZ, iEn, sl_tup, sl_fz, eLcV, len_tup, len_ref, len_fz, tuple_fz, tuple_ref, ty_non, ty_bl, ty_int, ty_str, ty_tup, ty_fz, isT, eqD_int, at0, at1, encK_nil, val_enc, put_enc])
local macro_rules | `(tactic| walk_at "fh") => `(tactic| try simp [*, runB, cSeq, cNil, cRet, cRetN, cExpr, cIf, cSet, cAsg, cPar, cAug, cRaise, cStore, cPass, cWipe, wipeD, toS_ok, toS_exn, toS_stuck, Res.bd_ok, Res.bd_exn, Res.bd_stuck, Res.bdN_ok, Res.bdN_exn, Res.bdN_stuck,
  eVar, eC, eTup, eLst, eOp, eChain, eUn, eAnd, eOr, eNot, eIf, eRep, tTs, tAnd2, tOr2, tNot2, tTrue, eCall, eBi, eIsi, eMtL, eSl, oNo, oSo, lNil, lCons, iSeq, iRange1, iRange2, zAdd, zSub, zMul, zDiv, zMod, ofO, opInt, opIn, opNotIn, opEq, opNe, opIs, opIsnt, mk_t, mk_f,
  List.map_cons, List.map_nil, List.length_cons, List.length_nil, List.replicate, List.append_nil, List.nil_append, List.cons_append, List.getElem?_cons_zero, List.getElem?_cons_succ, List.getElem?_nil, List.set_cons_zero, List.set_cons_succ, List.set_nil, lm0, lm1, lm2, lm3, lm4, lm5, lm6, lm7, lm8, lm9, asg_nm, asg_tp, asgs_nil, asgs_cons, Option.bind_some, Option.bind_none, Option.map_some, Option.map_none,
  Nat.reduceSub, Nat.reduceAdd, Nat.zero_add, Nat.add_zero, Nat.sub_self, if_true, if_false, reduceIte, Bool.false_eq_true, Bool.true_eq_false, Bool.not_true, Bool.not_false, ix_tup, ix_fz, at0, at1, at2, eDNew, eDGet, eDGet2, eDIn, eDPop, cDPut, cAugS, cSub2, dic_ref, keyOf, reduceCtorEq, and_self, Bool.and_self, decide_true, decide_false, List.append_assoc, List.length_append, Nat.add_assoc, at_new, at_newk, add_fz, add_rf, add_tt, ix_ref, seq_ref, list_ref, seq_tup, seq_fz, list_fz, ix_tup, ix_fz, neg_int, app_ref, set_newk, set_new0, iZ, iEn, sl_tup, sl_fz, eLcV, len_tup, len_ref, len_fz, tuple_fz, tuple_ref, ty_non, ty_bl, ty_int, ty_str, ty_tup, ty_fz, isT, eqD_int, at0, at1, encK_nil, val_enc, put_enc])
def constOf (m : Nat) : Sta → List Rat
  | .go _ => (List.replicate (m + 1) (0 : Rat)).set m 1
  | .fin o => (List.replicate (m + 1) (0 : Rat)).set o 1
def shareOf (s : Int) : Sta → Nat → Rat
  | .go l => fun j => (l.count j : Rat) / (s : Rat)
  | .fin _ => fun _ => 0
structure Form (s : Int) (m : Nat) (t : List Sta) : Prop where
  sd : 2 ≤ s ∧ s ≤ 6
  my : 1 ≤ m ∧ m ≤ 6
  go : ∀ l, .go l ∈ t → (l.length : Int) = s ∧ ∀ j ∈ l, j < t.length
  fin : ∀ o, .fin o ∈ t → o < m
end Fc
set_option exponentiation.threshold 256
set_option maxHeartbeats 4000000
set_option maxHeartbeats 4000000
set_option exponentiation.threshold 3000
namespace Fc
open PySem L2
local macro_rules | `(tactic| walk_at "fc") => `(tactic| try simp only [runB, cSeq, cNil, cRet, cRetN, cExpr, cIf, cSet, cAsg, cPar, cAug, cRaise, cStore, cPass, cWipe, wipeD, toS_ok, toS_exn, toS_stuck, Res.bd_ok, Res.bd_exn, Res.bd_stuck, Res.bdN_ok, Res.bdN_exn, Res.bdN_stuck,
  eVar, eC, eTup, eLst, eOp, eChain, eUn, eAnd, eOr, eNot, eIf, eRep, tTs, tAnd2, tOr2, tNot2, tTrue, eCall, eBi, eIsi, eMtL, eSl, oNo, oSo, lNil, lCons, iSeq, iRange1, iRange2, zAdd, zSub, zMul, zDiv, zMod, ofO, opInt, opIn, opNotIn, opEq, opNe, opIs, opIsnt, mk_t, mk_f,
  List.map_cons, List.map_nil, List.length_cons, List.length_nil, List.replicate, List.append_nil, List.nil_append, List.cons_append, List.getElem?_cons_zero, List.getElem?_cons_succ, List.getElem?_nil, List.set_cons_zero, List.set_cons_succ, List.set_nil, lm0, lm1, lm2, lm3, lm4, lm5, lm6, lm7, lm8, lm9, asg_nm, asg_tp, asgs_nil, asgs_cons, Option.bind_some, Option.bind_none, Option.map_some, Option.map_none,
  Nat.reduceSub, Nat.reduceAdd, Nat.zero_add, Nat.add_zero, Nat.sub_self, if_true, if_false, reduceIte, Bool.false_eq_true, Bool.true_eq_false, Bool.not_true, Bool.not_false, ix_tup, ix_fz, at0, at1, at2, eDNew, eDGet, eDGet2, eDIn, eDPop, cDPut, cAugS, cSub2, dic_ref, keyOf, reduceCtorEq, val_enc, put_enc, drop_enc])
local macro_rules | `(tactic| walk_at "fo") => `(tactic| try simp only [*, runB, cSeq, cNil, cRet, cRetN, cExpr, cIf, cSet, cAsg, cPar, cAug, cRaise, cStore, cPass, cWipe, wipeD, toS_ok, toS_exn, toS_stuck, Res.bd_ok, Res.bd_exn, Res.bd_stuck, Res.bdN_ok, Res.bdN_exn, Res.bdN_stuck,
  eVar, eC, eTup, eLst, eOp, eChain, eUn, eAnd, eOr, eNot, eIf, eRep, tTs, tAnd2, tOr2, tNot2, tTrue, eCall, eBi, eIsi, eMtL, eSl, oNo, oSo, lNil, lCons, iSeq, iRange1, iRange2, zAdd, zSub, zMul, zDiv, zMod, ofO, opInt, opIn, opNotIn, opEq, opNe, opIs, opIsnt, mk_t, mk_f,
  List.map_cons, List.map_nil, List.length_cons, List.length_nil, List.replicate, List.append_nil, List.nil_append, List.cons_append, List.getElem?_cons_zero, List.getElem?_cons_succ, List.getElem?_nil, List.set_cons_zero, List.set_cons_succ, List.set_nil, lm0, lm1, lm2, lm3, lm4, lm5, lm6, lm7, lm8, lm9, asg_nm, asg_tp, asgs_nil, asgs_cons, Option.bind_some, Option.bind_none, Option.map_some, Option.map_none,
  Nat.reduceSub, Nat.reduceAdd, Nat.zero_add, Nat.add_zero, Nat.sub_self, if_true, if_false, reduceIte, Bool.false_eq_true, Bool.true_eq_false, Bool.not_true, Bool.not_false, ix_tup, ix_fz, at0, at1, at2, eDNew, eDGet, eDGet2, eDIn, eDPop, cDPut, cAugS, cSub2, dic_ref, keyOf, reduceCtorEq, and_self, Bool.and_self, decide_true, decide_false, List.append_assoc, List.length_append, Nat.add_assoc, at_new, at_newk, add_fz, add_rf, add_tt, ix_ref, seq_ref, list_ref, seq_tup, seq_fz, list_fz, ix_tup, ix_fz, neg_int, app_ref, set_newk, set_new0, iZ, iEn, sl_tup, sl_fz, eLcV, len_tup, len_ref, len_fz, tuple_fz, tuple_ref, ty_non, ty_bl, ty_int, ty_str, ty_tup, ty_fz, val_enc, put_enc, drop_enc])
local macro_rules | `(tactic| walk_at "fg") => `(tactic| try simp only [*, runB, cSeq, cNil, cRet, cRetN, cExpr, cIf, cSet, cAsg, cPar, cAug, cRaise, cStore, cPass, cWipe, wipeD, toS_ok, toS_exn, toS_stuck, Res.bd_ok, Res.bd_exn, Res.bd_stuck, Res.bdN_ok, Res.bdN_exn, Res.bdN_stuck,
  eVar, eC, eTup, eLst, eOp, eChain, eUn, eAnd, eOr, eNot, eIf, eRep, tTs, tAnd2, tOr2, tNot2, tTrue, eCall, eBi, eIsi, eMtL, eSl, oNo, oSo, lNil, lCons, iSeq, iRange1, iRange2, zAdd, zSub, zMul, zDiv, zMod, ofO, opInt, opIn, opNotIn, opEq, opNe, opIs, opIsnt, mk_t, mk_f,
  List.map_cons, List.map_nil, List.length_cons, List.length_nil, List.replicate, List.append_nil, List.nil_append, List.cons_append, List.getElem?_cons_zero, List.getElem?_cons_succ, List.getElem?_nil, List.set_cons_zero, List.set_cons_succ, List.set_nil, lm0, lm1, lm2, lm3, lm4, lm5, lm6, lm7, lm8, lm9, asg_nm, asg_tp, asgs_nil, asgs_cons, Option.bind_some, Option.bind_none, Option.map_some, Option.map_none,
  Nat.reduceSub, Nat.reduceAdd, Nat.zero_add, Nat.add_zero, Nat.sub_self, if_true, if_false, reduceIte, Bool.false_eq_true, Bool.true_eq_false, Bool.not_true, Bool.not_false, ix_tup, ix_fz, at0, at1, at2, eDNew, eDGet, eDGet2, eDIn, eDPop, cDPut, cAugS, cSub2, dic_ref, keyOf, reduceCtorEq, and_self, Bool.and_self, decide_true, decide_false, List.append_assoc, List.length_append, Nat.add_assoc, at_new, at_newk, add_fz, add_rf, add_tt, ix_ref, seq_ref, list_ref, seq_tup, seq_fz, list_fz, ix_tup, ix_fz, neg_int, app_ref, set_newk, set_new0, iZ, iEn, sl_tup, sl_fz, eLcV, len_tup, len_ref, len_fz, tuple_fz, tuple_ref, ty_non, ty_bl, ty_int, ty_str, ty_tup, ty_fz, val_enc, put_enc, drop_enc])
local macro_rules | `(tactic| walk_at "fs") => `(tactic| try simp [runB, cSeq, cNil, cRet, cRetN, cExpr, cIf, cSet, cAsg, cPar, cAug, cRaise, cStore, cPass, cWipe, wipeD, toS_ok, toS_exn, toS_stuck, Res.bd_ok, Res.bd_exn, Res.bd_stuck, Res.bdN_ok, Res.bdN_exn, Res.bdN_stuck,
  eVar, eC, eTup, eLst, eOp, eChain, eUn, eAnd, eOr, eNot, eIf, eRep, tTs, tAnd2, tOr2, tNot2, tTrue, eCall, eBi, eIsi, eMtL, eSl, oNo, oSo, lNil, lCons, iSeq, iRange1, iRange2, zAdd, zSub, zMul, zDiv, zMod, ofO, opInt, opIn, opNotIn, opEq, opNe, opIs, opIsnt, mk_t, mk_f,
  List.map_cons, List.map_nil, List.length_cons, List.length_nil, List.replicate, List.append_nil, List.nil_append, List.cons_append, List.getElem?_cons_zero, List.getElem?_cons_succ, List.getElem?_nil, List.set_cons_zero, List.set_cons_succ, List.set_nil, lm0, lm1, lm2, lm3, lm4, lm5, lm6, lm7, lm8, lm9, asg_nm, asg_tp, asgs_nil, asgs_cons, Option.bind_some, Option.bind_none, Option.map_some, Option.map_none,
  Nat.reduceSub, Nat.reduceAdd, Nat.zero_add, Nat.add_zero, Nat.sub_self, if_true, if_false, reduceIte, Bool.false_eq_true, Bool.true_eq_false, Bool.not_true, Bool.not_false, ix_tup, ix_fz, at0, at1, at2, eDNew, eDGet, eDGet2, eDIn, eDPop, cDPut, cAugS, cSub2, dic_ref, keyOf, reduceCtorEq, and_self, Bool.and_self, decide_true, decide_false, List.append_assoc, List.length_append, Nat.add_assoc, at_new, at_newk, add_fz, add_rf, add_tt, ix_ref, seq_ref, list_ref, seq_tup, seq_fz, list_fz, ix_tup, ix_fz, neg_int, app_ref, set_newk, set_new0, iZ, iEn, sl_tup, sl_fz, eLcV, len_tup, len_ref, len_fz, tuple_fz, tuple_ref, ty_non, ty_bl, ty_int, ty_str, ty_tup, ty_fz, isT, eqD_int, at0, at1, val_enc, put_enc, drop_enc])
local macro_rules | `(tactic| walk_at "fh") => `(tactic| try simp [*, runB, cSeq, cNil, cRet, cRetN, cExpr, cIf, cSet, cAsg, cPar, cAug, cRaise, cStore, cPass, cWipe, wipeD, toS_ok, toS_exn, toS_stuck, Res.bd_ok, Res.bd_exn, Res.bd_stuck, Res.bdN_ok, Res.bdN_exn, Res.bdN_stuck,
  eVar, eC, eTup, eLst, eOp, eChain, eUn, eAnd, eOr, eNot, eIf, eRep, tTs, tAnd2, tOr2, tNot2, tTrue, eCall, eBi, eIsi, eMtL, eSl, oNo, oSo, lNil, lCons, iSeq, iRange1, iRange2, zAdd, zSub, zMul, zDiv, zMod, ofO, opInt, opIn, opNotIn, opEq, opNe, opIs, opIsnt, mk_t, mk_f,
  List.map_cons, List.map_nil, List.length_cons, List.length_nil, List.replicate, List.append_nil, List.nil_append, List.cons_append, List.getElem?_cons_zero, List.getElem?_cons_succ, List.getElem?_nil, List.set_cons_zero, List.set_cons_succ, List.set_nil, lm0, lm1, lm2, lm3, lm4, lm5, lm6, lm7, lm8, lm9, asg_nm, asg_tp, asgs_nil, asgs_cons, Option.bind_some, Option.bind_none, Option.map_some, Option.map_none,
  Nat.reduceSub, Nat.reduceAdd, Nat.zero_add, Nat.add_zero, Nat.sub_self, if_true, if_false, reduceIte, Bool.false_eq_true, Bool.true_eq_false, Bool.not_true, Bool.not_false, ix_tup, ix_fz, at0, at1, at2, eDNew, eDGet, eDGet2, eDIn, eDPop, cDPut, cAugS, cSub2, dic_ref, keyOf, reduceCtorEq, and_self, Bool.and_self, decide_true, decide_false, List.append_assoc, List.length_append, Nat.add_assoc, at_new, at_newk, add_fz, add_rf, add_tt, ix_ref, seq_ref, list_ref, seq_tup, seq_fz, list_fz, ix_tup, ix_fz, neg_int, app_ref, set_newk, set_new0, iZ, iEn, sl_tup, sl_fz, eLcV, len_tup, len_ref, len_fz, tuple_fz, tuple_ref, ty_non, ty_bl, ty_int, ty_str, ty_tup, ty_fz, isT, eqD_int, at0, at1, val_enc, put_enc, drop_enc])
end Fc
set_option exponentiation.threshold 256
set_option maxHeartbeats 4000000
set_option maxHeartbeats 4000000
set_option exponentiation.threshold 3000
namespace Fc
open PySem L2
local macro_rules | `(tactic| walk_at "fc") => `(tactic| try simp only [runB, cSeq, cNil, cRet, cRetN, cExpr, cIf, cSet, cAsg, cPar, cAug, cRaise, cStore, cPass, cWipe, wipeD, toS_ok, toS_exn, toS_stuck, Res.bd_ok, Res.bd_exn, Res.bd_stuck, Res.bdN_ok, Res.bdN_exn, Res.bdN_stuck,
  eVar, eC, eTup, eLst, eOp, eChain, eUn, eAnd, eOr, eNot, eIf, eRep, tTs, tAnd2, tOr2, tNot2, tTrue, eCall, eBi, eIsi, eMtL, eSl, oNo, oSo, lNil, lCons, iSeq, iRange1, iRange2, zAdd, zSub, zMul, zDiv, zMod, ofO, opInt, opIn, opNotIn, opEq, opNe, opIs, opIsnt, mk_t, mk_f,
  List.map_cons, List.map_nil, List.length_cons, List.length_nil, List.replicate, List.append_nil, List.nil_append, List.cons_append, List.getElem?_cons_zero, List.getElem?_cons_succ, List.getElem?_nil, List.set_cons_zero, List.set_cons_succ, List.set_nil, lm0, lm1, lm2, lm3, lm4, lm5, lm6, lm7, lm8, lm9, asg_nm, asg_tp, asgs_nil, asgs_cons, Option.bind_some, Option.bind_none, Option.map_some, Option.map_none,
  Nat.reduceSub, Nat.reduceAdd, Nat.zero_add, Nat.add_zero, Nat.sub_self, if_true, if_false, reduceIte, Bool.false_eq_true, Bool.true_eq_false, Bool.not_true, Bool.not_false, ix_tup, ix_fz, at0, at1, at2, eDNew, eDGet, eDGet2, eDIn, eDPop, cDPut, cAugS, cSub2, dic_ref, keyOf, reduceCtorEq, val_enc, put_enc, drop_enc])
local macro_rules | `(tactic| walk_at "fo") => `(tactic| try simp only [*, runB, cSeq, cNil, cRet, cRetN, cExpr, cIf, cSet, cAsg, cPar, cAug, cRaise, cStore, cPass, cWipe, wipeD, toS_ok, toS_exn, toS_stuck, Res.bd_ok, Res.bd_exn, Res.bd_stuck, Res.bdN_ok, Res.bdN_exn, Res.bdN_stuck,
  eVar, eC, eTup, eLst, eOp, eChain, eUn, eAnd, eOr, eNot, eIf, eRep, tTs, tAnd2, tOr2, tNot2, tTrue, eCall, eBi, eIsi, eMtL, eSl, oNo, oSo, lNil, lCons, iSeq, iRange1, iRange2, zAdd, zSub, zMul, zDiv, zMod, ofO, opInt, opIn, opNotIn, opEq, opNe, opIs, opIsnt, mk_t, mk_f,
  List.map_cons, List.map_nil, List.length_cons, List.length_nil, List.replicate, List.append_nil, List.nil_append, List.cons_append, List.getElem?_cons_zero, List.getElem?_cons_succ, List.getElem?_nil, List.set_cons_zero, List.set_cons_succ, List.set_nil, lm0, lm1, lm2, lm3, lm4, lm5, lm6, lm7, lm8, lm9, asg_nm, asg_tp, asgs_nil, asgs_cons, Option.bind_some, Option.bind_none, Option.map_some, Option.map_none,
  Nat.reduceSub, Nat.reduceAdd, Nat.zero_add, Nat.add_zero, Nat.sub_self, if_true, if_false, reduceIte, Bool.false_eq_true, Bool.true_eq_false, Bool.not_true, Bool.not_false, ix_tup, ix_fz, at0, at1, at2, eDNew, eDGet, eDGet2, eDIn, eDPop, cDPut, cAugS, cSub2, dic_ref, keyOf, reduceCtorEq, and_self, Bool.and_self, decide_true, decide_false, List.append_assoc, List.length_append, Nat.add_assoc, at_new, at_newk, add_fz, add_rf, add_tt, ix_ref, seq_ref, list_ref, seq_tup, seq_fz, list_fz, ix_tup, ix_fz, neg_int, app_ref, set_newk, set_new0, iZ, iEn, sl_tup, sl_fz, eLcV, len_tup, len_ref, len_fz, tuple_fz, tuple_ref, ty_non, ty_bl, ty_int, ty_str, ty_tup, ty_fz, val_enc, put_enc, drop_enc])
local macro_rules | `(tactic| walk_at "fg") => `(tactic| try simp only [*, runB, cSeq, cNil, cRet, cRetN, cExpr, cIf, cSet, cAsg, cPar, cAug, cRaise, cStore, cPass, cWipe, wipeD, toS_ok, toS_exn, toS_stuck, Res.bd_ok, Res.bd_exn, Res.bd_stuck, Res.bdN_ok, Res.bdN_exn, Res.bdN_stuck,
  eVar, eC, eTup, eLst, eOp, eChain, eUn, eAnd, eOr, eNot, eIf, eRep, tTs, tAnd2, tOr2, tNot2, tTrue, eCall, eBi, eIsi, eMtL, eSl, oNo, oSo, lNil, lCons, iSeq, iRange1, iRange2, zAdd, zSub, zMul, zDiv, zMod, ofO, opInt, opIn, opNotIn, opEq, opNe, opIs, opIsnt, mk_t, mk_f,
  List.map_cons, List.map_nil, List.length_cons, List.length_nil, List.replicate, List.append_nil, List.nil_append, List.cons_append, List.getElem?_cons_zero, List.getElem?_cons_succ, List.getElem?_nil, List.set_cons_zero, List.set_cons_succ, List.set_nil, lm0, lm1, lm2, lm3, lm4, lm5, lm6, lm7, lm8, lm9, asg_nm, asg_tp, asgs_nil, asgs_cons, Option.bind_some, Option.bind_none, Option.map_some, Option.map_none,
  Nat.reduceSub, Nat.reduceAdd, Nat.zero_add, Nat.add_zero, Nat.sub_self, if_true, if_false, reduceIte, Bool.false_eq_true, Bool.true_eq_false, Bool.not_true, Bool.not_false, ix_tup, ix_fz, at0, at1, at2, eDNew, eDGet, eDGet2, eDIn, eDPop, cDPut, cAugS, cSub2, dic_ref, keyOf, reduceCtorEq, and_self, Bool.and_self, decide_true, decide_false, List.append_assoc, List.length_append, Nat.add_assoc, at_new, at_newk, add_fz, add_rf, add_tt, ix_ref, seq_ref, list_ref, seq_tup, seq_fz, list_fz, ix_tup, ix_fz, neg_int, app_ref, set_newk, set_new0, iZ, iEn, sl_tup, sl_fz, eLcV, len_tup, len_ref, len_fz, tuple_fz, tuple_ref, ty_non, ty_bl, ty_int, ty_str, ty_tup, ty_fz, val_enc, put_enc, drop_enc])
local macro_rules | `(tactic| walk_at "fs") => `(tactic| try simp [runB, cSeq, cNil, cRet, cRetN, cExpr, cIf, cSet, cAsg, cPar, cAug, cRaise, cStore, cPass, cWipe, wipeD, toS_ok, toS_exn, toS_stuck, Res.bd_ok, Res.bd_exn, Res.bd_stuck, Res.bdN_ok, Res.bdN_exn, Res.bdN_stuck,
  eVar, eC, eTup, eLst, eOp, eChain, eUn, eAnd, eOr, eNot, eIf, eRep, tTs, tAnd2, tOr2, tNot2, tTrue, eCall, eBi, eIsi, eMtL, eSl, oNo, oSo, lNil, lCons, iSeq, iRange1, iRange2, zAdd, zSub, zMul, zDiv, zMod, ofO, opInt, opIn, opNotIn, opEq, opNe, opIs, opIsnt, mk_t, mk_f,
  List.map_cons, List.map_nil, List.length_cons, List.length_nil, List.replicate, List.append_nil, List.nil_append, List.cons_append, List.getElem?_cons_zero, List.getElem?_cons_succ, List.getElem?_nil, List.set_cons_zero, List.set_cons_succ, List.set_nil, lm0, lm1, lm2, lm3, lm4, lm5, lm6, lm7, lm8, lm9, asg_nm, asg_tp, asgs_nil, asgs_cons, Option.bind_some, Option.bind_none, Option.map_some, Option.map_none,
  Nat.reduceSub, Nat.reduceAdd, Nat.zero_add, Nat.add_zero, Nat.sub_self, if_true, if_false, reduceIte, Bool.false_eq_true, Bool.true_eq_false, Bool.not_true, Bool.not_false, ix_tup, ix_fz, at0, at1, at2, eDNew, eDGet, eDGet2, eDIn, eDPop, cDPut, cAugS, cSub2, dic_ref, keyOf, reduceCtorEq, and_self, Bool.and_self, decide_true, decide_false, List.append_assoc, List.length_append, Nat.add_assoc, at_new, at_newk, add_fz, add_rf, add_tt, ix_ref, seq_ref, list_ref, seq_tup, seq_fz, list_fz, ix_tup, ix_fz, neg_int, app_ref, set_newk, set_new0, iZ, iEn, sl_tup, sl_fz, eLcV, len_tup, len_ref, len_fz, tuple_fz, tuple_ref, ty_non, ty_bl, ty_int, ty_str, ty_tup, ty_fz, isT, eqD_int, at0, at1, val_enc, put_enc, drop_enc])
local macro_rules | `(tactic| walk_at "fh") => `(tactic| try simp [*, runB, cSeq, cNil, cRet, cRetN, cExpr, cIf, cSet, cAsg, cPar, cAug, cRaise, cStore, cPass, cWipe, wipeD, toS_ok, toS_exn, toS_stuck, Res.bd_ok, Res.bd_exn, Res.bd_stuck, Res.bdN_ok, Res.bdN_exn, Res.bdN_stuck,
  eVar, eC, eTup, eLst, eOp, eChain, eUn, eAnd, eOr, eNot, eIf, eRep, tTs, tAnd2, tOr2, tNot2, tTrue, eCall, eBi, eIsi, eMtL, eSl, oNo, oSo, lNil, lCons, iSeq, iRange1, iRange2, zAdd, zSub, zMul, zDiv, zMod, ofO, opInt, opIn, opNotIn, opEq, opNe, opIs, opIsnt, mk_t, mk_f,
  List.map_cons, List.map_nil, List.length_cons, List.length_nil, List.replicate, List.append_nil, List.nil_append, List.cons_append, List.getElem?_cons_zero, List.getElem?_cons_succ, List.getElem?_nil, List.set_cons_zero, List.set_cons_succ, List.set_nil, lm0, lm1, lm2, lm3, lm4, lm5, lm6, lm7, lm8, lm9, asg_nm, asg_tp, asgs_nil, asgs_cons, Option.bind_some, Option.bind_none, Option.map_some, Option.map_none,
  Nat.reduceSub, Nat.reduceAdd, Nat.zero_add, Nat.add_zero, Nat.sub_self, if_true, if_false, reduceIte, Bool.false_eq_true, Bool.true_eq_false, Bool.not_true, Bool.not_false, ix_tup, ix_fz, at0, at1, at2, eDNew, eDGet, eDGet2, eDIn, eDPop, cDPut, cAugS, cSub2, dic_ref, keyOf, reduceCtorEq, and_self, Bool.and_self, decide_true, decide_false, List.append_assoc, List.length_append, Nat.add_assoc, at_new, at_newk, add_fz, add_rf, add_tt, ix_ref, seq_ref, list_ref, seq_tup, seq_fz, list_fz, ix_tup, ix_fz, neg_int, app_ref, set_newk, set_new0, iZ, iEn, sl_tup, sl_fz, eLcV, len_tup, len_ref, len_fz, tuple_fz, tuple_ref, ty_non, ty_bl, ty_int, ty_str, ty_tup, ty_fz, isT, eqD_int, at0, at1, val_enc, put_enc, drop_enc])
theorem nodup_lt : ∀ (B : Nat) (l : List Nat), l.Nodup → (∀ x ∈ l, x < B) → l.length ≤ B := by
  intro B
  induction B with
  | zero =>
    intro l _ h
    cases l with
    | nil => simp
    | cons x l => exact absurd (h x (by simp)) (by omega)
  | succ B ih =>
    intro l hn h
    have h1 := ih (l.erase B) (hn.erase B) fun x hx => by
      have h2 := h x (List.mem_of_mem_erase hx)
      have h3 : x ≠ B := fun e => by
        subst e
        exact (List.Nodup.mem_erase_iff hn).mp hx |>.1 rfl
      omega
    have : l.length ≤ (l.erase B).length + 1 := by
      rw [List.length_erase]
      split <;> omega
    omega
theorem Row.len {ks : KQ} {a : Nat → Rat} {N : Nat} (r : Row ks a) (h : ∀ j, N ≤ j → a j = 0) : ks.length ≤ N := by
  have := nodup_lt N (ks.map (·.1)) r.nd fun x hx => by
    obtain ⟨p, hp, rfl⟩ := List.mem_map.mp hx
    rcases Nat.lt_or_ge p.1 N with z | z
    · exact z
    · have := r.mem hp
      rw [h _ z] at this
      exact absurd this.1.symm this.2
  simpa using this
structure Sys (T0 : Sto) (N w : Nat) (A C : Nat → Nat → Rat) (ds : List Nat) (bs : List Dv) (T : Sto) : Prop where
  base : ∀ i, i < T0.length → T[i]? = T0[i]?
  dl : ds.length = N
  bl : bs.length = N
  h0 : T[T0.length]? = some (.lst (ds.map Dv.ref))
  h1 : T[T0.length + 1]? = some (.lst bs)
  inj : ∀ (i j d : Nat), ds[i]? = some d → ds[j]? = some d → i = j
  row : ∀ (i d : Nat), ds[i]? = some d → T0.length + 2 ≤ d ∧ ∃ ks, T[d]? = some (.dic (encK ks)) ∧ Row ks (A i)
  con : ∀ (i : Nat) (b : Dv), bs[i]? = some b → seqOf T b = some ((List.range w).map fun k => fr (C i k)) ∧ ∀ c, b = .ref c → T0.length + 2 ≤ c
def upd2 (A : Nat → Nat → Rat) (i : Nat) (r : Nat → Rat) : Nat → Nat → Rat := fun a j => if a = i then r j else A a j
end Fc
set_option exponentiation.threshold 256
set_option maxHeartbeats 4000000
set_option maxHeartbeats 4000000
set_option exponentiation.threshold 3000
namespace Fc
open PySem L2
local macro_rules | `(tactic| walk_at "fc") => `(tactic| try simp only [runB, cSeq, cNil, cRet, cRetN, cExpr, cIf, cSet, cAsg, cPar, cAug, cRaise, cStore, cPass, cWipe, wipeD, toS_ok, toS_exn, toS_stuck, Res.bd_ok, Res.bd_exn, Res.bd_stuck, Res.bdN_ok, Res.bdN_exn, Res.bdN_stuck,
  eVar, eC, eTup, eLst, eOp, eChain, eUn, eAnd, eOr, eNot, eIf, eRep, tTs, tAnd2, tOr2, tNot2, tTrue, eCall, eBi, eIsi, eMtL, eSl, oNo, oSo, lNil, lCons, iSeq, iRange1, iRange2, zAdd, zSub, zMul, zDiv, zMod, ofO, opInt, opIn, opNotIn, opEq, opNe, opIs, opIsnt, mk_t, mk_f,
  List.map_cons, List.map_nil, List.length_cons, List.length_nil, List.replicate, List.append_nil, List.nil_append, List.cons_append, List.getElem?_cons_zero, List.getElem?_cons_succ, List.getElem?_nil, List.set_cons_zero, List.set_cons_succ, List.set_nil, lm0, lm1, lm2, lm3, lm4, lm5, lm6, lm7, lm8, lm9, asg_nm, asg_tp, asgs_nil, asgs_cons, Option.bind_some, Option.bind_none, Option.map_some, Option.map_none,
  Nat.reduceSub, Nat.reduceAdd, Nat.zero_add, Nat.add_zero, Nat.sub_self, if_true, if_false, reduceIte, Bool.false_eq_true, Bool.true_eq_false, Bool.not_true, Bool.not_false, ix_tup, ix_fz, at0, at1, at2, eDNew, eDGet, eDGet2, eDIn, eDPop, cDPut, cAugS, cSub2, dic_ref, keyOf, reduceCtorEq, val_enc, put_enc, drop_enc])
local macro_rules | `(tactic| walk_at "fo") => `(tactic| try simp only [*, runB, cSeq, cNil, cRet, cRetN, cExpr, cIf, cSet, cAsg, cPar, cAug, cRaise, cStore, cPass, cWipe, wipeD, toS_ok, toS_exn, toS_stuck, Res.bd_ok, Res.bd_exn, Res.bd_stuck, Res.bdN_ok, Res.bdN_exn, Res.bdN_stuck,
  eVar, eC, eTup, eLst, eOp, eChain, eUn, eAnd, eOr, eNot, eIf, eRep, tTs, tAnd2, tOr2, tNot2, tTrue, eCall, eBi, eIsi, eMtL, eSl, oNo, oSo, lNil, lCons, iSeq, iRange1, iRange2, zAdd, zSub, zMul, zDiv, zMod, ofO, opInt, opIn, opNotIn, opEq, opNe, opIs, opIsnt, mk_t, mk_f,
  List.map_cons, List.map_nil, List.length_cons, List.length_nil, List.replicate, List.append_nil, List.nil_append, List.cons_append, List.getElem?_cons_zero, List.getElem?_cons_succ, List.getElem?_nil, List.set_cons_zero, List.set_cons_succ, List.set_nil, lm0, lm1, lm2, lm3, lm4, lm5, lm6, lm7, lm8, lm9, asg_nm, asg_tp, asgs_nil, asgs_cons, Option.bind_some, Option.bind_none, Option.map_some, Option.map_none,
  Nat.reduceSub, Nat.reduceAdd, Nat.zero_add, Nat.add_zero, Nat.sub_self, if_true, if_false, reduceIte, Bool.false_eq_true, Bool.true_eq_false, Bool.not_true, Bool.not_false, ix_tup, ix_fz, at0, at1, at2, eDNew, eDGet, eDGet2, eDIn, eDPop, cDPut, cAugS, cSub2, dic_ref, keyOf, reduceCtorEq, and_self, Bool.and_self, decide_true, decide_false, List.append_assoc, List.length_append, Nat.add_assoc, at_new, at_newk, add_fz, add_rf, add_tt, ix_ref, seq_ref, list_ref, seq_tup, seq_fz, list_fz, ix_tup, ix_fz, neg_int, app_ref, set_newk, set_new0, iZ, iEn, sl_tup, sl_fz, eLcV, len_tup, len_ref, len_fz, tuple_fz, tuple_ref, ty_non, ty_bl, ty_int, ty_str, ty_tup, ty_fz, val_enc, put_enc, drop_enc])
local macro_rules | `(tactic| walk_at "fg") => `(tactic| try simp only [*, runB, cSeq, cNil, cRet, cRetN, cExpr, cIf, cSet, cAsg, cPar, cAug, cRaise, cStore, cPass, cWipe, wipeD, toS_ok, toS_exn, toS_stuck, Res.bd_ok, Res.bd_exn, Res.bd_stuck, Res.bdN_ok, Res.bdN_exn, Res.bdN_stuck,
  eVar, eC, eTup, eLst, eOp, eChain, eUn, eAnd, eOr, eNot, eIf, eRep, tTs, tAnd2, tOr2, tNot2, tTrue, eCall, eBi, eIsi, eMtL, eSl, oNo, oSo, lNil, lCons, iSeq, iRange1, iRange2, zAdd, zSub, zMul, zDiv, zMod, ofO, opInt, opIn, opNotIn, opEq, opNe, opIs, opIsnt, mk_t, mk_f,
  List.map_cons, List.map_nil, List.length_cons, List.length_nil, List.replicate, List.append_nil, List.nil_append, List.cons_append, List.getElem?_cons_zero, List.getElem?_cons_succ, List.getElem?_nil, List.set_cons_zero, List.set_cons_succ, List.set_nil, lm0, lm1, lm2, lm3, lm4, lm5, lm6, lm7, lm8, lm9, asg_nm, asg_tp, asgs_nil, asgs_cons, Option.bind_some, Option.bind_none, Option.map_some, Option.map_none,
  Nat.reduceSub, Nat.reduceAdd, Nat.zero_add, Nat.add_zero, Nat.sub_self, if_true, if_false, reduceIte, Bool.false_eq_true, Bool.true_eq_false, Bool.not_true, Bool.not_false, ix_tup, ix_fz, at0, at1, at2, eDNew, eDGet, eDGet2, eDIn, eDPop, cDPut, cAugS, cSub2, dic_ref, keyOf, reduceCtorEq, and_self, Bool.and_self, decide_true, decide_false, List.append_assoc, List.length_append, Nat.add_assoc, at_new, at_newk, add_fz, add_rf, add_tt, ix_ref, seq_ref, list_ref, seq_tup, seq_fz, list_fz, ix_tup, ix_fz, neg_int, app_ref, set_newk, set_new0, iZ, iEn, sl_tup, sl_fz, eLcV, len_tup, len_ref, len_fz, tuple_fz, tuple_ref, ty_non, ty_bl, ty_int, ty_str, ty_tup, ty_fz, val_enc, put_enc, drop_enc])
local macro_rules | `(tactic| walk_at "fs") => `(tactic| try simp [runB, cSeq, cNil, cRet, cRetN, cExpr, cIf, cSet, cAsg, cPar, cAug, cRaise, cStore, cPass, cWipe, wipeD, toS_ok, toS_exn, toS_stuck, Res.bd_ok, Res.bd_exn, Res.bd_stuck, Res.bdN_ok, Res.bdN_exn, Res.bdN_stuck,
  eVar, eC, eTup, eLst, eOp, eChain, eUn, eAnd, eOr, eNot, eIf, eRep, tTs, tAnd2, tOr2, tNot2, tTrue, eCall, eBi, eIsi, eMtL, eSl, oNo, oSo, lNil, lCons, iSeq, iRange1, iRange2, zAdd, zSub, zMul, zDiv, zMod, ofO, opInt, opIn, opNotIn, opEq, opNe, opIs, opIsnt, mk_t, mk_f,
  List.map_cons, List.map_nil, List.length_cons, List.length_nil, List.replicate, List.append_nil, List.nil_append, List.cons_append, List.getElem?_cons_zero, List.getElem?_cons_succ, List.getElem?_nil, List.set_cons_zero, List.set_cons_succ, List.set_nil, lm0, lm1, lm2, lm3, lm4, lm5, lm6, lm7, lm8, lm9, asg_nm, asg_tp, asgs_nil, asgs_cons, Option.bind_some, Option.bind_none, Option.map_some, Option.map_none,
  Nat.reduceSub, Nat.reduceAdd, Nat.zero_add, Nat.add_zero, Nat.sub_self, if_true, if_false, reduceIte, Bool.false_eq_true, Bool.true_eq_false, Bool.not_true, Bool.not_false, ix_tup, ix_fz, at0, at1, at2, eDNew, eDGet, eDGet2, eDIn, eDPop, cDPut, cAugS, cSub2, dic_ref, keyOf, reduceCtorEq, and_self, Bool.and_self, decide_true, decide_false, List.append_assoc, List.length_append, Nat.add_assoc, at_new, at_newk, add_fz, add_rf, add_tt, ix_ref, seq_ref, list_ref, seq_tup, seq_fz, list_fz, ix_tup, ix_fz, neg_int, app_ref, set_newk, set_new0, iZ, iEn, sl_tup, sl_fz, eLcV, len_tup, len_ref, len_fz, tuple_fz, tuple_ref, ty_non, ty_bl, ty_int, ty_str, ty_tup, ty_fz, isT, eqD_int, at0, at1, val_enc, put_enc, drop_enc])
local macro_rules | `(tactic| walk_at "fh") => `(tactic| try simp [*, runB, cSeq, cNil, cRet, cRetN, cExpr, cIf, cSet, cAsg, cPar, cAug, cRaise, cStore, cPass, cWipe, wipeD, toS_ok, toS_exn, toS_stuck, Res.bd_ok, Res.bd_exn, Res.bd_stuck, Res.bdN_ok, Res.bdN_exn, Res.bdN_stuck,
  eVar, eC, eTup, eLst, eOp, eChain, eUn, eAnd, eOr, eNot, eIf, eRep, tTs, tAnd2, tOr2, tNot2, tTrue, eCall, eBi, eIsi, eMtL, eSl, oNo, oSo, lNil, lCons, iSeq, iRange1, iRange2, zAdd, zSub, zMul, zDiv, zMod, ofO, opInt, opIn, opNotIn, opEq, opNe, opIs, opIsnt, mk_t, mk_f,
  List.map_cons, List.map_nil, List.length_cons, List.length_nil, List.replicate, List.append_nil, List.nil_append, List.cons_append, List.getElem?_cons_zero, List.getElem?_cons_succ, List.getElem?_nil, List.set_cons_zero, List.set_cons_succ, List.set_nil, lm0, lm1, lm2, lm3, lm4, lm5, lm6, lm7, lm8, lm9, asg_nm, asg_tp, asgs_nil, asgs_cons, Option.bind_some, Option.bind_none, Option.map_some, Option.map_none,
  Nat.reduceSub, Nat.reduceAdd, Nat.zero_add, Nat.add_zero, Nat.sub_self, if_true, if_false, reduceIte, Bool.false_eq_true, Bool.true_eq_false, Bool.not_true, Bool.not_false, ix_tup, ix_fz, at0, at1, at2, eDNew, eDGet, eDGet2, eDIn, eDPop, cDPut, cAugS, cSub2, dic_ref, keyOf, reduceCtorEq, and_self, Bool.and_self, decide_true, decide_false, List.append_assoc, List.length_append, Nat.add_assoc, at_new, at_newk, add_fz, add_rf, add_tt, ix_ref, seq_ref, list_ref, seq_tup, seq_fz, list_fz, ix_tup, ix_fz, neg_int, app_ref, set_newk, set_new0, iZ, iEn, sl_tup, sl_fz, eLcV, len_tup, len_ref, len_fz, tuple_fz, tuple_ref, ty_non, ty_bl, ty_int, ty_str, ty_tup, ty_fz, isT, eqD_int, at0, at1, val_enc, put_enc, drop_enc])
end Fc
set_option exponentiation.threshold 256
set_option maxHeartbeats 4000000
set_option maxHeartbeats 4000000
set_option exponentiation.threshold 3000
namespace Fc
open PySem L2
local macro_rules | `(tactic| walk_at "fc") => `(tactic| try simp only [runB, cSeq, cNil, cRet, cRetN, cExpr, cIf, cSet, cAsg, cPar, cAug, cRaise, cStore, cPass, cWipe, wipeD, toS_ok, toS_exn, toS_stuck, Res.bd_ok, Res.bd_exn, Res.bd_stuck, Res.bdN_ok, Res.bdN_exn, Res.bdN_stuck,
  eVar, eC, eTup, eLst, eOp, eChain, eUn, eAnd, eOr, eNot, eIf, eRep, tTs, tAnd2, tOr2, tNot2, tTrue, eCall, eBi, eIsi, eMtL, eSl, oNo, oSo, lNil, lCons, iSeq, iRange1, iRange2, zAdd, zSub, zMul, zDiv, zMod, ofO, opInt, opIn, opNotIn, opEq, opNe, opIs, opIsnt, mk_t, mk_f,
  List.map_cons, List.map_nil, List.length_cons, List.length_nil, List.replicate, List.append_nil, List.nil_append, List.cons_append, List.getElem?_cons_zero, List.getElem?_cons_succ, List.getElem?_nil, List.set_cons_zero, List.set_cons_succ, List.set_nil, lm0, lm1, lm2, lm3, lm4, lm5, lm6, lm7, lm8, lm9, asg_nm, asg_tp, asgs_nil, asgs_cons, Option.bind_some, Option.bind_none, Option.map_some, Option.map_none,
  Nat.reduceSub, Nat.reduceAdd, Nat.zero_add, Nat.add_zero, Nat.sub_self, if_true, if_false, reduceIte, Bool.false_eq_true, Bool.true_eq_false, Bool.not_true, Bool.not_false, ix_tup, ix_fz, at0, at1, at2, eDNew, eDGet, eDGet2, eDIn, eDPop, cDPut, cAugS, cSub2, dic_ref, keyOf, reduceCtorEq, val_enc, put_enc, drop_enc])
local macro_rules | `(tactic| walk_at "fo") => `(tactic| try simp only [*, runB, cSeq, cNil, cRet, cRetN, cExpr, cIf, cSet, cAsg, cPar, cAug, cRaise, cStore, cPass, cWipe, wipeD, toS_ok, toS_exn, toS_stuck, Res.bd_ok, Res.bd_exn, Res.bd_stuck, Res.bdN_ok, Res.bdN_exn, Res.bdN_stuck,
  eVar, eC, eTup, eLst, eOp, eChain, eUn, eAnd, eOr, eNot, eIf, eRep, tTs, tAnd2, tOr2, tNot2, tTrue, eCall, eBi, eIsi, eMtL, eSl, oNo, oSo, lNil, lCons, iSeq, iRange1, iRange2, zAdd, zSub, zMul, zDiv, zMod, ofO, opInt, opIn, opNotIn, opEq, opNe, opIs, opIsnt, mk_t, mk_f,
  List.map_cons, List.map_nil, List.length_cons, List.length_nil, List.replicate, List.append_nil, List.nil_append, List.cons_append, List.getElem?_cons_zero, List.getElem?_cons_succ, List.getElem?_nil, List.set_cons_zero, List.set_cons_succ, List.set_nil, lm0, lm1, lm2, lm3, lm4, lm5, lm6, lm7, lm8, lm9, asg_nm, asg_tp, asgs_nil, asgs_cons, Option.bind_some, Option.bind_none, Option.map_some, Option.map_none,
  Nat.reduceSub, Nat.reduceAdd, Nat.zero_add, Nat.add_zero, Nat.sub_self, if_true, if_false, reduceIte, Bool.false_eq_true, Bool.true_eq_false, Bool.not_true, Bool.not_false, ix_tup, ix_fz, at0, at1, at2, eDNew, eDGet, eDGet2, eDIn, eDPop, cDPut, cAugS, cSub2, dic_ref, keyOf, reduceCtorEq, and_self, Bool.and_self, decide_true, decide_false, List.append_assoc, List.length_append, Nat.add_assoc, at_new, at_newk, add_fz, add_rf, add_tt, ix_ref, seq_ref, list_ref, seq_tup, seq_fz, list_fz, ix_tup, ix_fz, neg_int, app_ref, set_newk, set_new0, iZ, iEn, sl_tup, sl_fz, eLcV, len_tup, len_ref, len_fz, tuple_fz, tuple_ref, ty_non, ty_bl, ty_int, ty_str, ty_tup, ty_fz, val_enc, put_enc, drop_enc])
local macro_rules | `(tactic| walk_at "fg") => `(tactic| try simp only [*, runB, cSeq, cNil, cRet, cRetN, cExpr, cIf, cSet, cAsg, cPar, cAug, cRaise, cStore, cPass, cWipe, wipeD, toS_ok, toS_exn, toS_stuck, Res.bd_ok, Res.bd_exn, Res.bd_stuck, Res.bdN_ok, Res.bdN_exn, Res.bdN_stuck,
  eVar, eC, eTup, eLst, eOp, eChain, eUn, eAnd, eOr, eNot, eIf, eRep, tTs, tAnd2, tOr2, tNot2, tTrue, eCall, eBi, eIsi, eMtL, eSl, oNo, oSo, lNil, lCons, iSeq, iRange1, iRange2, zAdd, zSub, zMul, zDiv, zMod, ofO, opInt, opIn, opNotIn, opEq, opNe, opIs, opIsnt, mk_t, mk_f,
  List.map_cons, List.map_nil, List.length_cons, List.length_nil, List.replicate, List.append_nil, List.nil_append, List.cons_append, List.getElem?_cons_zero, List.getElem?_cons_succ, List.getElem?_nil, List.set_cons_zero, List.set_cons_succ, List.set_nil, lm0, lm1, lm2, lm3, lm4, lm5, lm6, lm7, lm8, lm9, asg_nm, asg_tp, asgs_nil, asgs_cons, Option.bind_some, Option.bind_none, Option.map_some, Option.map_none,
  Nat.reduceSub, Nat.reduceAdd, Nat.zero_add, Nat.add_zero, Nat.sub_self, if_true, if_false, reduceIte, Bool.false_eq_true, Bool.true_eq_false, Bool.not_true, Bool.not_false, ix_tup, ix_fz, at0, at1, at2, eDNew, eDGet, eDGet2, eDIn, eDPop, cDPut, cAugS, cSub2, dic_ref, keyOf, reduceCtorEq, and_self, Bool.and_self, decide_true, decide_false, List.append_assoc, List.length_append, Nat.add_assoc, at_new, at_newk, add_fz, add_rf, add_tt, ix_ref, seq_ref, list_ref, seq_tup, seq_fz, list_fz, ix_tup, ix_fz, neg_int, app_ref, set_newk, set_new0, iZ, iEn, sl_tup, sl_fz, eLcV, len_tup, len_ref, len_fz, tuple_fz, tuple_ref, ty_non, ty_bl, ty_int, ty_str, ty_tup, ty_fz, val_enc, put_enc, drop_enc])
local macro_rules | `(tactic| walk_at "fs") => `(tactic| try simp [runB, cSeq, cNil, cRet, cRetN, cExpr, cIf, cSet, cAsg, cPar, cAug, cRaise, cStore, cPass, cWipe, wipeD, toS_ok, toS_exn, toS_stuck, Res.bd_ok, Res.bd_exn, Res.bd_stuck, Res.bdN_ok, Res.bdN_exn, Res.bdN_stuck,
  eVar, eC, eTup, eLst, eOp, eChain, eUn, eAnd, eOr, eNot, eIf, eRep, tTs, tAnd2, tOr2, tNot2, tTrue, eCall, eBi, eIsi, eMtL, eSl, oNo, oSo, lNil, lCons, iSeq, iRange1, iRange2, zAdd, zSub, zMul, zDiv, zMod, ofO, opInt, opIn, opNotIn, opEq, opNe, opIs, opIsnt, mk_t, mk_f,
  List.map_cons, List.map_nil, List.length_cons, List.length_nil, List.replicate, List.append_nil, List.nil_append, List.cons_append, List.getElem?_cons_zero, List.getElem?_cons_succ, List.getElem?_nil, List.set_cons_zero, List.set_cons_succ, List.set_nil, lm0, lm1, lm2, lm3, lm4, lm5, lm6, lm7, lm8, lm9, asg_nm, asg_tp, asgs_nil, asgs_cons, Option.bind_some, Option.bind_none, Option.map_some, Option.map_none,
  Nat.reduceSub, Nat.reduceAdd, Nat.zero_add, Nat.add_zero, Nat.sub_self, if_true, if_false, reduceIte, Bool.false_eq_true, Bool.true_eq_false, Bool.not_true, Bool.not_false, ix_tup, ix_fz, at0, at1, at2, eDNew, eDGet, eDGet2, eDIn, eDPop, cDPut, cAugS, cSub2, dic_ref, keyOf, reduceCtorEq, and_self, Bool.and_self, decide_true, decide_false, List.append_assoc, List.length_append, Nat.add_assoc, at_new, at_newk, add_fz, add_rf, add_tt, ix_ref, seq_ref, list_ref, seq_tup, seq_fz, list_fz, ix_tup, ix_fz, neg_int, app_ref, set_newk, set_new0, iZ, iEn, sl_tup, sl_fz, eLcV, len_tup, len_ref, len_fz, tuple_fz, tuple_ref, ty_non, ty_bl, ty_int, ty_str, ty_tup, ty_fz, isT, eqD_int, at0, at1, val_enc, put_enc, drop_enc])
local macro_rules | `(tactic| walk_at "fh") => `(tactic| try simp [*, runB, cSeq, cNil, cRet, cRetN, cExpr, cIf, cSet, cAsg, cPar, cAug, cRaise, cStore, cPass, cWipe, wipeD, toS_ok, toS_exn, toS_stuck, Res.bd_ok, Res.bd_exn, Res.bd_stuck, Res.bdN_ok, Res.bdN_exn, Res.bdN_stuck,
  eVar, eC, eTup, eLst, eOp, eChain, eUn, eAnd, eOr, eNot, eIf, eRep, tTs, tAnd2, tOr2, tNot2, tTrue, eCall, eBi, eIsi, eMtL, eSl, oNo, oSo, lNil, lCons, iSeq, iRange1, iRange2, zAdd, zSub, zMul, zDiv, zMod, ofO, opInt, opIn, opNotIn, opEq, opNe, opIs, opIsnt, mk_t, mk_f,
  List.map_cons, List.map_nil, List.length_cons, List.length_nil, List.replicate, List.append_nil, List.nil_append, List.cons_append, List.getElem?_cons_zero, List.getElem?_cons_succ, List.getElem?_nil, List.set_cons_zero, List.set_cons_succ, List.set_nil, lm0, lm1, lm2, lm3, lm4, lm5, lm6, lm7, lm8, lm9, asg_nm, asg_tp, asgs_nil, asgs_cons, Option.bind_some, Option.bind_none, Option.map_some, Option.map_none,
  Nat.reduceSub, Nat.reduceAdd, Nat.zero_add, Nat.add_zero, Nat.sub_self, if_true, if_false, reduceIte, Bool.false_eq_true, Bool.true_eq_false, Bool.not_true, Bool.not_false, ix_tup, ix_fz, at0, at1, at2, eDNew, eDGet, eDGet2, eDIn, eDPop, cDPut, cAugS, cSub2, dic_ref, keyOf, reduceCtorEq, and_self, Bool.and_self, decide_true, decide_false, List.append_assoc, List.length_append, Nat.add_assoc, at_new, at_newk, add_fz, add_rf, add_tt, ix_ref, seq_ref, list_ref, seq_tup, seq_fz, list_fz, ix_tup, ix_fz, neg_int, app_ref, set_newk, set_new0, iZ, iEn, sl_tup, sl_fz, eLcV, len_tup, len_ref, len_fz, tuple_fz, tuple_ref, ty_non, ty_bl, ty_int, ty_str, ty_tup, ty_fz, isT, eqD_int, at0, at1, val_enc, put_enc, drop_enc])
structure Okm (N : Nat) (A C : Nat → Nat → Rat) : Prop where
  nA : ∀ i j, 0 ≤ A i j
  zA : ∀ i j, N ≤ j → A i j = 0
  bA : ∀ i j, Bd 1100 (A i j)
  bC : ∀ i k, Bd 1100 (C i k)
def normA (A : Nat → Nat → Rat) (p : Nat) : Nat → Nat → Rat := upd2 A p fun j => (if j = p then 0 else A p j) / (1 - A p p)
def normC (A C : Nat → Nat → Rat) (p : Nat) : Nat → Nat → Rat := upd2 C p fun k => C p k / (1 - A p p)
def putA (A : Nat → Nat → Rat) (p q : Nat) : Nat → Nat → Rat := fun i j => if i < q then (if j = p then 0 else A i j) + A i p * A p j else A i j
def putC (A C : Nat → Nat → Rat) (p q : Nat) : Nat → Nat → Rat := fun i k => if i < q then C i k + A i p * C p k else C i k
def stepA (A : Nat → Nat → Rat) (p : Nat) : Nat → Nat → Rat := putA (normA A p) p p
def stepC (A C : Nat → Nat → Rat) (p : Nat) : Nat → Nat → Rat := putC (normA A p) (normC A C p) p p
end Fc
set_option exponentiation.threshold 256
set_option maxHeartbeats 4000000
set_option maxHeartbeats 4000000
set_option exponentiation.threshold 3000
namespace Fc
open PySem L2
local macro_rules | `(tactic| walk_at "fc") => `(tactic| try simp only [runB, cSeq, cNil, cRet, cRetN, cExpr, cIf, cSet, cAsg, cPar, cAug, cRaise, cStore, cPass, cWipe, wipeD, toS_ok, toS_exn, toS_stuck, Res.bd_ok, Res.bd_exn, Res.bd_stuck, Res.bdN_ok, Res.bdN_exn, Res.bdN_stuck,
  eVar, eC, eTup, eLst, eOp, eChain, eUn, eAnd, eOr, eNot, eIf, eRep, tTs, tAnd2, tOr2, tNot2, tTrue, eCall, eBi, eIsi, eMtL, eSl, oNo, oSo, lNil, lCons, iSeq, iRange1, iRange2, zAdd, zSub, zMul, zDiv, zMod, ofO, opInt, opIn, opNotIn, opEq, opNe, opIs, opIsnt, mk_t, mk_f,
  List.map_cons, List.map_nil, List.length_cons, List.length_nil, List.replicate, List.append_nil, List.nil_append, List.cons_append, List.getElem?_cons_zero, List.getElem?_cons_succ, List.getElem?_nil, List.set_cons_zero, List.set_cons_succ, List.set_nil, lm0, lm1, lm2, lm3, lm4, lm5, lm6, lm7, lm8, lm9, asg_nm, asg_tp, asgs_nil, asgs_cons, Option.bind_some, Option.bind_none, Option.map_some, Option.map_none,
  Nat.reduceSub, Nat.reduceAdd, Nat.zero_add, Nat.add_zero, Nat.sub_self, if_true, if_false, reduceIte, Bool.false_eq_true, Bool.true_eq_false, Bool.not_true, Bool.not_false, ix_tup, ix_fz, at0, at1, at2, eDNew, eDGet, eDGet2, eDIn, eDPop, cDPut, cAugS, cSub2, dic_ref, keyOf, reduceCtorEq, val_enc, put_enc, drop_enc])
local macro_rules | `(tactic| walk_at "fo") => `(tactic| try simp only [*, runB, cSeq, cNil, cRet, cRetN, cExpr, cIf, cSet, cAsg, cPar, cAug, cRaise, cStore, cPass, cWipe, wipeD, toS_ok, toS_exn, toS_stuck, Res.bd_ok, Res.bd_exn, Res.bd_stuck, Res.bdN_ok, Res.bdN_exn, Res.bdN_stuck,
  eVar, eC, eTup, eLst, eOp, eChain, eUn, eAnd, eOr, eNot, eIf, eRep, tTs, tAnd2, tOr2, tNot2, tTrue, eCall, eBi, eIsi, eMtL, eSl, oNo, oSo, lNil, lCons, iSeq, iRange1, iRange2, zAdd, zSub, zMul, zDiv, zMod, ofO, opInt, opIn, opNotIn, opEq, opNe, opIs, opIsnt, mk_t, mk_f,
  List.map_cons, List.map_nil, List.length_cons, List.length_nil, List.replicate, List.append_nil, List.nil_append, List.cons_append, List.getElem?_cons_zero, List.getElem?_cons_succ, List.getElem?_nil, List.set_cons_zero, List.set_cons_succ, List.set_nil, lm0, lm1, lm2, lm3, lm4, lm5, lm6, lm7, lm8, lm9, asg_nm, asg_tp, asgs_nil, asgs_cons, Option.bind_some, Option.bind_none, Option.map_some, Option.map_none,
  Nat.reduceSub, Nat.reduceAdd, Nat.zero_add, Nat.add_zero, Nat.sub_self, if_true, if_false, reduceIte, Bool.false_eq_true, Bool.true_eq_false, Bool.not_true, Bool.not_false, ix_tup, ix_fz, at0, at1, at2, eDNew, eDGet, eDGet2, eDIn, eDPop, cDPut, cAugS, cSub2, dic_ref, keyOf, reduceCtorEq, and_self, Bool.and_self, decide_true, decide_false, List.append_assoc, List.length_append, Nat.add_assoc, at_new, at_newk, add_fz, add_rf, add_tt, ix_ref, seq_ref, list_ref, seq_tup, seq_fz, list_fz, ix_tup, ix_fz, neg_int, app_ref, set_newk, set_new0, iZ, iEn, sl_tup, sl_fz, eLcV, len_tup, len_ref, len_fz, tuple_fz, tuple_ref, ty_non, ty_bl, ty_int, ty_str, ty_tup, ty_fz, val_enc, put_enc, drop_enc])
local macro_rules | `(tactic| walk_at "fg") => `(tactic| try simp only [*, runB, cSeq, cNil, cRet, cRetN, cExpr, cIf, cSet, cAsg, cPar, cAug, cRaise, cStore, cPass, cWipe, wipeD, toS_ok, toS_exn, toS_stuck, Res.bd_ok, Res.bd_exn, Res.bd_stuck, Res.bdN_ok, Res.bdN_exn, Res.bdN_stuck,
  eVar, eC, eTup, eLst, eOp, eChain, eUn, eAnd, eOr, eNot, eIf, eRep, tTs, tAnd2, tOr2, tNot2, tTrue, eCall, eBi, eIsi, eMtL, eSl, oNo, oSo, lNil, lCons, iSeq, iRange1, iRange2, zAdd, zSub, zMul, zDiv, zMod, ofO, opInt, opIn, opNotIn, opEq, opNe, opIs, opIsnt, mk_t, mk_f,
  List.map_cons, List.map_nil, List.length_cons, List.length_nil, List.replicate, List.append_nil, List.nil_append, List.cons_append, List.getElem?_cons_zero, List.getElem?_cons_succ, List.getElem?_nil, List.set_cons_zero, List.set_cons_succ, List.set_nil, lm0, lm1, lm2, lm3, lm4, lm5, lm6, lm7, lm8, lm9, asg_nm, asg_tp, asgs_nil, asgs_cons, Option.bind_some, Option.bind_none, Option.map_some, Option.map_none,
  Nat.reduceSub, Nat.reduceAdd, Nat.zero_add, Nat.add_zero, Nat.sub_self, if_true, if_false, reduceIte, Bool.false_eq_true, Bool.true_eq_false, Bool.not_true, Bool.not_false, ix_tup, ix_fz, at0, at1, at2, eDNew, eDGet, eDGet2, eDIn, eDPop, cDPut, cAugS, cSub2, dic_ref, keyOf, reduceCtorEq, and_self, Bool.and_self, decide_true, decide_false, List.append_assoc, List.length_append, Nat.add_assoc, at_new, at_newk, add_fz, add_rf, add_tt, ix_ref, seq_ref, list_ref, seq_tup, seq_fz, list_fz, ix_tup, ix_fz, neg_int, app_ref, set_newk, set_new0, iZ, iEn, sl_tup, sl_fz, eLcV, len_tup, len_ref, len_fz, tuple_fz, tuple_ref, ty_non, ty_bl, ty_int, ty_str, ty_tup, ty_fz, val_enc, put_enc, drop_enc])
local macro_rules | `(tactic| walk_at "fs") => `(tactic| try simp [runB, cSeq, cNil, cRet, cRetN, cExpr, cIf, cSet, cAsg, cPar, cAug, cRaise, cStore, cPass, cWipe, wipeD, toS_ok, toS_exn, toS_stuck, Res.bd_ok, Res.bd_exn, Res.bd_stuck, Res.bdN_ok, Res.bdN_exn, Res.bdN_stuck,
  eVar, eC, eTup, eLst, eOp, eChain, eUn, eAnd, eOr, eNot, eIf, eRep, tTs, tAnd2, tOr2, tNot2, tTrue, eCall, eBi, eIsi, eMtL, eSl, oNo, oSo, lNil, lCons, iSeq, iRange1, iRange2, zAdd, zSub, zMul, zDiv, zMod, ofO, opInt, opIn, opNotIn, opEq, opNe, opIs, opIsnt, mk_t, mk_f,
  List.map_cons, List.map_nil, List.length_cons, List.length_nil, List.replicate, List.append_nil, List.nil_append, List.cons_append, List.getElem?_cons_zero, List.getElem?_cons_succ, List.getElem?_nil, List.set_cons_zero, List.set_cons_succ, List.set_nil, lm0, lm1, lm2, lm3, lm4, lm5, lm6, lm7, lm8, lm9, asg_nm, asg_tp, asgs_nil, asgs_cons, Option.bind_some, Option.bind_none, Option.map_some, Option.map_none,
  Nat.reduceSub, Nat.reduceAdd, Nat.zero_add, Nat.add_zero, Nat.sub_self, if_true, if_false, reduceIte, Bool.false_eq_true, Bool.true_eq_false, Bool.not_true, Bool.not_false, ix_tup, ix_fz, at0, at1, at2, eDNew, eDGet, eDGet2, eDIn, eDPop, cDPut, cAugS, cSub2, dic_ref, keyOf, reduceCtorEq, and_self, Bool.and_self, decide_true, decide_false, List.append_assoc, List.length_append, Nat.add_assoc, at_new, at_newk, add_fz, add_rf, add_tt, ix_ref, seq_ref, list_ref, seq_tup, seq_fz, list_fz, ix_tup, ix_fz, neg_int, app_ref, set_newk, set_new0, iZ, iEn, sl_tup, sl_fz, eLcV, len_tup, len_ref, len_fz, tuple_fz, tuple_ref, ty_non, ty_bl, ty_int, ty_str, ty_tup, ty_fz, isT, eqD_int, at0, at1, val_enc, put_enc, drop_enc])
local macro_rules | `(tactic| walk_at "fh") => `(tactic| try simp [*, runB, cSeq, cNil, cRet, cRetN, cExpr, cIf, cSet, cAsg, cPar, cAug, cRaise, cStore, cPass, cWipe, wipeD, toS_ok, toS_exn, toS_stuck, Res.bd_ok, Res.bd_exn, Res.bd_stuck, Res.bdN_ok, Res.bdN_exn, Res.bdN_stuck,
  eVar, eC, eTup, eLst, eOp, eChain, eUn, eAnd, eOr, eNot, eIf, eRep, tTs, tAnd2, tOr2, tNot2, tTrue, eCall, eBi, eIsi, eMtL, eSl, oNo, oSo, lNil, lCons, iSeq, iRange1, iRange2, zAdd, zSub, zMul, zDiv, zMod, ofO, opInt, opIn, opNotIn, opEq, opNe, opIs, opIsnt, mk_t, mk_f,
  List.map_cons, List.map_nil, List.length_cons, List.length_nil, List.replicate, List.append_nil, List.nil_append, List.cons_append, List.getElem?_cons_zero, List.getElem?_cons_succ, List.getElem?_nil, List.set_cons_zero, List.set_cons_succ, List.set_nil, lm0, lm1, lm2, lm3, lm4, lm5, lm6, lm7, lm8, lm9, asg_nm, asg_tp, asgs_nil, asgs_cons, Option.bind_some, Option.bind_none, Option.map_some, Option.map_none,
  Nat.reduceSub, Nat.reduceAdd, Nat.zero_add, Nat.add_zero, Nat.sub_self, if_true, if_false, reduceIte, Bool.false_eq_true, Bool.true_eq_false, Bool.not_true, Bool.not_false, ix_tup, ix_fz, at0, at1, at2, eDNew, eDGet, eDGet2, eDIn, eDPop, cDPut, cAugS, cSub2, dic_ref, keyOf, reduceCtorEq, and_self, Bool.and_self, decide_true, decide_false, List.append_assoc, List.length_append, Nat.add_assoc, at_new, at_newk, add_fz, add_rf, add_tt, ix_ref, seq_ref, list_ref, seq_tup, seq_fz, list_fz, ix_tup, ix_fz, neg_int, app_ref, set_newk, set_new0, iZ, iEn, sl_tup, sl_fz, eLcV, len_tup, len_ref, len_fz, tuple_fz, tuple_ref, ty_non, ty_bl, ty_int, ty_str, ty_tup, ty_fz, isT, eqD_int, at0, at1, val_enc, put_enc, drop_enc])
theorem sg_support {l : List Nat} {i : Nat} {f : Nat → Rat} (nd : l.Nodup) (h1 : ∀ j ∈ l, j < i) (h2 : ∀ j, j < i → j ∉ l → f j = 0) : sg l f = sg (List.range i) f := by
  have p1 : l.Perm ((List.range i).filter fun j => decide (j ∈ l)) := (List.perm_ext_iff_of_nodup nd (List.nodup_range.filter _)).mpr fun a => by
    simp only [List.mem_filter, List.mem_range, decide_eq_true_eq]
    exact ⟨fun h => ⟨h1 a h, h⟩, fun h => h.2⟩
  have p2 := List.filter_append_perm (fun j => decide (j ∈ l)) (List.range i)
  have z : sg ((List.range i).filter fun j => !decide (j ∈ l)) f = 0 := by
    have : ∀ m : List Nat, (∀ j ∈ m, f j = 0) → sg m f = 0 := by
      intro m
      induction m with
      | nil => intro _; rfl
      | cons x m ih =>
        intro h
        rw [sg_cons, h x (by simp), ih fun j hj => h j (by simp [hj])]
        grind
    refine this _ fun j hj => ?_
    simp only [List.mem_filter, List.mem_range, Bool.not_eq_true', decide_eq_false_iff_not] at hj
    exact h2 j hj.1 hj.2
  have app : ∀ a b : List Nat, sg (a ++ b) f = sg a f + sg b f := by
    intro a b
    induction a with
    | nil => simp only [List.nil_append, sg_nil]; grind
    | cons x a ih => rw [List.cons_append, sg_cons, sg_cons, ih]; grind
  rw [sg_perm p1 f, ← sg_perm p2 f, app, z]
  grind
end Fc
set_option exponentiation.threshold 256
set_option maxHeartbeats 4000000
set_option maxHeartbeats 4000000
set_option exponentiation.threshold 3000
namespace Fc
open PySem L2
local macro_rules | `(tactic| walk_at "fc") => `(tactic| try simp only [runB, cSeq, cNil, cRet, cRetN, cExpr, cIf, cSet, cAsg, cPar, cAug, cRaise, cStore, cPass, cWipe, wipeD, toS_ok, toS_exn, toS_stuck, Res.bd_ok, Res.bd_exn, Res.bd_stuck, Res.bdN_ok, Res.bdN_exn, Res.bdN_stuck,
  eVar, eC, eTup, eLst, eOp, eChain, eUn, eAnd, eOr, eNot, eIf, eRep, tTs, tAnd2, tOr2, tNot2, tTrue, eCall, eBi, eIsi, eMtL, eSl, oNo, oSo, lNil, lCons, iSeq, iRange1, iRange2, zAdd, zSub, zMul, zDiv, zMod, ofO, opInt, opIn, opNotIn, opEq, opNe, opIs, opIsnt, mk_t, mk_f,
  List.map_cons, List.map_nil, List.length_cons, List.length_nil, List.replicate, List.append_nil, List.nil_append, List.cons_append, List.getElem?_cons_zero, List.getElem?_cons_succ, List.getElem?_nil, List.set_cons_zero, List.set_cons_succ, List.set_nil, lm0, lm1, lm2, lm3, lm4, lm5, lm6, lm7, lm8, lm9, asg_nm, asg_tp, asgs_nil, asgs_cons, Option.bind_some, Option.bind_none, Option.map_some, Option.map_none,
  Nat.reduceSub, Nat.reduceAdd, Nat.zero_add, Nat.add_zero, Nat.sub_self, if_true, if_false, reduceIte, Bool.false_eq_true, Bool.true_eq_false, Bool.not_true, Bool.not_false, ix_tup, ix_fz, at0, at1, at2, eDNew, eDGet, eDGet2, eDIn, eDPop, cDPut, cAugS, cSub2, dic_ref, keyOf, reduceCtorEq, val_enc, put_enc, drop_enc])
local macro_rules | `(tactic| walk_at "fo") => `(tactic| try simp only [*, runB, cSeq, cNil, cRet, cRetN, cExpr, cIf, cSet, cAsg, cPar, cAug, cRaise, cStore, cPass, cWipe, wipeD, toS_ok, toS_exn, toS_stuck, Res.bd_ok, Res.bd_exn, Res.bd_stuck, Res.bdN_ok, Res.bdN_exn, Res.bdN_stuck,
  eVar, eC, eTup, eLst, eOp, eChain, eUn, eAnd, eOr, eNot, eIf, eRep, tTs, tAnd2, tOr2, tNot2, tTrue, eCall, eBi, eIsi, eMtL, eSl, oNo, oSo, lNil, lCons, iSeq, iRange1, iRange2, zAdd, zSub, zMul, zDiv, zMod, ofO, opInt, opIn, opNotIn, opEq, opNe, opIs, opIsnt, mk_t, mk_f,
  List.map_cons, List.map_nil, List.length_cons, List.length_nil, List.replicate, List.append_nil, List.nil_append, List.cons_append, List.getElem?_cons_zero, List.getElem?_cons_succ, List.getElem?_nil, List.set_cons_zero, List.set_cons_succ, List.set_nil, lm0, lm1, lm2, lm3, lm4, lm5, lm6, lm7, lm8, lm9, asg_nm, asg_tp, asgs_nil, asgs_cons, Option.bind_some, Option.bind_none, Option.map_some, Option.map_none,
  Nat.reduceSub, Nat.reduceAdd, Nat.zero_add, Nat.add_zero, Nat.sub_self, if_true, if_false, reduceIte, Bool.false_eq_true, Bool.true_eq_false, Bool.not_true, Bool.not_false, ix_tup, ix_fz, at0, at1, at2, eDNew, eDGet, eDGet2, eDIn, eDPop, cDPut, cAugS, cSub2, dic_ref, keyOf, reduceCtorEq, and_self, Bool.and_self, decide_true, decide_false, List.append_assoc, List.length_append, Nat.add_assoc, at_new, at_newk, add_fz, add_rf, add_tt, ix_ref, seq_ref, list_ref, seq_tup, seq_fz, list_fz, ix_tup, ix_fz, neg_int, app_ref, set_newk, set_new0, iZ, iEn, sl_tup, sl_fz, eLcV, len_tup, len_ref, len_fz, tuple_fz, tuple_ref, ty_non, ty_bl, ty_int, ty_str, ty_tup, ty_fz, val_enc, put_enc, drop_enc])
local macro_rules | `(tactic| walk_at "fg") => `(tactic| try simp only [*, runB, cSeq, cNil, cRet, cRetN, cExpr, cIf, cSet, cAsg, cPar, cAug, cRaise, cStore, cPass, cWipe, wipeD, toS_ok, toS_exn, toS_stuck, Res.bd_ok, Res.bd_exn, Res.bd_stuck, Res.bdN_ok, Res.bdN_exn, Res.bdN_stuck,
  eVar, eC, eTup, eLst, eOp, eChain, eUn, eAnd, eOr, eNot, eIf, eRep, tTs, tAnd2, tOr2, tNot2, tTrue, eCall, eBi, eIsi, eMtL, eSl, oNo, oSo, lNil, lCons, iSeq, iRange1, iRange2, zAdd, zSub, zMul, zDiv, zMod, ofO, opInt, opIn, opNotIn, opEq, opNe, opIs, opIsnt, mk_t, mk_f,
  List.map_cons, List.map_nil, List.length_cons, List.length_nil, List.replicate, List.append_nil, List.nil_append, List.cons_append, List.getElem?_cons_zero, List.getElem?_cons_succ, List.getElem?_nil, List.set_cons_zero, List.set_cons_succ, List.set_nil, lm0, lm1, lm2, lm3, lm4, lm5, lm6, lm7, lm8, lm9, asg_nm, asg_tp, asgs_nil, asgs_cons, Option.bind_some, Option.bind_none, Option.map_some, Option.map_none,
  Nat.reduceSub, Nat.reduceAdd, Nat.zero_add, Nat.add_zero, Nat.sub_self, if_true, if_false, reduceIte, Bool.false_eq_true, Bool.true_eq_false, Bool.not_true, Bool.not_false, ix_tup, ix_fz, at0, at1, at2, eDNew, eDGet, eDGet2, eDIn, eDPop, cDPut, cAugS, cSub2, dic_ref, keyOf, reduceCtorEq, and_self, Bool.and_self, decide_true, decide_false, List.append_assoc, List.length_append, Nat.add_assoc, at_new, at_newk, add_fz, add_rf, add_tt, ix_ref, seq_ref, list_ref, seq_tup, seq_fz, list_fz, ix_tup, ix_fz, neg_int, app_ref, set_newk, set_new0, iZ, iEn, sl_tup, sl_fz, eLcV, len_tup, len_ref, len_fz, tuple_fz, tuple_ref, ty_non, ty_bl, ty_int, ty_str, ty_tup, ty_fz, val_enc, put_enc, drop_enc])
local macro_rules | `(tactic| walk_at "fs") => `(tactic| try simp [runB, cSeq, cNil, cRet, cRetN, cExpr, cIf, cSet, cAsg, cPar, cAug, cRaise, cStore, cPass, cWipe, wipeD, toS_ok, toS_exn, toS_stuck, Res.bd_ok, Res.bd_exn, Res.bd_stuck, Res.bdN_ok, Res.bdN_exn, Res.bdN_stuck,
  eVar, eC, eTup, eLst, eOp, eChain, eUn, eAnd, eOr, eNot, eIf, eRep, tTs, tAnd2, tOr2, tNot2, tTrue, eCall, eBi, eIsi, eMtL, eSl, oNo, oSo, lNil, lCons, iSeq, iRange1, iRange2, zAdd, zSub, zMul, zDiv, zMod, ofO, opInt, opIn, opNotIn, opEq, opNe, opIs, opIsnt, mk_t, mk_f,
  List.map_cons, List.map_nil, List.length_cons, List.length_nil, List.replicate, List.append_nil, List.nil_append, List.cons_append, List.getElem?_cons_zero, List.getElem?_cons_succ, List.getElem?_nil, List.set_cons_zero, List.set_cons_succ, List.set_nil, lm0, lm1, lm2, lm3, lm4, lm5, lm6, lm7, lm8, lm9, asg_nm, asg_tp, asgs_nil, asgs_cons, Option.bind_some, Option.bind_none, Option.map_some, Option.map_none,
  Nat.reduceSub, Nat.reduceAdd, Nat.zero_add, Nat.add_zero, Nat.sub_self, if_true, if_false, reduceIte, Bool.false_eq_true, Bool.true_eq_false, Bool.not_true, Bool.not_false, ix_tup, ix_fz, at0, at1, at2, eDNew, eDGet, eDGet2, eDIn, eDPop, cDPut, cAugS, cSub2, dic_ref, keyOf, reduceCtorEq, and_self, Bool.and_self, decide_true, decide_false, List.append_assoc, List.length_append, Nat.add_assoc, at_new, at_newk, add_fz, add_rf, add_tt, ix_ref, seq_ref, list_ref, seq_tup, seq_fz, list_fz, ix_tup, ix_fz, neg_int, app_ref, set_newk, set_new0, iZ, iEn, sl_tup, sl_fz, eLcV, len_tup, len_ref, len_fz, tuple_fz, tuple_ref, ty_non, ty_bl, ty_int, ty_str, ty_tup, ty_fz, isT, eqD_int, at0, at1, val_enc, put_enc, drop_enc])
local macro_rules | `(tactic| walk_at "fh") => `(tactic| try simp [*, runB, cSeq, cNil, cRet, cRetN, cExpr, cIf, cSet, cAsg, cPar, cAug, cRaise, cStore, cPass, cWipe, wipeD, toS_ok, toS_exn, toS_stuck, Res.bd_ok, Res.bd_exn, Res.bd_stuck, Res.bdN_ok, Res.bdN_exn, Res.bdN_stuck,
  eVar, eC, eTup, eLst, eOp, eChain, eUn, eAnd, eOr, eNot, eIf, eRep, tTs, tAnd2, tOr2, tNot2, tTrue, eCall, eBi, eIsi, eMtL, eSl, oNo, oSo, lNil, lCons, iSeq, iRange1, iRange2, zAdd, zSub, zMul, zDiv, zMod, ofO, opInt, opIn, opNotIn, opEq, opNe, opIs, opIsnt, mk_t, mk_f,
  List.map_cons, List.map_nil, List.length_cons, List.length_nil, List.replicate, List.append_nil, List.nil_append, List.cons_append, List.getElem?_cons_zero, List.getElem?_cons_succ, List.getElem?_nil, List.set_cons_zero, List.set_cons_succ, List.set_nil, lm0, lm1, lm2, lm3, lm4, lm5, lm6, lm7, lm8, lm9, asg_nm, asg_tp, asgs_nil, asgs_cons, Option.bind_some, Option.bind_none, Option.map_some, Option.map_none,
  Nat.reduceSub, Nat.reduceAdd, Nat.zero_add, Nat.add_zero, Nat.sub_self, if_true, if_false, reduceIte, Bool.false_eq_true, Bool.true_eq_false, Bool.not_true, Bool.not_false, ix_tup, ix_fz, at0, at1, at2, eDNew, eDGet, eDGet2, eDIn, eDPop, cDPut, cAugS, cSub2, dic_ref, keyOf, reduceCtorEq, and_self, Bool.and_self, decide_true, decide_false, List.append_assoc, List.length_append, Nat.add_assoc, at_new, at_newk, add_fz, add_rf, add_tt, ix_ref, seq_ref, list_ref, seq_tup, seq_fz, list_fz, ix_tup, ix_fz, neg_int, app_ref, set_newk, set_new0, iZ, iEn, sl_tup, sl_fz, eLcV, len_tup, len_ref, len_fz, tuple_fz, tuple_ref, ty_non, ty_bl, ty_int, ty_str, ty_tup, ty_fz, isT, eqD_int, at0, at1, val_enc, put_enc, drop_enc])
def A0 (s : Int) (t : List Sta) (i j : Nat) : Rat := match t[i]? with
  | some x => shareOf s x j
  | none => 0
def C0 (m : Nat) (t : List Sta) (i k : Nat) : Rat := match t[i]? with
  | some x => (constOf m x)[k]?.getD 0
  | none => 0
structure Elim (N w : Nat) (A C : Nat → Nat → Nat → Rat) (x : Nat → Nat → Rat) : Prop where
  okk : ∀ k, k ≤ N → Okm N (A k) (C k)
  ok1 : ∀ k, k < N → Okm N (normA (A k) (N - 1 - k)) (normC (A k) (C k) (N - 1 - k))
  rest : ∀ k, k < N → 0 < 1 - A k (N - 1 - k) (N - 1 - k)
  stA : ∀ k, k < N → A (k + 1) = stepA (A k) (N - 1 - k)
  stC : ∀ k, k < N → C (k + 1) = stepC (A k) (C k) (N - 1 - k)
  tri : ∀ i j, i < N → i ≤ j → A N i j = 0
  bx : ∀ i k, i < N → k < w → Bd 1100 (x i k)
  hx : ∀ i k, i < N → k < w → x i k = C N i k + sg (List.range i) fun j => A N i j * x j k
  hS : ∀ i, i < N → ∀ l : List Nat, l.Nodup → (∀ j ∈ l, j < i) → ∀ k, k < w → Bd 2000 (C N i k + sg l fun j => A N i j * x j k)
end Fc
set_option exponentiation.threshold 256
set_option maxHeartbeats 4000000
set_option maxHeartbeats 4000000
set_option exponentiation.threshold 3000
namespace Fc
open PySem L2
structure Base (N w : Nat) (s : Int) (A C : Nat → Nat → Rat) (M : Mx) (h : Nat → Rat) (x : Nat → Nat → Rat) : Prop where
  sd : 2 ≤ s ∧ s ≤ 6
  n100 : N ≤ 200
  nA : ∀ i j, 0 ≤ A i j
  nC : ∀ i o, 0 ≤ C i o
  zA : ∀ i j, N ≤ i ∨ N ≤ j → A i j = 0
  zC : ∀ i o, N ≤ i ∨ w ≤ o → C i o = 0
  iM : ∀ i j, isZ (M i j)
  mA : ∀ i j, i < N → j < N → (s : Rat) * A i j = (if i = j then (s : Rat) else 0) - M i j
  mC : ∀ i o, i < N → (s : Rat) * C i o = - M i (N + o)
  h1 : ∀ i, 1 ≤ h i
  hb : ∀ i, (s : Rat) * h i ≤ 2 ^ 530
  good : Good (List.range N) h M
  ht : ∀ i, i < N → ∀ o, C i o + sg (List.range N) (fun j => A i j * ((s : Rat) * h j)) ≤ (s : Rat) * h i
  sol : ∀ i, i < N → ∀ o, x i o = C i o + sg (List.range N) fun j => A i j * x j o
def Lk (N : Nat) : Nat → List Nat
  | 0 => []
  | k + 1 => (N - 1 - k) :: Lk N k
theorem Lk_mem (N : Nat) : ∀ k, k ≤ N → ∀ j, j ∈ Lk N k ↔ N - k ≤ j ∧ j < N
  | 0, _, j => by simp [Lk]
  | k + 1, h, j => by
    simp only [Lk, List.mem_cons, Lk_mem N k (by omega)]
    omega
theorem Lk_len (N : Nat) : ∀ k, (Lk N k).length = k
  | 0 => rfl
  | k + 1 => by simp [Lk, Lk_len N k]
theorem Lk_nodup (N : Nat) : ∀ k, k ≤ N → (Lk N k).Nodup
  | 0, _ => by simp [Lk]
  | k + 1, h => by
    simp only [Lk, List.nodup_cons, Lk_mem N k (by omega)]
    exact ⟨by omega, Lk_nodup N k (by omega)⟩
structure Inv (N w : Nat) (s : Int) (M : Mx) (h : Nat → Rat) (x : Nat → Nat → Rat) (k : Nat) (A C : Nat → Nat → Rat) : Prop where
  nA : ∀ i j, 0 ≤ A i j
  nC : ∀ i o, 0 ≤ C i o
  zA : ∀ i j, N ≤ i ∨ N ≤ j → A i j = 0
  zC : ∀ i o, N ≤ i ∨ w ≤ o → C i o = 0
  top : ∀ i j, i < N - k → j < N → (s : Rat) * A i j = (if i = j then (s : Rat) else 0) - elims M (Lk N k) i j
  topC : ∀ i o, i < N - k → (s : Rat) * C i o = - elims M (Lk N k) i (N + o)
  low : ∀ i, N - k ≤ i → i < N → ∃ D : Int, 0 < D ∧ (D : Rat) ≤ (s : Rat) ^ 200 ∧ (∀ j, isZ (D * A i j)) ∧ ∀ o, isZ (D * C i o)
  col : ∀ i j, i < N - k → N - k ≤ j → A i j = 0
  tri : ∀ i j, N - k ≤ i → i ≤ j → A i j = 0
  ht : ∀ i, i < N → ∀ o, C i o + sg (List.range N) (fun j => A i j * ((s : Rat) * h j)) ≤ (s : Rat) * h i
  sol : ∀ i, i < N → ∀ o, x i o = C i o + sg (List.range N) fun j => A i j * x j o
section
variable {N w : Nat} {s : Int} {A C : Nat → Nat → Rat} {M : Mx} {h : Nat → Rat} {x : Nat → Nat → Rat}
theorem Base.inv0 (b : Base N w s A C M h x) : Inv N w s M h x 0 A C :=
  ⟨b.nA, b.nC, b.zA, b.zC, fun i j hi hj => b.mA i j hi hj, fun i o hi => b.mC i o hi, fun i h1 h2 => by omega, fun i j hi hj => b.zA i j (.inr hj), fun i j hi hj => b.zA i j (.inl hi), b.ht, b.sol⟩
theorem Base.sub (b : Base N w s A C M h x) {k : Nat} (hk : k ≤ N) : Sub (List.range N) (Lk N k) :=
  (sub_iff List.nodup_range).mpr ⟨Lk_nodup N k hk, fun j hj => List.mem_range.mpr ((Lk_mem N k hk j).mp hj).2⟩
theorem Base.hp (b : Base N w s A C M h x) (i : Nat) : 0 < h i := by have := b.h1 i; grind
theorem Base.pivot (b : Base N w s A C M h x) {k : Nat} (hk : k < N) : 0 < elims M (Lk N k) (N - 1 - k) (N - 1 - k) :=
  pivot_pos b.good List.nodup_range b.hp (b.sub (k := k + 1) (by omega))
variable {A' C' : Nat → Nat → Rat} {k : Nat}
theorem Inv.rest (b : Base N w s A C M h x) (v : Inv N w s M h x k A' C') (hk : k < N) : (s : Rat) * (1 - A' (N - 1 - k) (N - 1 - k)) = elims M (Lk N k) (N - 1 - k) (N - 1 - k) ∧ 0 < 1 - A' (N - 1 - k) (N - 1 - k) := by
  have p := b.pivot hk
  have t := v.top (N - 1 - k) (N - 1 - k) (by omega) (by omega)
  rw [if_pos rfl] at t
  have s0 : (0 : Rat) < (s : Rat) := by have := b.sd; exact_mod_cast (by omega : (0 : Int) < s)
  have e : (s : Rat) * (1 - A' (N - 1 - k) (N - 1 - k)) = elims M (Lk N k) (N - 1 - k) (N - 1 - k) := by grind
  refine ⟨e, ?_⟩
  rw [← e] at p
  rcases Classical.em (0 < 1 - A' (N - 1 - k) (N - 1 - k)) with z | z
  · exact z
  · exfalso
    have z2 := Rat.not_lt.mp z
    have := Rat.mul_le_mul_of_nonneg_left z2 (Rat.le_of_lt s0)
    grind
theorem div_nn {a b : Rat} (ha : 0 ≤ a) (hb : 0 < b) : 0 ≤ a / b := by
  rw [Rat.div_def]
  exact Rat.mul_nonneg ha (Rat.le_of_lt (Rat.inv_pos.mpr hb))
theorem div_le {a b c : Rat} (hb : 0 < b) (h : a ≤ b * c) : a / b ≤ c := by
  have e : a / b * b = a := by grind
  rcases Classical.em (a / b ≤ c) with z | z
  · exact z
  · exfalso
    have z2 := Rat.not_le.mp z
    have := Rat.mul_lt_mul_of_pos_right z2 hb
    grind
theorem sg_drop {p : Nat} (f : Nat → Rat) : ∀ {l : List Nat}, l.Nodup → p ∈ l → sg l (fun j => if j = p then 0 else f j) = sg l f - f p
  | y :: l, nd, hp => by
    rw [List.nodup_cons] at nd
    rw [sg_cons, sg_cons]
    rcases List.mem_cons.mp hp with rfl | hp
    · have : sg l (fun j => if j = p then 0 else f j) = sg l f := sg_congr fun j hj => by
        have : j ≠ p := fun e => nd.1 (e ▸ hj)
        simp [this]
      rw [this, if_pos rfl]
      grind
    · have : y ≠ p := fun e => nd.1 (e ▸ hp)
      rw [if_neg this, sg_drop f nd.2 hp]
      grind
theorem phi_norm {p o : Nat} (hp : p < N) (y : Nat → Rat) (a : Rat) (ha : a ≠ 0) : C p o / a + sg (List.range N) (fun j => (if j = p then 0 else A p j) / a * y j) = (C p o + sg (List.range N) (fun j => A p j * y j) - A p p * y p) / a := by
  have e : sg (List.range N) (fun j => (if j = p then 0 else A p j) / a * y j) = (1 / a) * sg (List.range N) (fun j => if j = p then 0 else A p j * y j) := by
    rw [← sg_mul]
    refine sg_congr fun j _ => ?_
    by_cases h : j = p
    · simp only [h, if_true]; grind
    · simp only [h, if_false]; grind
  rw [e, sg_drop (fun j => A p j * y j) List.nodup_range (List.mem_range.mpr hp)]
  grind
theorem phi_put {i p : Nat} (hp : p < N) (y : Nat → Rat) (c c1 : Rat) (r : Nat → Rat) : (c + A i p * c1) + sg (List.range N) (fun j => ((if j = p then 0 else A i j) + A i p * r j) * y j) = (c + sg (List.range N) (fun j => A i j * y j)) - A i p * y p + A i p * (c1 + sg (List.range N) (fun j => r j * y j)) := by
  have e : sg (List.range N) (fun j => ((if j = p then 0 else A i j) + A i p * r j) * y j) = sg (List.range N) (fun j => if j = p then 0 else A i j * y j) + A i p * sg (List.range N) (fun j => r j * y j) := by
    rw [← sg_mul, ← sg_add]
    refine sg_congr fun j _ => ?_
    by_cases h : j = p
    · simp only [h, if_true]; grind
    · simp only [h, if_false]; grind
  rw [e, sg_drop (fun j => A i j * y j) List.nodup_range (List.mem_range.mpr hp)]
  grind
theorem isZ.neg {a : Rat} : isZ a → isZ (-a) := fun ⟨z, hz⟩ => ⟨-z, by rw [hz, Rat.intCast_neg]⟩
theorem pow_mono {q : Rat} (h : 1 ≤ q) {n m : Nat} (hnm : n ≤ m) : q ^ n ≤ q ^ m := by
  obtain ⟨d, rfl⟩ : ∃ d, m = n + d := ⟨m - n, by omega⟩
  have pos : ∀ n : Nat, 0 ≤ q ^ n := by
    intro n
    induction n with
    | zero => rw [Rat.pow_zero]; decide
    | succ n ih => rw [Rat.pow_succ]; exact Rat.mul_nonneg ih (by grind)
  induction d with
  | zero => exact Rat.le_refl
  | succ d ih =>
    refine Rat.le_trans (ih (by omega)) ?_
    rw [← Nat.add_assoc, Rat.pow_succ]
    have := Rat.mul_le_mul_of_nonneg_left h (pos (n + d))
    grind
theorem Inv.norm (b : Base N w s A C M h x) (v : Inv N w s M h x k A' C') (hk : k < N) :
    (∀ j, 0 ≤ (if j = N - 1 - k then 0 else A' (N - 1 - k) j) / (1 - A' (N - 1 - k) (N - 1 - k))) ∧ (∀ o, 0 ≤ C' (N - 1 - k) o / (1 - A' (N - 1 - k) (N - 1 - k))) ∧
    (∀ o, C' (N - 1 - k) o / (1 - A' (N - 1 - k) (N - 1 - k)) + sg (List.range N) (fun j => (if j = N - 1 - k then 0 else A' (N - 1 - k) j) / (1 - A' (N - 1 - k) (N - 1 - k)) * ((s : Rat) * h j)) ≤ (s : Rat) * h (N - 1 - k)) ∧
    (∀ o, x (N - 1 - k) o = C' (N - 1 - k) o / (1 - A' (N - 1 - k) (N - 1 - k)) + sg (List.range N) (fun j => (if j = N - 1 - k then 0 else A' (N - 1 - k) j) / (1 - A' (N - 1 - k) (N - 1 - k)) * x j o)) ∧
    ∃ D : Int, 0 < D ∧ (D : Rat) ≤ (s : Rat) ^ 200 ∧ (∀ j, isZ (D * ((if j = N - 1 - k then 0 else A' (N - 1 - k) j) / (1 - A' (N - 1 - k) (N - 1 - k))))) ∧ ∀ o, isZ (D * (C' (N - 1 - k) o / (1 - A' (N - 1 - k) (N - 1 - k)))) := by
  obtain ⟨re, r0⟩ := v.rest b hk
  have piv := b.pivot hk
  have hp : N - 1 - k < N := by omega
  have htop : N - 1 - k < N - k := by omega
  obtain ⟨dz, mz⟩ := minor_int b.good List.nodup_range b.hp b.iM k (Lk_len N k) (b.sub (by omega))
  obtain ⟨dz1, _⟩ := minor_int b.good List.nodup_range b.hp b.iM (k + 1) (Lk_len N (k + 1)) (b.sub (by omega))
  have s1 : (1 : Rat) ≤ (s : Rat) := by have := b.sd; exact_mod_cast (by omega : (1 : Int) ≤ s)
  have mb : ∀ i ∈ List.range N, M i i ≤ (s : Rat) := fun i hi => by
    have := b.mA i i (List.mem_range.mp hi) (List.mem_range.mp hi)
    rw [if_pos rfl] at this
    have n := b.nA i i
    have := Rat.mul_nonneg (by grind : (0 : Rat) ≤ (s : Rat)) n
    grind
  obtain ⟨d0, db, _⟩ := dets_bd b.good List.nodup_range b.hp mb (b.sub (k := k + 1) (by omega))
  generalize hpe : N - 1 - k = p at *
  have e1 : Lk N (k + 1) = p :: Lk N k := by rw [Lk, hpe]
  have dd : dets M (Lk N (k + 1)) = dets M (Lk N k) * elims M (Lk N k) p p := by rw [e1]; rfl
  have ane : 1 - A' p p ≠ 0 := by grind
  have sne : (s : Rat) ≠ 0 := by grind
  refine ⟨fun j => ?_, fun o => div_nn (v.nC p o) r0, fun o => ?_, fun o => ?_, ?_⟩
  · by_cases e : j = p
    · rw [if_pos e]; exact div_nn Rat.le_refl r0
    · rw [if_neg e]; exact div_nn (v.nA p j) r0
  · rw [phi_norm hp _ _ ane]
    refine div_le r0 ?_
    have := v.ht p hp o
    grind
  · rw [phi_norm hp _ _ ane]
    have := v.sol p hp o
    grind
  · obtain ⟨z, hz⟩ := dz1
    rw [Lk_len] at db
    refine ⟨z, ?_, ?_, fun j => ?_, fun o => ?_⟩
    · rw [hz] at d0
      exact_mod_cast d0
    · rw [← hz]
      exact Rat.le_trans db (pow_mono s1 (by have := b.n100; omega))
    · rw [← hz, dd]
      by_cases e : j = p
      · rw [if_pos e]
        refine ⟨0, ?_⟩
        have : ((0 : Int) : Rat) = 0 := rfl
        rw [this]
        grind
      · rw [if_neg e]
        rcases Nat.lt_or_ge j N with hj | hj
        · have t := v.top p j htop hj
          rw [if_neg (fun z => e z.symm)] at t
          have : dets M (Lk N k) * elims M (Lk N k) p p * (A' p j / (1 - A' p p)) = -(dets M (Lk N k) * elims M (Lk N k) p j) := by
            have q : A' p j / (1 - A' p p) * (1 - A' p p) = A' p j := by grind
            generalize A' p j / (1 - A' p p) = u at *
            grind
          rw [this]
          exact (mz p j).neg
        · rw [v.zA p j (.inr hj)]
          refine ⟨0, ?_⟩
          have : ((0 : Int) : Rat) = 0 := rfl
          rw [this]
          grind
    · rw [← hz, dd]
      have t := v.topC p o htop
      have : dets M (Lk N k) * elims M (Lk N k) p p * (C' p o / (1 - A' p p)) = -(dets M (Lk N k) * elims M (Lk N k) p (N + o)) := by
        have q : C' p o / (1 - A' p p) * (1 - A' p p) = C' p o := by grind
        generalize C' p o / (1 - A' p p) = u at *
        grind
      rw [this]
      exact (mz p (N + o)).neg
theorem Inv.step (b : Base N w s A C M h x) (v : Inv N w s M h x k A' C') (hk : k < N) : Inv N w s M h x (k + 1) (stepA A' (N - 1 - k)) (stepC A' C' (N - 1 - k)) := by
  obtain ⟨re, r0⟩ := v.rest b hk
  obtain ⟨n1, n2, n3, n4, n5⟩ := v.norm b hk
  have piv := b.pivot hk
  have hp : N - 1 - k < N := by omega
  have htop : N - 1 - k < N - k := by omega
  have hkp : N - (k + 1) = N - 1 - k := by omega
  have hkq : N - k = N - 1 - k + 1 := by omega
  have s1 : (1 : Rat) ≤ (s : Rat) := by have := b.sd; exact_mod_cast (by omega : (1 : Int) ≤ s)
  have hL : Lk N (k + 1) = (N - 1 - k) :: Lk N k := rfl
  have elE : ∀ i j, elims M (Lk N (k + 1)) i j = elims M (Lk N k) i j - elims M (Lk N k) i (N - 1 - k) * elims M (Lk N k) (N - 1 - k) j / elims M (Lk N k) (N - 1 - k) (N - 1 - k) := fun i j => rfl
  have vt := v.top
  have vc := v.topC
  rw [hkq] at vt vc
  generalize hpe : N - 1 - k = p at *
  let r : Nat → Rat := fun j => (if j = p then 0 else A' p j) / (1 - A' p p)
  let c1 : Nat → Rat := fun o => C' p o / (1 - A' p p)
  have ane : 1 - A' p p ≠ 0 := by grind
  have sne : (s : Rat) ≠ 0 := by grind
  have rp : r p = 0 := by simp only [r, if_true]; grind
  have aP : ∀ j, stepA A' p p j = r j := fun j => by simp [stepA, putA, normA, upd2, r]
  have cP : ∀ o, stepC A' C' p p o = c1 o := fun o => by simp [stepC, putC, normC, upd2, c1]
  have aL : ∀ i, i < p → ∀ j, stepA A' p i j = (if j = p then 0 else A' i j) + A' i p * r j := fun i hi j => by
    have : i ≠ p := by omega
    simp [stepA, putA, normA, upd2, r, hi, this]
  have cL : ∀ i, i < p → ∀ o, stepC A' C' p i o = C' i o + A' i p * c1 o := fun i hi o => by
    have : i ≠ p := by omega
    simp [stepC, putC, normC, normA, upd2, c1, hi, this]
  have aG : ∀ i, p < i → ∀ j, stepA A' p i j = A' i j := fun i hi j => by
    have h1 : i ≠ p := by omega
    have h2 : ¬ i < p := by omega
    simp [stepA, putA, normA, upd2, h1, h2]
  have cG : ∀ i, p < i → ∀ o, stepC A' C' p i o = C' i o := fun i hi o => by
    have h1 : i ≠ p := by omega
    have h2 : ¬ i < p := by omega
    simp [stepC, putC, normC, upd2, h1, h2]
  have tri3 : ∀ i, i < p ∨ i = p ∨ p < i := fun i => by omega
  refine ⟨fun i j => ?_, fun i o => ?_, fun i j hz => ?_, fun i o hz => ?_, fun i j hi hj => ?_, fun i o hi => ?_, fun i h1 h2 => ?_, fun i j hi hj => ?_, fun i j hi hj => ?_, fun i hi o => ?_, fun i hi o => ?_⟩
  · rcases tri3 i with h | rfl | h
    · rw [aL i h]
      have h1 := Rat.mul_nonneg (v.nA i p) (n1 j)
      by_cases e : j = p
      · rw [if_pos e]
        have : A' i p * r j = A' i p * ((if j = p then 0 else A' p j) / (1 - A' p p)) := rfl
        rw [this]
        grind
      · rw [if_neg e]
        have h2 := v.nA i j
        have : A' i p * r j = A' i p * ((if j = p then 0 else A' p j) / (1 - A' p p)) := rfl
        rw [this]
        grind
    · rw [aP]; exact n1 j
    · rw [aG i h]; exact v.nA i j
  · rcases tri3 i with h | rfl | h
    · rw [cL i h]
      have h1 := Rat.mul_nonneg (v.nA i p) (n2 o)
      have h2 := v.nC i o
      have : A' i p * c1 o = A' i p * (C' p o / (1 - A' p p)) := rfl
      rw [this]
      grind
    · rw [cP]; exact n2 o
    · rw [cG i h]; exact v.nC i o
  · have rz : N ≤ j → r j = 0 := fun hj => by
      have : j ≠ p := by omega
      simp only [r, if_neg this, v.zA p j (.inr hj)]
      grind
    rcases tri3 i with h | rfl | h
    · rcases hz with hz | hz
      · omega
      · rw [aL i h, rz hz, v.zA i j (.inr hz)]
        have : j ≠ p := by omega
        rw [if_neg this]
        grind
    · rcases hz with hz | hz
      · omega
      · rw [aP, rz hz]
    · rw [aG i h]; exact v.zA i j hz
  · have cz : w ≤ o → c1 o = 0 := fun ho => by
      simp only [c1, v.zC p o (.inr ho)]
      grind
    rcases tri3 i with h | rfl | h
    · rcases hz with hz | hz
      · omega
      · rw [cL i h, cz hz, v.zC i o (.inr hz)]
        grind
    · rcases hz with hz | hz
      · omega
      · rw [cP, cz hz]
    · rw [cG i h]; exact v.zC i o hz
  · rw [hkp] at hi
    rw [aL i hi, elE]
    have tij := vt i j (by omega) hj
    have tip := vt i p (by omega) hp
    rw [if_neg (by omega : ¬ i = p)] at tip
    by_cases e : j = p
    · subst e
      rw [if_pos rfl, rp, if_neg (by omega : ¬ i = j)]
      have : elims M (Lk N k) i j * elims M (Lk N k) j j / elims M (Lk N k) j j = elims M (Lk N k) i j := by grind
      rw [this]
      grind
    · rw [if_neg e]
      have tpj := vt p j (by omega) hj
      rw [if_neg (fun z => e z.symm)] at tpj
      have rr : r j * (1 - A' p p) = A' p j := by simp only [r, if_neg e]; grind
      have er : elims M (Lk N k) p p * r j = - elims M (Lk N k) p j := by
        rw [← re]
        grind
      have eq : elims M (Lk N k) i p * elims M (Lk N k) p j / elims M (Lk N k) p p = - (elims M (Lk N k) i p * r j) := by grind
      rw [eq]
      have m1 : (s : Rat) * (A' i p * r j) = - elims M (Lk N k) i p * r j := by grind
      grind
  · rw [hkp] at hi
    rw [cL i hi, elE]
    have tij := vc i o (by omega)
    have tip := vt i p (by omega) hp
    rw [if_neg (by omega : ¬ i = p)] at tip
    have tpj := vc p o (by omega)
    have rr : c1 o * (1 - A' p p) = C' p o := by simp only [c1]; grind
    have er : elims M (Lk N k) p p * c1 o = - elims M (Lk N k) p (N + o) := by
      rw [← re]
      grind
    have eq : elims M (Lk N k) i p * elims M (Lk N k) p (N + o) / elims M (Lk N k) p p = - (elims M (Lk N k) i p * c1 o) := by grind
    rw [eq]
    have m1 : (s : Rat) * (A' i p * c1 o) = - elims M (Lk N k) i p * c1 o := by grind
    grind
  · rw [hkp] at h1
    rcases tri3 i with h | rfl | h
    · omega
    · obtain ⟨D, d1, d2, d3, d4⟩ := n5
      exact ⟨D, d1, d2, fun j => by rw [aP]; exact d3 j, fun o => by rw [cP]; exact d4 o⟩
    · obtain ⟨D, d1, d2, d3, d4⟩ := v.low i (by omega) h2
      exact ⟨D, d1, d2, fun j => by rw [aG i h]; exact d3 j, fun o => by rw [cG i h]; exact d4 o⟩
  · rw [hkp] at hi hj
    rw [aL i hi]
    by_cases e : j = p
    · rw [if_pos e, e, rp]
      grind
    · rw [if_neg e, v.col i j (by omega) (by omega)]
      have : r j = 0 := by
        simp only [r, if_neg e, v.col p j (by omega) (by omega)]
        grind
      rw [this]
      grind
  · rw [hkp] at hi
    rcases tri3 i with h | rfl | h
    · omega
    · rw [aP]
      by_cases e : j = i
      · rw [e, rp]
      · simp only [r, if_neg e, v.col i j (by omega) (by omega)]
        grind
    · rw [aG i h]; exact v.tri i j (by omega) hj
  · rcases tri3 i with hh | rfl | hh
    · rw [cL i hh, sg_congr (fun j _ => by rw [aL i hh j]), phi_put hp]
      have h1 := v.ht i hi o
      have h2 := n3 o
      have h3 := v.nA i p
      have h4 := Rat.mul_le_mul_of_nonneg_left (show c1 o + sg (List.range N) (fun j => r j * ((s : Rat) * h j)) ≤ (s : Rat) * h p from h2) h3
      grind
    · rw [cP, sg_congr (fun j _ => by rw [aP j])]
      exact n3 o
    · rw [cG i hh, sg_congr (fun j _ => by rw [aG i hh j])]
      exact v.ht i hi o
  · rcases tri3 i with h | rfl | h
    · rw [cL i h, sg_congr (fun j _ => by rw [aL i h j]), phi_put hp]
      have h1 := v.sol i hi o
      have h2 : x p o = c1 o + sg (List.range N) (fun j => r j * x j o) := n4 o
      rw [← h2, ← h1]
      grind
    · rw [cP, sg_congr (fun j _ => by rw [aP j])]
      exact n4 o
    · rw [cG i h, sg_congr (fun j _ => by rw [aG i h j])]
      exact v.sol i hi o
end
end Fc
set_option exponentiation.threshold 256
set_option maxHeartbeats 4000000
set_option maxHeartbeats 4000000
set_option exponentiation.threshold 3000
namespace Fc
open PySem L2
theorem pow2_cast (n : Nat) : ((2 : Rat) ^ n) = (((2 : Int) ^ n : Int) : Rat) := by
  induction n with
  | zero => rfl
  | succ n ih => rw [Rat.pow_succ, Int.pow_succ, Rat.intCast_mul, ih]; rfl
theorem powI_cast (s : Int) (n : Nat) : ((s : Rat) ^ n) = ((s ^ n : Int) : Rat) := by
  induction n with
  | zero => rfl
  | succ n ih => rw [Rat.pow_succ, Int.pow_succ, Rat.intCast_mul, ih]
theorem bd_int {q : Rat} {D : Int} {a b K : Nat} (h0 : 0 < D) (hD : D ≤ 2 ^ a) (hq0 : 0 ≤ q) (hq : q ≤ (2 : Rat) ^ b) (hz : isZ (D * q)) (hK : a + b < K) : Bd K q := by
  obtain ⟨z, hz⟩ := hz
  have D0 : (0 : Rat) < (D : Rat) := by exact_mod_cast h0
  have e : q = (z : Rat) / (D : Rat) := by grind
  have z0 : 0 ≤ z := by
    have := Rat.mul_nonneg (Rat.le_of_lt D0) hq0
    rw [hz] at this
    exact_mod_cast this
  have z1 : z ≤ 2 ^ a * 2 ^ b := by
    have h1 : (D : Rat) * q ≤ (D : Rat) * (2 : Rat) ^ b := Rat.mul_le_mul_of_nonneg_left hq (Rat.le_of_lt D0)
    have h2 : (D : Rat) * (2 : Rat) ^ b = ((D * 2 ^ b : Int) : Rat) := by rw [Rat.intCast_mul, pow2_cast]
    rw [hz, h2] at h1
    have h3 : z ≤ D * 2 ^ b := by exact_mod_cast h1
    exact Int.le_trans h3 (Int.mul_le_mul_of_nonneg_right hD (Int.le_of_lt (Int.pow_pos (by decide))))
  rw [e]
  refine Bd.quot h0 ?_ ?_
  · rw [← Int.pow_add] at z1
    have : (2 : Int) ^ (a + b) < 2 ^ K := Int.pow_lt_pow_of_lt (by decide) hK
    have e2 : ((2 : Int) ^ K) = ((2 ^ K : Nat) : Int) := by norm_cast
    generalize (2 : Int) ^ (a + b) = u at *
    generalize (2 : Int) ^ K = w at *
    omega
  · have h1 : (2 : Int) ^ a ≤ 2 ^ (a + b) := by
      rw [Int.pow_add]
      have p1 : 0 < (2 : Int) ^ b := Int.pow_pos (by decide)
      have p2 : (2 : Int) ^ a * 1 ≤ 2 ^ a * 2 ^ b := Int.mul_le_mul_of_nonneg_left (by omega) (Int.le_of_lt (Int.pow_pos (by decide)))
      rwa [Int.mul_one] at p2
    have : (2 : Int) ^ (a + b) < 2 ^ K := Int.pow_lt_pow_of_lt (by decide) hK
    have e2 : ((2 : Int) ^ K) = ((2 ^ K : Nat) : Int) := by norm_cast
    generalize (2 : Int) ^ (a + b) = u at *
    generalize (2 : Int) ^ a = u2 at *
    generalize (2 : Int) ^ K = w at *
    omega
theorem sg_mem {l : List Nat} {f : Nat → Rat} (h : ∀ j ∈ l, 0 ≤ f j) {j : Nat} (hj : j ∈ l) : f j ≤ sg l f := by
  induction l with
  | nil => cases hj
  | cons y l ih =>
    rw [sg_cons]
    have h1 := sg_nonneg (l := l) (f := f) fun j hj => h j (by simp [hj])
    have h2 := h y (by simp)
    rcases List.mem_cons.mp hj with rfl | hj
    · grind
    · have := ih (fun j hj => h j (by simp [hj])) hj
      grind
theorem row_bd {N : Nat} {s : Int} {r c H : Nat → Rat} {Hi : Rat} {D : Int} (hs : 2 ≤ s ∧ s ≤ 6) (nr : ∀ j, 0 ≤ r j) (nc : ∀ o, 0 ≤ c o) (zr : ∀ j, N ≤ j → r j = 0) (h1 : ∀ j, 1 ≤ H j) (hb : Hi ≤ (2 : Rat) ^ 530)
    (ht : ∀ o, c o + sg (List.range N) (fun j => r j * H j) ≤ Hi) (d0 : 0 < D) (hD : (D : Rat) ≤ (s : Rat) ^ 201) (zz : ∀ j, isZ (D * r j)) (zc : ∀ o, isZ (D * c o)) : (∀ j, Bd 1100 (r j)) ∧ ∀ o, Bd 1100 (c o) := by
  have nH : ∀ j, 0 ≤ r j * H j := fun j => Rat.mul_nonneg (nr j) (by have := h1 j; grind)
  have sn := sg_nonneg (l := List.range N) (f := fun j => r j * H j) fun j _ => nH j
  have hDI : D ≤ 2 ^ 520 := by
    rw [powI_cast] at hD
    have h2 : D ≤ s ^ 201 := by exact_mod_cast hD
    have h3 := pow_le6 hs 201
    have h4 : (6 : Int) ^ 201 ≤ 2 ^ 520 := by decide
    omega
  refine ⟨fun j => ?_, fun o => bd_int d0 hDI (nc o) (by have := ht o; grind) (zc o) (by decide : 520 + 530 < 1100)⟩
  rcases Nat.lt_or_ge j N with hj | hj
  · refine bd_int d0 hDI (nr j) ?_ (zz j) (by decide : 520 + 530 < 1100)
    have m := sg_mem (l := List.range N) (f := fun j => r j * H j) (fun j _ => nH j) (List.mem_range.mpr hj)
    have h2 := ht 0
    have h3 := nc 0
    have h4 := Rat.mul_le_mul_of_nonneg_left (h1 j) (nr j)
    grind
  · rw [zr j hj]
    exact ⟨by decide, by decide⟩
section
variable {N w : Nat} {s : Int} {A C : Nat → Nat → Rat} {M : Mx} {h : Nat → Rat} {x : Nat → Nat → Rat} {A' C' : Nat → Nat → Rat} {k : Nat}
theorem Base.s1 (b : Base N w s A C M h x) : (1 : Rat) ≤ (s : Rat) := by have := b.sd; exact_mod_cast (by omega : (1 : Int) ≤ s)
theorem Base.H1 (b : Base N w s A C M h x) (j : Nat) : 1 ≤ (s : Rat) * h j := by
  have h1 := b.h1 j
  have h2 := b.s1
  have := Rat.mul_le_mul_of_nonneg_left h1 (by grind : (0 : Rat) ≤ (s : Rat))
  grind
theorem Inv.int (b : Base N w s A C M h x) (v : Inv N w s M h x k A' C') (hk : k ≤ N) {i : Nat} (hi : i < N) : ∃ D : Int, 0 < D ∧ (D : Rat) ≤ (s : Rat) ^ 201 ∧ (∀ j, isZ (D * A' i j)) ∧ ∀ o, isZ (D * C' i o) := by
  have s1 := b.s1
  rcases Nat.lt_or_ge i (N - k) with z | z
  · obtain ⟨dz, mz⟩ := minor_int b.good List.nodup_range b.hp b.iM k (Lk_len N k) (b.sub hk)
    have mb : ∀ i ∈ List.range N, M i i ≤ (s : Rat) := fun i hi => by
      have := b.mA i i (List.mem_range.mp hi) (List.mem_range.mp hi)
      rw [if_pos rfl] at this
      have n := b.nA i i
      have := Rat.mul_nonneg (by grind : (0 : Rat) ≤ (s : Rat)) n
      grind
    obtain ⟨d0, db, _⟩ := dets_bd b.good List.nodup_range b.hp mb (b.sub hk)
    obtain ⟨d, hd⟩ := dz
    rw [Lk_len] at db
    have s0 : 0 < s := by have := b.sd; omega
    rw [hd] at d0 db
    have dpos : 0 < d := by exact_mod_cast d0
    refine ⟨s * d, Int.mul_pos s0 dpos, ?_, fun j => ?_, fun o => ?_⟩
    · rw [Rat.intCast_mul]
      have h1 := Rat.mul_le_mul_of_nonneg_left db (by grind : (0 : Rat) ≤ (s : Rat))
      have h2 : (s : Rat) * (s : Rat) ^ k = (s : Rat) ^ (k + 1) := by rw [Rat.pow_succ]; grind
      rw [h2] at h1
      exact Rat.le_trans h1 (pow_mono s1 (by have := b.n100; omega))
    · rcases Nat.lt_or_ge j N with hj | hj
      · have t := v.top i j z hj
        have e : ((s * d : Int) : Rat) * A' i j = ((d : Int) : Rat) * (if i = j then (s : Rat) else 0) - dets M (Lk N k) * elims M (Lk N k) i j := by
          rw [Rat.intCast_mul, hd]
          grind
        rw [e]
        refine isZ.sub (isZ.mul (isZ.int d) ?_) (mz i j)
        split
        · exact isZ.int s
        · exact isZ.int 0
      · rw [v.zA i j (.inr hj)]
        refine ⟨0, ?_⟩
        have : ((0 : Int) : Rat) = 0 := rfl
        rw [this]
        grind
    · have t := v.topC i o z
      have e : ((s * d : Int) : Rat) * C' i o = -(dets M (Lk N k) * elims M (Lk N k) i (N + o)) := by
        rw [Rat.intCast_mul, hd]
        grind
      rw [e]
      exact (mz i (N + o)).neg
  · obtain ⟨D, d1, d2, d3, d4⟩ := v.low i z hi
    exact ⟨D, d1, Rat.le_trans d2 (pow_mono s1 (by decide)), d3, d4⟩
theorem bd0 : Bd 1100 (0 : Rat) := ⟨by decide, by decide⟩
theorem Inv.okm (b : Base N w s A C M h x) (v : Inv N w s M h x k A' C') (hk : k ≤ N) : Okm N A' C' := by
  have key : ∀ i, i < N → (∀ j, Bd 1100 (A' i j)) ∧ ∀ o, Bd 1100 (C' i o) := fun i hi => by
    obtain ⟨D, d1, d2, d3, d4⟩ := v.int b hk hi
    exact row_bd b.sd (v.nA i) (v.nC i) (fun j hj => v.zA i j (.inr hj)) b.H1 (b.hb i) (v.ht i hi) d1 d2 d3 d4
  refine ⟨v.nA, fun i j hj => v.zA i j (.inr hj), fun i j => ?_, fun i o => ?_⟩
  · rcases Nat.lt_or_ge i N with z | z
    · exact (key i z).1 j
    · rw [v.zA i j (.inl z)]; exact bd0
  · rcases Nat.lt_or_ge i N with z | z
    · exact (key i z).2 o
    · rw [v.zC i o (.inl z)]; exact bd0
theorem Inv.okm1 (b : Base N w s A C M h x) (v : Inv N w s M h x k A' C') (hk : k < N) : Okm N (normA A' (N - 1 - k)) (normC A' C' (N - 1 - k)) := by
  have ok := v.okm b (by omega)
  obtain ⟨n1, n2, n3, n4, D, d1, d2, d3, d4⟩ := v.norm b hk
  have zr : ∀ j, N ≤ j → (if j = N - 1 - k then 0 else A' (N - 1 - k) j) / (1 - A' (N - 1 - k) (N - 1 - k)) = 0 := fun j hj => by
    rw [if_neg (by omega), v.zA _ j (.inr hj)]
    rw [Rat.div_def, Rat.zero_mul]
  obtain ⟨r1, r2⟩ := row_bd b.sd n1 n2 zr b.H1 (b.hb _) n3 d1 (Rat.le_trans d2 (pow_mono b.s1 (by decide))) d3 d4
  refine ⟨fun i j => ?_, fun i j hj => ?_, fun i j => ?_, fun i o => ?_⟩
  · unfold normA upd2
    split
    · exact n1 j
    · exact ok.nA i j
  · unfold normA upd2
    split
    · exact zr j hj
    · exact ok.zA i j hj
  · unfold normA upd2
    split
    · exact r1 j
    · exact ok.bA i j
  · unfold normC upd2
    split
    · exact r2 o
    · exact ok.bC i o
end
end Fc
set_option exponentiation.threshold 256
set_option maxHeartbeats 4000000
set_option maxHeartbeats 4000000
set_option exponentiation.threshold 3000
namespace Fc
open PySem L2
def acc (N : Nat) (A C : Nat → Nat → Rat) : Nat → (Nat → Nat → Rat) × (Nat → Nat → Rat)
  | 0 => (A, C)
  | k + 1 => (stepA (acc N A C k).1 (N - 1 - k), stepC (acc N A C k).1 (acc N A C k).2 (N - 1 - k))
section
variable {N w : Nat} {s : Int} {A C : Nat → Nat → Rat} {M : Mx} {h : Nat → Rat} {x : Nat → Nat → Rat}
theorem Base.inv (b : Base N w s A C M h x) : ∀ k, k ≤ N → Inv N w s M h x k (acc N A C k).1 (acc N A C k).2
  | 0, _ => b.inv0
  | k + 1, hk => (Base.inv b k (by omega)).step b (by omega)
theorem sg_sub_le {l m : List Nat} {f : Nat → Rat} (nd : l.Nodup) (hl : ∀ j ∈ l, j ∈ m) (hm : m.Nodup) (h0 : ∀ j ∈ m, 0 ≤ f j) : sg l f ≤ sg m f := by
  have p1 : l.Perm (m.filter fun j => decide (j ∈ l)) := (List.perm_ext_iff_of_nodup nd (hm.filter _)).mpr fun a => by
    simp only [List.mem_filter, decide_eq_true_eq]
    exact ⟨fun h => ⟨hl a h, h⟩, fun h => h.2⟩
  have p2 := List.filter_append_perm (fun j => decide (j ∈ l)) m
  have app : ∀ a b : List Nat, sg (a ++ b) f = sg a f + sg b f := by
    intro a b
    induction a with
    | nil => simp only [List.nil_append, sg_nil]; grind
    | cons x a ih => rw [List.cons_append, sg_cons, sg_cons, ih]; grind
  have nn : 0 ≤ sg (m.filter fun j => !decide (j ∈ l)) f := sg_nonneg fun j hj => h0 j (List.mem_filter.mp hj).1
  rw [sg_perm p1 f, ← sg_perm p2 f, app]
  grind
theorem Base.elim (b : Base N w s A C M h x) {D : Int} (d0 : 0 < D) (dB : (D : Rat) ≤ (s : Rat) ^ 200) (dx : ∀ i o, i < N → isZ (D * x i o)) : Elim N w (fun k => (acc N A C k).1) (fun k => (acc N A C k).2) x := by
  have vN := b.inv N (Nat.le_refl _)
  have tri : ∀ i j, i < N → i ≤ j → (acc N A C N).1 i j = 0 := fun i j _ hj => vN.tri i j (by omega) hj
  have hx : ∀ i o, i < N → x i o = (acc N A C N).2 i o + sg (List.range i) fun j => (acc N A C N).1 i j * x j o := fun i o hi => by
    rw [vN.sol i hi o]
    congr 1
    symm
    refine sg_support List.nodup_range (fun j hj => by have := List.mem_range.mp hj; omega) fun j hj hn => ?_
    rw [tri i j hi (by simpa using hn)]
    grind
  have xb : ∀ i, i < N → ∀ o, 0 ≤ x i o ∧ x i o ≤ (s : Rat) * h i := by
    intro i
    induction i using Nat.strongRecOn with
    | _ i ih =>
      intro hi o
      rw [hx i o hi]
      have n1 := vN.nC i o
      have t := vN.ht i hi o
      have e : sg (List.range N) (fun j => (acc N A C N).1 i j * ((s : Rat) * h j)) = sg (List.range i) (fun j => (acc N A C N).1 i j * ((s : Rat) * h j)) := by
        symm
        refine sg_support List.nodup_range (fun j hj => by have := List.mem_range.mp hj; omega) fun j hj hn => ?_
        rw [tri i j hi (by simpa using hn)]
        grind
      rw [e] at t
      have le : sg (List.range i) (fun j => (acc N A C N).1 i j * x j o) ≤ sg (List.range i) (fun j => (acc N A C N).1 i j * ((s : Rat) * h j)) := sg_le fun j hj => by
        have hj := List.mem_range.mp hj
        exact Rat.mul_le_mul_of_nonneg_left (ih j hj (by omega) o).2 (vN.nA i j)
      have n2 := sg_nonneg (l := List.range i) (f := fun j => (acc N A C N).1 i j * x j o) fun j hj => by
        have hj := List.mem_range.mp hj
        exact Rat.mul_nonneg (vN.nA i j) (ih j hj (by omega) o).1
      grind
  have dI : D ≤ 2 ^ 520 := by
    rw [powI_cast] at dB
    have h2 : D ≤ s ^ 200 := by exact_mod_cast dB
    have h3 := pow_le6 b.sd 200
    have h4 : (6 : Int) ^ 200 ≤ 2 ^ 520 := by decide
    omega
  refine ⟨fun k hk => (b.inv k hk).okm b hk, fun k hk => (b.inv k (by omega)).okm1 b hk, fun k hk => ((b.inv k (by omega)).rest b hk).2, fun _ _ => rfl, fun _ _ => rfl, tri, fun i o hi _ => ?_, fun i o hi _ => hx i o hi, fun i hi l nd hl o _ => ?_⟩
  · exact bd_int d0 dI (xb i hi o).1 (Rat.le_trans (xb i hi o).2 (b.hb i)) (dx i o hi) (by decide : 520 + 530 < 1100)
  · obtain ⟨E, e0, eB, e1, e2⟩ := vN.int b (Nat.le_refl _) hi
    have eI : E ≤ 2 ^ 520 := by
      rw [powI_cast] at eB
      have h2 : E ≤ s ^ 201 := by exact_mod_cast eB
      have h3 := pow_le6 b.sd 201
      have h4 : (6 : Int) ^ 201 ≤ 2 ^ 520 := by decide
      omega
    have ED : E * D ≤ 2 ^ 1040 := by
      have h1 : E * D ≤ 2 ^ 520 * 2 ^ 520 := Int.mul_le_mul eI dI (by omega) (by decide)
      have h2 : (2 : Int) ^ 520 * 2 ^ 520 = 2 ^ 1040 := by rw [← Int.pow_add]
      omega
    have fn : ∀ j, j < i → 0 ≤ (acc N A C N).1 i j * x j o := fun j hj => Rat.mul_nonneg (vN.nA i j) (xb j (by omega) o).1
    have n1 := vN.nC i o
    have n2 := sg_nonneg (l := l) (f := fun j => (acc N A C N).1 i j * x j o) fun j hj => fn j (hl j hj)
    have le := sg_sub_le (l := l) (m := List.range i) (f := fun j => (acc N A C N).1 i j * x j o) nd (fun j hj => List.mem_range.mpr (hl j hj)) List.nodup_range fun j hj => fn j (List.mem_range.mp hj)
    have xe := hx i o hi
    refine bd_int (Int.mul_pos e0 d0) ED (by grind) (Rat.le_trans (b := x i o) (by grind) (Rat.le_trans (xb i hi o).2 (b.hb i))) ?_ (by decide : 1040 + 530 < 2000)
    have ex : ((E * D : Int) : Rat) * ((acc N A C N).2 i o + sg l fun j => (acc N A C N).1 i j * x j o) = (D : Rat) * (E * (acc N A C N).2 i o) + sg l fun j => (E * (acc N A C N).1 i j) * (D * x j o) := by
      have : sg l (fun j => (E * (acc N A C N).1 i j) * (D * x j o)) = ((E : Rat) * D) * sg l fun j => (acc N A C N).1 i j * x j o := by
        rw [← sg_mul]
        refine sg_congr fun j _ => ?_
        grind
      rw [this, Rat.intCast_mul]
      grind
    rw [ex]
    exact isZ.add (isZ.mul (isZ.int D) (e2 o)) (isZ.sg fun j hj => isZ.mul (e1 j) (dx j o (by have := hl j hj; omega)))
end
end Fc
set_option exponentiation.threshold 256
set_option maxHeartbeats 4000000
set_option maxHeartbeats 4000000
set_option exponentiation.threshold 3000
namespace Fc
open PySem L2
def Mt (s : Int) (m : Nat) (t : List Sta) : Mx := fun i j => if j < t.length then (if i = j then (s : Rat) else 0) - (s : Rat) * A0 s t i j else -((s : Rat) * C0 m t i (j - t.length))
structure Ranked (t : List Sta) (rk : Nat → Nat) : Prop where
  le : ∀ i, rk i ≤ t.length
  go : ∀ i l, t[i]? = some (.go l) → ∃ j ∈ l, rk j < rk i
def hv (s : Int) (N : Nat) : Nat → Rat
  | 0 => 1
  | d + 1 => hv s N d + (s : Rat) ^ (N - d)
def xs_ (s : Int) (m : Nat) (t : List Sta) : Nat → Nat → Rat := fun i o => - sol (Mt s m t) (Lk t.length t.length) (t.length + o) i
end Fc
set_option exponentiation.threshold 256
set_option maxHeartbeats 4000000
set_option maxHeartbeats 4000000
namespace Fc
open PySem L2
local macro_rules | `(tactic| walk_at "fc") => `(tactic| try simp only [runB, cSeq, cNil, cRet, cRetN, cExpr, cIf, cSet, cAsg, cPar, cAug, cRaise, cStore, cPass, cWipe, wipeD, toS_ok, toS_exn, toS_stuck, Res.bd_ok, Res.bd_exn, Res.bd_stuck, Res.bdN_ok, Res.bdN_exn, Res.bdN_stuck,
  eVar, eC, eTup, eLst, eOp, eChain, eUn, eAnd, eOr, eNot, eIf, eRep, tTs, tAnd2, tOr2, tNot2, tTrue, eCall, eBi, eIsi, eMtL, eSl, oNo, oSo, lNil, lCons, iSeq, iRange1, iRange2, zAdd, zSub, zMul, zDiv, zMod, ofO, opInt, opIn, opNotIn, opEq, opNe, opIs, opIsnt, mk_t, mk_f,
  List.map_cons, List.map_nil, List.length_cons, List.length_nil, List.replicate, List.append_nil, List.nil_append, List.cons_append, List.getElem?_cons_zero, List.getElem?_cons_succ, List.getElem?_nil, List.set_cons_zero, List.set_cons_succ, List.set_nil, lm0, lm1, lm2, lm3, lm4, lm5, lm6, lm7, lm8, lm9, asg_nm, asg_tp, asgs_nil, asgs_cons, Option.bind_some, Option.bind_none, Option.map_some, Option.map_none,
  Nat.reduceSub, Nat.reduceAdd, Nat.zero_add, Nat.add_zero, Nat.sub_self, if_true, if_false, reduceIte, Bool.false_eq_true, Bool.true_eq_false, Bool.not_true, Bool.not_false, ix_tup, ix_fz, at0, at1, at2, eDNew, eDGet, eDGet2, eDIn, eDPop, cDPut, cAugS, cSub2, dic_ref, keyOf, reduceCtorEq])
local macro_rules | `(tactic| walk_at "fo") => `(tactic| try simp only [*, runB, cSeq, cNil, cRet, cRetN, cExpr, cIf, cSet, cAsg, cPar, cAug, cRaise, cStore, cPass, cWipe, wipeD, toS_ok, toS_exn, toS_stuck, Res.bd_ok, Res.bd_exn, Res.bd_stuck, Res.bdN_ok, Res.bdN_exn, Res.bdN_stuck,
  eVar, eC, eTup, eLst, eOp, eChain, eUn, eAnd, eOr, eNot, eIf, eRep, tTs, tAnd2, tOr2, tNot2, tTrue, eCall, eBi, eIsi, eMtL, eSl, oNo, oSo, lNil, lCons, iSeq, iRange1, iRange2, zAdd, zSub, zMul, zDiv, zMod, ofO, opInt, opIn, opNotIn, opEq, opNe, opIs, opIsnt, mk_t, mk_f,
  List.map_cons, List.map_nil, List.length_cons, List.length_nil, List.replicate, List.append_nil, List.nil_append, List.cons_append, List.getElem?_cons_zero, List.getElem?_cons_succ, List.getElem?_nil, List.set_cons_zero, List.set_cons_succ, List.set_nil, lm0, lm1, lm2, lm3, lm4, lm5, lm6, lm7, lm8, lm9, asg_nm, asg_tp, asgs_nil, asgs_cons, Option.bind_some, Option.bind_none, Option.map_some, Option.map_none,
  Nat.reduceSub, Nat.reduceAdd, Nat.zero_add, Nat.add_zero, Nat.sub_self, if_true, if_false, reduceIte, Bool.false_eq_true, Bool.true_eq_false, Bool.not_true, Bool.not_false, ix_tup, ix_fz, at0, at1, at2, eDNew, eDGet, eDGet2, eDIn, eDPop, cDPut, cAugS, cSub2, dic_ref, keyOf, reduceCtorEq, and_self, Bool.and_self, decide_true, decide_false, List.append_assoc, List.length_append, Nat.add_assoc, at_new, at_newk, add_fz, add_rf, add_tt, ix_ref, seq_ref, list_ref, seq_tup, seq_fz, list_fz, ix_tup, ix_fz, neg_int, app_ref, set_newk, set_new0, iZ, iEn, sl_tup, sl_fz, eLcV, len_tup, len_ref, len_fz, tuple_fz, tuple_ref, ty_non, ty_bl, ty_int, ty_str, ty_tup, ty_fz])
local macro_rules | `(tactic| walk_at "fg") => `(tactic| try simp only [*, runB, cSeq, cNil, cRet, cRetN, cExpr, cIf, cSet, cAsg, cPar, cAug, cRaise, cStore, cPass, cWipe, wipeD, toS_ok, toS_exn, toS_stuck, Res.bd_ok, Res.bd_exn, Res.bd_stuck, Res.bdN_ok, Res.bdN_exn, Res.bdN_stuck,
  eVar, eC, eTup, eLst, eOp, eChain, eUn, eAnd, eOr, eNot, eIf, eRep, tTs, tAnd2, tOr2, tNot2, tTrue, eCall, eBi, eIsi, eMtL, eSl, oNo, oSo, lNil, lCons, iSeq, iRange1, iRange2, zAdd, zSub, zMul, zDiv, zMod, ofO, opInt, opIn, opNotIn, opEq, opNe, opIs, opIsnt, mk_t, mk_f,
  List.map_cons, List.map_nil, List.length_cons, List.length_nil, List.replicate, List.append_nil, List.nil_append, List.cons_append, List.getElem?_cons_zero, List.getElem?_cons_succ, List.getElem?_nil, List.set_cons_zero, List.set_cons_succ, List.set_nil, lm0, lm1, lm2, lm3, lm4, lm5, lm6, lm7, lm8, lm9, asg_nm, asg_tp, asgs_nil, asgs_cons, Option.bind_some, Option.bind_none, Option.map_some, Option.map_none,
  Nat.reduceSub, Nat.reduceAdd, Nat.zero_add, Nat.add_zero, Nat.sub_self, if_true, if_false, reduceIte, Bool.false_eq_true, Bool.true_eq_false, Bool.not_true, Bool.not_false, ix_tup, ix_fz, at0, at1, at2, eDNew, eDGet, eDGet2, eDIn, eDPop, cDPut, cAugS, cSub2, dic_ref, keyOf, reduceCtorEq, and_self, Bool.and_self, decide_true, decide_false, List.append_assoc, List.length_append, Nat.add_assoc, at_new, at_newk, add_fz, add_rf, add_tt, ix_ref, seq_ref, list_ref, seq_tup, seq_fz, list_fz, ix_tup, ix_fz, neg_int, app_ref, set_newk, set_new0, iZ, iEn, sl_tup, sl_fz, eLcV, len_tup, len_ref, len_fz, tuple_fz, tuple_ref, ty_non, ty_bl, ty_int, ty_str, ty_tup, ty_fz])
local macro_rules | `(tactic| walk_at "fs") => `(tactic| try simp [runB, cSeq, cNil, cRet, cRetN, cExpr, cIf, cSet, cAsg, cPar, cAug, cRaise, cStore, cPass, cWipe, wipeD, toS_ok, toS_exn, toS_stuck, Res.bd_ok, Res.bd_exn, Res.bd_stuck, Res.bdN_ok, Res.bdN_exn, Res.bdN_stuck,
  eVar, eC, eTup, eLst, eOp, eChain, eUn, eAnd, eOr, eNot, eIf, eRep, tTs, tAnd2, tOr2, tNot2, tTrue, eCall, eBi, eIsi, eMtL, eSl, oNo, oSo, lNil, lCons, iSeq, iRange1, iRange2, zAdd, zSub, zMul, zDiv, zMod, ofO, opInt, opIn, opNotIn, opEq, opNe, opIs, opIsnt, mk_t, mk_f,
  List.map_cons, List.map_nil, List.length_cons, List.length_nil, List.replicate, List.append_nil, List.nil_append, List.cons_append, List.getElem?_cons_zero, List.getElem?_cons_succ, List.getElem?_nil, List.set_cons_zero, List.set_cons_succ, List.set_nil, lm0, lm1, lm2, lm3, lm4, lm5, lm6, lm7, lm8, lm9, asg_nm, asg_tp, asgs_nil, asgs_cons, Option.bind_some, Option.bind_none, Option.map_some, Option.map_none,
  Nat.reduceSub, Nat.reduceAdd, Nat.zero_add, Nat.add_zero, Nat.sub_self, if_true, if_false, reduceIte, Bool.false_eq_true, Bool.true_eq_false, Bool.not_true, Bool.not_false, ix_tup, ix_fz, at0, at1, at2, eDNew, eDGet, eDGet2, eDIn, eDPop, cDPut, cAugS, cSub2, dic_ref, keyOf, reduceCtorEq, and_self, Bool.and_self, decide_true, decide_false, List.append_assoc, List.length_append, Nat.add_assoc, at_new, at_newk, add_fz, add_rf, add_tt, ix_ref, seq_ref, list_ref, seq_tup, seq_fz, list_fz, ix_tup, ix_fz, neg_int, app_ref, set_newk, set_new0, iZ, iEn, sl_tup, sl_fz, eLcV, len_tup, len_ref, len_fz, tuple_fz, tuple_ref, ty_non, ty_bl, ty_int, ty_str, ty_tup, ty_fz, isT, eqD_int, at0, at1])
local macro_rules | `(tactic| walk_at "fh") => `(tactic| try simp [*, runB, cSeq, cNil, cRet, cRetN, cExpr, cIf, cSet, cAsg, cPar, cAug, cRaise, cStore, cPass, cWipe, wipeD, toS_ok, toS_exn, toS_stuck, Res.bd_ok, Res.bd_exn, Res.bd_stuck, Res.bdN_ok, Res.bdN_exn, Res.bdN_stuck,
  eVar, eC, eTup, eLst, eOp, eChain, eUn, eAnd, eOr, eNot, eIf, eRep, tTs, tAnd2, tOr2, tNot2, tTrue, eCall, eBi, eIsi, eMtL, eSl, oNo, oSo, lNil, lCons, iSeq, iRange1, iRange2, zAdd, zSub, zMul, zDiv, zMod, ofO, opInt, opIn, opNotIn, opEq, opNe, opIs, opIsnt, mk_t, mk_f,
  List.map_cons, List.map_nil, List.length_cons, List.length_nil, List.replicate, List.append_nil, List.nil_append, List.cons_append, List.getElem?_cons_zero, List.getElem?_cons_succ, List.getElem?_nil, List.set_cons_zero, List.set_cons_succ, List.set_nil, lm0, lm1, lm2, lm3, lm4, lm5, lm6, lm7, lm8, lm9, asg_nm, asg_tp, asgs_nil, asgs_cons, Option.bind_some, Option.bind_none, Option.map_some, Option.map_none,
  Nat.reduceSub, Nat.reduceAdd, Nat.zero_add, Nat.add_zero, Nat.sub_self, if_true, if_false, reduceIte, Bool.false_eq_true, Bool.true_eq_false, Bool.not_true, Bool.not_false, ix_tup, ix_fz, at0, at1, at2, eDNew, eDGet, eDGet2, eDIn, eDPop, cDPut, cAugS, cSub2, dic_ref, keyOf, reduceCtorEq, and_self, Bool.and_self, decide_true, decide_false, List.append_assoc, List.length_append, Nat.add_assoc, at_new, at_newk, add_fz, add_rf, add_tt, ix_ref, seq_ref, list_ref, seq_tup, seq_fz, list_fz, ix_tup, ix_fz, neg_int, app_ref, set_newk, set_new0, iZ, iEn, sl_tup, sl_fz, eLcV, len_tup, len_ref, len_fz, tuple_fz, tuple_ref, ty_non, ty_bl, ty_int, ty_str, ty_tup, ty_fz, isT, eqD_int, at0, at1])
end Fc
set_option exponentiation.threshold 256
set_option maxHeartbeats 4000000
set_option maxHeartbeats 4000000
namespace Fc
open PySem L2
local macro_rules | `(tactic| walk_at "fc") => `(tactic| try simp only [runB, cSeq, cNil, cRet, cRetN, cExpr, cIf, cSet, cAsg, cPar, cAug, cRaise, cStore, cPass, cWipe, wipeD, toS_ok, toS_exn, toS_stuck, Res.bd_ok, Res.bd_exn, Res.bd_stuck, Res.bdN_ok, Res.bdN_exn, Res.bdN_stuck,
  eVar, eC, eTup, eLst, eOp, eChain, eUn, eAnd, eOr, eNot, eIf, eRep, tTs, tAnd2, tOr2, tNot2, tTrue, eCall, eBi, eIsi, eMtL, eSl, oNo, oSo, lNil, lCons, iSeq, iRange1, iRange2, zAdd, zSub, zMul, zDiv, zMod, ofO, opInt, opIn, opNotIn, opEq, opNe, opIs, opIsnt, mk_t, mk_f,
  List.map_cons, List.map_nil, List.length_cons, List.length_nil, List.replicate, List.append_nil, List.nil_append, List.cons_append, List.getElem?_cons_zero, List.getElem?_cons_succ, List.getElem?_nil, List.set_cons_zero, List.set_cons_succ, List.set_nil, lm0, lm1, lm2, lm3, lm4, lm5, lm6, lm7, lm8, lm9, asg_nm, asg_tp, asgs_nil, asgs_cons, Option.bind_some, Option.bind_none, Option.map_some, Option.map_none,
  Nat.reduceSub, Nat.reduceAdd, Nat.zero_add, Nat.add_zero, Nat.sub_self, if_true, if_false, reduceIte, Bool.false_eq_true, Bool.true_eq_false, Bool.not_true, Bool.not_false, ix_tup, ix_fz, at0, at1, at2, eDNew, eDGet, eDGet2, eDIn, eDPop, cDPut, cAugS, cSub2, dic_ref, keyOf, reduceCtorEq])
local macro_rules | `(tactic| walk_at "fo") => `(tactic| try simp only [*, runB, cSeq, cNil, cRet, cRetN, cExpr, cIf, cSet, cAsg, cPar, cAug, cRaise, cStore, cPass, cWipe, wipeD, toS_ok, toS_exn, toS_stuck, Res.bd_ok, Res.bd_exn, Res.bd_stuck, Res.bdN_ok, Res.bdN_exn, Res.bdN_stuck,
  eVar, eC, eTup, eLst, eOp, eChain, eUn, eAnd, eOr, eNot, eIf, eRep, tTs, tAnd2, tOr2, tNot2, tTrue, eCall, eBi, eIsi, eMtL, eSl, oNo, oSo, lNil, lCons, iSeq, iRange1, iRange2, zAdd, zSub, zMul, zDiv, zMod, ofO, opInt, opIn, opNotIn, opEq, opNe, opIs, opIsnt, mk_t, mk_f,
  List.map_cons, List.map_nil, List.length_cons, List.length_nil, List.replicate, List.append_nil, List.nil_append, List.cons_append, List.getElem?_cons_zero, List.getElem?_cons_succ, List.getElem?_nil, List.set_cons_zero, List.set_cons_succ, List.set_nil, lm0, lm1, lm2, lm3, lm4, lm5, lm6, lm7, lm8, lm9, asg_nm, asg_tp, asgs_nil, asgs_cons, Option.bind_some, Option.bind_none, Option.map_some, Option.map_none,
  Nat.reduceSub, Nat.reduceAdd, Nat.zero_add, Nat.add_zero, Nat.sub_self, if_true, if_false, reduceIte, Bool.false_eq_true, Bool.true_eq_false, Bool.not_true, Bool.not_false, ix_tup, ix_fz, at0, at1, at2, eDNew, eDGet, eDGet2, eDIn, eDPop, cDPut, cAugS, cSub2, dic_ref, keyOf, reduceCtorEq, and_self, Bool.and_self, decide_true, decide_false, List.append_assoc, List.length_append, Nat.add_assoc, at_new, at_newk, add_fz, add_rf, add_tt, ix_ref, seq_ref, list_ref, seq_tup, seq_fz, list_fz, ix_tup, ix_fz, neg_int, app_ref, set_newk, set_new0, iZ, iEn, sl_tup, sl_fz, eLcV, len_tup, len_ref, len_fz, tuple_fz, tuple_ref, ty_non, ty_bl, ty_int, ty_str, ty_tup, ty_fz])
local macro_rules | `(tactic| walk_at "fg") => `(tactic| try simp only [*, runB, cSeq, cNil, cRet, cRetN, cExpr, cIf, cSet, cAsg, cPar, cAug, cRaise, cStore, cPass, cWipe, wipeD, toS_ok, toS_exn, toS_stuck, Res.bd_ok, Res.bd_exn, Res.bd_stuck, Res.bdN_ok, Res.bdN_exn, Res.bdN_stuck,
  eVar, eC, eTup, eLst, eOp, eChain, eUn, eAnd, eOr, eNot, eIf, eRep, tTs, tAnd2, tOr2, tNot2, tTrue, eCall, eBi, eIsi, eMtL, eSl, oNo, oSo, lNil, lCons, iSeq, iRange1, iRange2, zAdd, zSub, zMul, zDiv, zMod, ofO, opInt, opIn, opNotIn, opEq, opNe, opIs, opIsnt, mk_t, mk_f,
  List.map_cons, List.map_nil, List.length_cons, List.length_nil, List.replicate, List.append_nil, List.nil_append, List.cons_append, List.getElem?_cons_zero, List.getElem?_cons_succ, List.getElem?_nil, List.set_cons_zero, List.set_cons_succ, List.set_nil, lm0, lm1, lm2, lm3, lm4, lm5, lm6, lm7, lm8, lm9, asg_nm, asg_tp, asgs_nil, asgs_cons, Option.bind_some, Option.bind_none, Option.map_some, Option.map_none,
  Nat.reduceSub, Nat.reduceAdd, Nat.zero_add, Nat.add_zero, Nat.sub_self, if_true, if_false, reduceIte, Bool.false_eq_true, Bool.true_eq_false, Bool.not_true, Bool.not_false, ix_tup, ix_fz, at0, at1, at2, eDNew, eDGet, eDGet2, eDIn, eDPop, cDPut, cAugS, cSub2, dic_ref, keyOf, reduceCtorEq, and_self, Bool.and_self, decide_true, decide_false, List.append_assoc, List.length_append, Nat.add_assoc, at_new, at_newk, add_fz, add_rf, add_tt, ix_ref, seq_ref, list_ref, seq_tup, seq_fz, list_fz, ix_tup, ix_fz, neg_int, app_ref, set_newk, set_new0, iZ, iEn, sl_tup, sl_fz, eLcV, len_tup, len_ref, len_fz, tuple_fz, tuple_ref, ty_non, ty_bl, ty_int, ty_str, ty_tup, ty_fz])
local macro_rules | `(tactic| walk_at "fs") => `(tactic| try simp [runB, cSeq, cNil, cRet, cRetN, cExpr, cIf, cSet, cAsg, cPar, cAug, cRaise, cStore, cPass, cWipe, wipeD, toS_ok, toS_exn, toS_stuck, Res.bd_ok, Res.bd_exn, Res.bd_stuck, Res.bdN_ok, Res.bdN_exn, Res.bdN_stuck,
  eVar, eC, eTup, eLst, eOp, eChain, eUn, eAnd, eOr, eNot, eIf, eRep, tTs, tAnd2, tOr2, tNot2, tTrue, eCall, eBi, eIsi, eMtL, eSl, oNo, oSo, lNil, lCons, iSeq, iRange1, iRange2, zAdd, zSub, zMul, zDiv, zMod, ofO, opInt, opIn, opNotIn, opEq, opNe, opIs, opIsnt, mk_t, mk_f,
  List.map_cons, List.map_nil, List.length_cons, List.length_nil, List.replicate, List.append_nil, List.nil_append, List.cons_append, List.getElem?_cons_zero, List.getElem?_cons_succ, List.getElem?_nil, List.set_cons_zero, List.set_cons_succ, List.set_nil, lm0, lm1, lm2, lm3, lm4, lm5, lm6, lm7, lm8, lm9, asg_nm, asg_tp, asgs_nil, asgs_cons, Option.bind_some, Option.bind_none, Option.map_some, Option.map_none,
  Nat.reduceSub, Nat.reduceAdd, Nat.zero_add, Nat.add_zero, Nat.sub_self, if_true, if_false, reduceIte, Bool.false_eq_true, Bool.true_eq_false, Bool.not_true, Bool.not_false, ix_tup, ix_fz, at0, at1, at2, eDNew, eDGet, eDGet2, eDIn, eDPop, cDPut, cAugS, cSub2, dic_ref, keyOf, reduceCtorEq, and_self, Bool.and_self, decide_true, decide_false, List.append_assoc, List.length_append, Nat.add_assoc, at_new, at_newk, add_fz, add_rf, add_tt, ix_ref, seq_ref, list_ref, seq_tup, seq_fz, list_fz, ix_tup, ix_fz, neg_int, app_ref, set_newk, set_new0, iZ, iEn, sl_tup, sl_fz, eLcV, len_tup, len_ref, len_fz, tuple_fz, tuple_ref, ty_non, ty_bl, ty_int, ty_str, ty_tup, ty_fz, isT, eqD_int, at0, at1])
local macro_rules | `(tactic| walk_at "fh") => `(tactic| try simp [*, runB, cSeq, cNil, cRet, cRetN, cExpr, cIf, cSet, cAsg, cPar, cAug, cRaise, cStore, cPass, cWipe, wipeD, toS_ok, toS_exn, toS_stuck, Res.bd_ok, Res.bd_exn, Res.bd_stuck, Res.bdN_ok, Res.bdN_exn, Res.bdN_stuck,
  eVar, eC, eTup, eLst, eOp, eChain, eUn, eAnd, eOr, eNot, eIf, eRep, tTs, tAnd2, tOr2, tNot2, tTrue, eCall, eBi, eIsi, eMtL, eSl, oNo, oSo, lNil, lCons, iSeq, iRange1, iRange2, zAdd, zSub, zMul, zDiv, zMod, ofO, opInt, opIn, opNotIn, opEq, opNe, opIs, opIsnt, mk_t, mk_f,
  List.map_cons, List.map_nil, List.length_cons, List.length_nil, List.replicate, List.append_nil, List.nil_append, List.cons_append, List.getElem?_cons_zero, List.getElem?_cons_succ, List.getElem?_nil, List.set_cons_zero, List.set_cons_succ, List.set_nil, lm0, lm1, lm2, lm3, lm4, lm5, lm6, lm7, lm8, lm9, asg_nm, asg_tp, asgs_nil, asgs_cons, Option.bind_some, Option.bind_none, Option.map_some, Option.map_none,
  Nat.reduceSub, Nat.reduceAdd, Nat.zero_add, Nat.add_zero, Nat.sub_self, if_true, if_false, reduceIte, Bool.false_eq_true, Bool.true_eq_false, Bool.not_true, Bool.not_false, ix_tup, ix_fz, at0, at1, at2, eDNew, eDGet, eDGet2, eDIn, eDPop, cDPut, cAugS, cSub2, dic_ref, keyOf, reduceCtorEq, and_self, Bool.and_self, decide_true, decide_false, List.append_assoc, List.length_append, Nat.add_assoc, at_new, at_newk, add_fz, add_rf, add_tt, ix_ref, seq_ref, list_ref, seq_tup, seq_fz, list_fz, ix_tup, ix_fz, neg_int, app_ref, set_newk, set_new0, iZ, iEn, sl_tup, sl_fz, eLcV, len_tup, len_ref, len_fz, tuple_fz, tuple_ref, ty_non, ty_bl, ty_int, ty_str, ty_tup, ty_fz, isT, eqD_int, at0, at1])
def succs (t : List Sta) (i : Nat) : List Nat := match t[i]? with
  | some (.go l) => l
  | _ => []
end Fc
set_option exponentiation.threshold 256
set_option maxHeartbeats 4000000
set_option maxHeartbeats 4000000
namespace Fc
open PySem L2
local macro_rules | `(tactic| walk_at "fc") => `(tactic| try simp only [runB, cSeq, cNil, cRet, cRetN, cExpr, cIf, cSet, cAsg, cPar, cAug, cRaise, cStore, cPass, cWipe, wipeD, toS_ok, toS_exn, toS_stuck, Res.bd_ok, Res.bd_exn, Res.bd_stuck, Res.bdN_ok, Res.bdN_exn, Res.bdN_stuck,
  eVar, eC, eTup, eLst, eOp, eChain, eUn, eAnd, eOr, eNot, eIf, eRep, tTs, tAnd2, tOr2, tNot2, tTrue, eCall, eBi, eIsi, eMtL, eSl, oNo, oSo, lNil, lCons, iSeq, iRange1, iRange2, zAdd, zSub, zMul, zDiv, zMod, ofO, opInt, opIn, opNotIn, opEq, opNe, opIs, opIsnt, mk_t, mk_f,
  List.map_cons, List.map_nil, List.length_cons, List.length_nil, List.replicate, List.append_nil, List.nil_append, List.cons_append, List.getElem?_cons_zero, List.getElem?_cons_succ, List.getElem?_nil, List.set_cons_zero, List.set_cons_succ, List.set_nil, lm0, lm1, lm2, lm3, lm4, lm5, lm6, lm7, lm8, lm9, asg_nm, asg_tp, asgs_nil, asgs_cons, Option.bind_some, Option.bind_none, Option.map_some, Option.map_none,
  Nat.reduceSub, Nat.reduceAdd, Nat.zero_add, Nat.add_zero, Nat.sub_self, if_true, if_false, reduceIte, Bool.false_eq_true, Bool.true_eq_false, Bool.not_true, Bool.not_false, ix_tup, ix_fz, at0, at1, at2, eDNew, eDGet, eDGet2, eDIn, eDPop, cDPut, cAugS, cSub2, dic_ref, keyOf, reduceCtorEq])
local macro_rules | `(tactic| walk_at "fo") => `(tactic| try simp only [*, runB, cSeq, cNil, cRet, cRetN, cExpr, cIf, cSet, cAsg, cPar, cAug, cRaise, cStore, cPass, cWipe, wipeD, toS_ok, toS_exn, toS_stuck, Res.bd_ok, Res.bd_exn, Res.bd_stuck, Res.bdN_ok, Res.bdN_exn, Res.bdN_stuck,
  eVar, eC, eTup, eLst, eOp, eChain, eUn, eAnd, eOr, eNot, eIf, eRep, tTs, tAnd2, tOr2, tNot2, tTrue, eCall, eBi, eIsi, eMtL, eSl, oNo, oSo, lNil, lCons, iSeq, iRange1, iRange2, zAdd, zSub, zMul, zDiv, zMod, ofO, opInt, opIn, opNotIn, opEq, opNe, opIs, opIsnt, mk_t, mk_f,
  List.map_cons, List.map_nil, List.length_cons, List.length_nil, List.replicate, List.append_nil, List.nil_append, List.cons_append, List.getElem?_cons_zero, List.getElem?_cons_succ, List.getElem?_nil, List.set_cons_zero, List.set_cons_succ, List.set_nil, lm0, lm1, lm2, lm3, lm4, lm5, lm6, lm7, lm8, lm9, asg_nm, asg_tp, asgs_nil, asgs_cons, Option.bind_some, Option.bind_none, Option.map_some, Option.map_none,
  Nat.reduceSub, Nat.reduceAdd, Nat.zero_add, Nat.add_zero, Nat.sub_self, if_true, if_false, reduceIte, Bool.false_eq_true, Bool.true_eq_false, Bool.not_true, Bool.not_false, ix_tup, ix_fz, at0, at1, at2, eDNew, eDGet, eDGet2, eDIn, eDPop, cDPut, cAugS, cSub2, dic_ref, keyOf, reduceCtorEq, and_self, Bool.and_self, decide_true, decide_false, List.append_assoc, List.length_append, Nat.add_assoc, at_new, at_newk, add_fz, add_rf, add_tt, ix_ref, seq_ref, list_ref, seq_tup, seq_fz, list_fz, ix_tup, ix_fz, neg_int, app_ref, set_newk, set_new0, iZ, iEn, sl_tup, sl_fz, eLcV, len_tup, len_ref, len_fz, tuple_fz, tuple_ref, ty_non, ty_bl, ty_int, ty_str, ty_tup, ty_fz])
local macro_rules | `(tactic| walk_at "fg") => `(tactic| try simp only [*, runB, cSeq, cNil, cRet, cRetN, cExpr, cIf, cSet, cAsg, cPar, cAug, cRaise, cStore, cPass, cWipe, wipeD, toS_ok, toS_exn, toS_stuck, Res.bd_ok, Res.bd_exn, Res.bd_stuck, Res.bdN_ok, Res.bdN_exn, Res.bdN_stuck,
  eVar, eC, eTup, eLst, eOp, eChain, eUn, eAnd, eOr, eNot, eIf, eRep, tTs, tAnd2, tOr2, tNot2, tTrue, eCall, eBi, eIsi, eMtL, eSl, oNo, oSo, lNil, lCons, iSeq, iRange1, iRange2, zAdd, zSub, zMul, zDiv, zMod, ofO, opInt, opIn, opNotIn, opEq, opNe, opIs, opIsnt, mk_t, mk_f,
  List.map_cons, List.map_nil, List.length_cons, List.length_nil, List.replicate, List.append_nil, List.nil_append, List.cons_append, List.getElem?_cons_zero, List.getElem?_cons_succ, List.getElem?_nil, List.set_cons_zero, List.set_cons_succ, List.set_nil, lm0, lm1, lm2, lm3, lm4, lm5, lm6, lm7, lm8, lm9, asg_nm, asg_tp, asgs_nil, asgs_cons, Option.bind_some, Option.bind_none, Option.map_some, Option.map_none,
  Nat.reduceSub, Nat.reduceAdd, Nat.zero_add, Nat.add_zero, Nat.sub_self, if_true, if_false, reduceIte, Bool.false_eq_true, Bool.true_eq_false, Bool.not_true, Bool.not_false, ix_tup, ix_fz, at0, at1, at2, eDNew, eDGet, eDGet2, eDIn, eDPop, cDPut, cAugS, cSub2, dic_ref, keyOf, reduceCtorEq, and_self, Bool.and_self, decide_true, decide_false, List.append_assoc, List.length_append, Nat.add_assoc, at_new, at_newk, add_fz, add_rf, add_tt, ix_ref, seq_ref, list_ref, seq_tup, seq_fz, list_fz, ix_tup, ix_fz, neg_int, app_ref, set_newk, set_new0, iZ, iEn, sl_tup, sl_fz, eLcV, len_tup, len_ref, len_fz, tuple_fz, tuple_ref, ty_non, ty_bl, ty_int, ty_str, ty_tup, ty_fz])
local macro_rules | `(tactic| walk_at "fs") => `(tactic| try simp [runB, cSeq, cNil, cRet, cRetN, cExpr, cIf, cSet, cAsg, cPar, cAug, cRaise, cStore, cPass, cWipe, wipeD, toS_ok, toS_exn, toS_stuck, Res.bd_ok, Res.bd_exn, Res.bd_stuck, Res.bdN_ok, Res.bdN_exn, Res.bdN_stuck,
  eVar, eC, eTup, eLst, eOp, eChain, eUn, eAnd, eOr, eNot, eIf, eRep, tTs, tAnd2, tOr2, tNot2, tTrue, eCall, eBi, eIsi, eMtL, eSl, oNo, oSo, lNil, lCons, iSeq, iRange1, iRange2, zAdd, zSub, zMul, zDiv, zMod, ofO, opInt, opIn, opNotIn, opEq, opNe, opIs, opIsnt, mk_t, mk_f,
  List.map_cons, List.map_nil, List.length_cons, List.length_nil, List.replicate, List.append_nil, List.nil_append, List.cons_append, List.getElem?_cons_zero, List.getElem?_cons_succ, List.getElem?_nil, List.set_cons_zero, List.set_cons_succ, List.set_nil, lm0, lm1, lm2, lm3, lm4, lm5, lm6, lm7, lm8, lm9, asg_nm, asg_tp, asgs_nil, asgs_cons, Option.bind_some, Option.bind_none, Option.map_some, Option.map_none,
  Nat.reduceSub, Nat.reduceAdd, Nat.zero_add, Nat.add_zero, Nat.sub_self, if_true, if_false, reduceIte, Bool.false_eq_true, Bool.true_eq_false, Bool.not_true, Bool.not_false, ix_tup, ix_fz, at0, at1, at2, eDNew, eDGet, eDGet2, eDIn, eDPop, cDPut, cAugS, cSub2, dic_ref, keyOf, reduceCtorEq, and_self, Bool.and_self, decide_true, decide_false, List.append_assoc, List.length_append, Nat.add_assoc, at_new, at_newk, add_fz, add_rf, add_tt, ix_ref, seq_ref, list_ref, seq_tup, seq_fz, list_fz, ix_tup, ix_fz, neg_int, app_ref, set_newk, set_new0, iZ, iEn, sl_tup, sl_fz, eLcV, len_tup, len_ref, len_fz, tuple_fz, tuple_ref, ty_non, ty_bl, ty_int, ty_str, ty_tup, ty_fz, isT, eqD_int, at0, at1])
local macro_rules | `(tactic| walk_at "fh") => `(tactic| try simp [*, runB, cSeq, cNil, cRet, cRetN, cExpr, cIf, cSet, cAsg, cPar, cAug, cRaise, cStore, cPass, cWipe, wipeD, toS_ok, toS_exn, toS_stuck, Res.bd_ok, Res.bd_exn, Res.bd_stuck, Res.bdN_ok, Res.bdN_exn, Res.bdN_stuck,
  eVar, eC, eTup, eLst, eOp, eChain, eUn, eAnd, eOr, eNot, eIf, eRep, tTs, tAnd2, tOr2, tNot2, tTrue, eCall, eBi, eIsi, eMtL, eSl, oNo, oSo, lNil, lCons, iSeq, iRange1, iRange2, zAdd, zSub, zMul, zDiv, zMod, ofO, opInt, opIn, opNotIn, opEq, opNe, opIs, opIsnt, mk_t, mk_f,
  List.map_cons, List.map_nil, List.length_cons, List.length_nil, List.replicate, List.append_nil, List.nil_append, List.cons_append, List.getElem?_cons_zero, List.getElem?_cons_succ, List.getElem?_nil, List.set_cons_zero, List.set_cons_succ, List.set_nil, lm0, lm1, lm2, lm3, lm4, lm5, lm6, lm7, lm8, lm9, asg_nm, asg_tp, asgs_nil, asgs_cons, Option.bind_some, Option.bind_none, Option.map_some, Option.map_none,
  Nat.reduceSub, Nat.reduceAdd, Nat.zero_add, Nat.add_zero, Nat.sub_self, if_true, if_false, reduceIte, Bool.false_eq_true, Bool.true_eq_false, Bool.not_true, Bool.not_false, ix_tup, ix_fz, at0, at1, at2, eDNew, eDGet, eDGet2, eDIn, eDPop, cDPut, cAugS, cSub2, dic_ref, keyOf, reduceCtorEq, and_self, Bool.and_self, decide_true, decide_false, List.append_assoc, List.length_append, Nat.add_assoc, at_new, at_newk, add_fz, add_rf, add_tt, ix_ref, seq_ref, list_ref, seq_tup, seq_fz, list_fz, ix_tup, ix_fz, neg_int, app_ref, set_newk, set_new0, iZ, iEn, sl_tup, sl_fz, eLcV, len_tup, len_ref, len_fz, tuple_fz, tuple_ref, ty_non, ty_bl, ty_int, ty_str, ty_tup, ty_fz, isT, eqD_int, at0, at1])
inductive Rch (t : List Sta) : Nat → Prop
  | zero : Rch t 0
  | step (i j : Nat) : Rch t i → j ∈ succs t i → Rch t j
end Fc
set_option exponentiation.threshold 256
set_option maxHeartbeats 4000000
set_option maxHeartbeats 4000000
namespace Fc
open PySem L2
structure Chz where
  sides : Int
  many : Int
  rows : List Sta
  ans : List (List Rat)
structure Frz where
  sides : Int
  rows : List Sta
  ans : List (List Rat)
structure Hnd where
  course : Frz
  line : List Int
  path : List Int
end Fc
set_option exponentiation.threshold 256
set_option maxHeartbeats 4000000
set_option maxHeartbeats 4000000
namespace Fc
open PySem L2
end Fc
set_option exponentiation.threshold 256
set_option maxHeartbeats 4000000
set_option maxHeartbeats 4000000
namespace Fc
open PySem L2
abbrev zs (l : List Nat) : List Int := l.map fun j : Nat => (j : Int)
def grows (t : List Sta) (R : List Nat) (i : Nat) : Bool := !decide (i ∈ R) && (succs t i).any fun j => decide (j ∈ R)
structure Tbl (s : Int) (m : Nat) (t : List Sta) : Prop where
  form : Form s m t
  ne : t ≠ []
  len : t.length ≤ 200
  rch : ∀ j, j < t.length → Rch t j
  rank : ∃ rk, Ranked t rk
end Fc
set_option exponentiation.threshold 256
set_option maxHeartbeats 4000000
set_option maxHeartbeats 4000000
set_option exponentiation.threshold 3000
namespace Fc
open PySem L2
end Fc
set_option exponentiation.threshold 256
set_option maxHeartbeats 4000000
set_option maxHeartbeats 4000000
namespace Fc
open PySem L2
def sm : Nat → (Nat → Nat) → Nat
  | 0, _ => 0
  | n + 1, f => sm n f + f n
end Fc
set_option exponentiation.threshold 256
set_option maxHeartbeats 4000000
set_option maxHeartbeats 4000000
namespace Fc
open PySem L2
def ansX (s : Int) (m : Nat) (t : List Sta) : List (List Rat) := (List.range t.length).map fun a => (List.range (m + 1)).map fun k => xs_ s m t a k
section
variable {fx : Fx} {Γ : Cxt} {f1 f2 f3 : DE}
end
end Fc
set_option exponentiation.threshold 256
set_option maxHeartbeats 4000000
set_option maxHeartbeats 4000000
namespace Fc
open PySem L2
section
variable {fx : Fx} {Γ : Cxt} {f : DE}
end
section
variable {fx : Fx} {Γ : Cxt} {f : DE}
end
end Fc
set_option exponentiation.threshold 256
set_option maxHeartbeats 4000000
set_option maxHeartbeats 4000000
namespace Fc
open PySem L2
def nextS (t : List Sta) (j k : Nat) : Nat := match t[j]? with
  | some (.go l) => l.getD k 0
  | _ => 0
def tailP (t : List Sta) : Nat → List Nat → List Int
  | _, [] => []
  | j, k :: w => (nextS t j k : Int) :: tailP t (nextS t j k) w
def inw (w : List Nat) : List Int := w.map fun k : Nat => (k : Int)
def hd (s : Int) (m : Nat) (t : List Sta) (w : List Nat) : Hnd := ⟨⟨s, t, ansX s m t⟩, inw w, 0 :: tailP t 0 w⟩
section
variable {s : Int} {m : Nat} {t : List Sta} {w : List Nat}
end
end Fc
set_option exponentiation.threshold 256
set_option maxHeartbeats 4000000
set_option maxHeartbeats 4000000
set_option exponentiation.threshold 1000
namespace Fc
open PySem L2
section
variable {s : Int} {m : Nat} {t : List Sta}
end
end Fc
set_option exponentiation.threshold 256
set_option maxHeartbeats 4000000
set_option maxHeartbeats 4000000
set_option exponentiation.threshold 3000
namespace Fc
open PySem L2
section
variable {s : Int} {m : Nat} {t : List Sta}
end
end Fc
set_option exponentiation.threshold 256
set_option maxHeartbeats 4000000
set_option maxHeartbeats 4000000
namespace Fc
open PySem L2
end Fc
set_option exponentiation.threshold 256
set_option maxHeartbeats 4000000
set_option maxHeartbeats 4000000
namespace Fc
open PySem L2
noncomputable def b_law_cell_at : DS :=
 (cSeq (cIf (tTs (eOp opLt (eVar 1) (eBi fLen (lCons (eVar 0) lNil))))
 (cSeq (cRet (eOp opIx (eVar 0) (eVar 1)))
 cNil)
 cNil)
 (cSeq (cRet (eC (.int 0)))
 cNil))
noncomputable def r_law_cell_at : Den := runF 2 b_law_cell_at
noncomputable def m_law_cell_at (script : (List Int)) (k : Int) : M Int := if (decide (k < ((script.length : Nat) : Int))) then ((ixM script k)) else (.ok (0 : Int))
theorem w_law_cell_at (script : (List Int)) (k : Int) : Wp ⟨2, []⟩ (numd 0 [.val ((encL Dv.int) script), .val (Dv.int k)]) b_law_cell_at (m_law_cell_at script k) (PF Dv.int) := by
 unfold b_law_cell_at m_law_cell_at
 exact (w_ifT (xt_of (xe_op (xe_var Dv.int k) (xe_bi1 b_len (XE.sqL (XE.seen (xe_var (encL Dv.int) script)))) o_lt)) (wp_sq (w_retF (xe_op (XE.sqL (XE.seen (xe_var (encL Dv.int) script))) (xe_var Dv.int k) o_ix))) (wp_nil (w_retTF (xe_c Dv.int (0 : Int)))))
theorem m_law_cell_at_ok (script : (List Int)) (k : Int) (S : Sto) (z0 z1 : Dv) (h0 : vl (encL Dv.int) script S z0) (h1 : vl Dv.int k S z1) : Sim (r_law_cell_at [z0, z1] S) S (m_law_cell_at script k) (vl Dv.int) := by
 cases h0; cases h1
 exact fn_ok (.val _ (.val _ .nil)) pl_int (w_law_cell_at script k)
noncomputable def b_law_draw : DS :=
 (cSeq (cIf (tTs (eOp opGt (eOp opIx (eVar 0) (eC (.int 0))) (eC (.int 0))))
 (cSeq (cSet 2 (eOp opMod (eOp opIx (eVar 0) (eC (.int 0))) (eVar 1)))
 (cSeq (cStore (eOp opDiv (eOp opIx (eVar 0) (eC (.int 0))) (eVar 1)) (eVar 0) (eC (.int 0)))
 (cSeq (cRet (eVar 2))
 cNil)))
 cNil)
 (cSeq (cStore (eOp (opAdd false) (eOp opIx (eVar 0) (eC (.int 2))) (eC (.int 1))) (eVar 0) (eC (.int 2)))
 (cSeq (cStore (eOp opMod (eOp (opAdd false) (eOp (opAdd false) (eOp (opMul false) (eOp opIx (eVar 0) (eC (.int 1))) (eC (.int 48271))) (eOp (opMul false) (eC (.int 1009)) (eOp opIx (eVar 0) (eC (.int 2))))) (eC (.int 7))) (eC (.int 2147483647))) (eVar 0) (eC (.int 1)))
 (cSeq (cSet 3 (eOp opMod (eOp (opAdd false) (eOp (opAdd false) (eOp (opMul false) (eOp opIx (eVar 0) (eC (.int 1))) (eOp opIx (eVar 0) (eC (.int 1)))) (eOp (opMul false) (eC (.int 69621)) (eOp opIx (eVar 0) (eC (.int 1))))) (eC (.int 11))) (eC (.int 2147483629))))
 (cSeq (cSet 3 (eOp opMod (eOp (opAdd false) (eOp (opMul false) (eVar 3) (eVar 3)) (eOp (opMul false) (eC (.int 40014)) (eVar 3))) (eC (.int 2147483587))))
 (cSeq (cRet (eOp opMod (eOp opDiv (eVar 3) (eC (.int 16))) (eVar 1)))
 cNil))))))
noncomputable def r_law_draw : Den := runF 4 b_law_draw
noncomputable def b_law_fraction_L1 : DS :=
 (cSeq (cPar 2 3 (lCons (eVar 3) (lCons (eOp opMod (eVar 2) (eVar 3)) lNil)))
 cNil)
noncomputable def b_law_fraction : DS :=
 (cSeq (cPar 2 3 (lCons (eBi fAbs (lCons (eVar 0) lNil)) (lCons (eVar 1) lNil)))
 (cSeq (cWhile (tTs (eOp opGt (eVar 3) (eC (.int 0)))) b_law_fraction_L1)
 (cSeq (cRet (eTup (lCons (eOp opDiv (eVar 0) (eVar 2)) (lCons (eOp opDiv (eVar 1) (eVar 2)) lNil))))
 cNil)))
noncomputable def r_law_fraction : Den := runF 4 b_law_fraction
def v_law_fraction_L1 (top : Int) (bottom : Int)  : (Int × Int) → Cxt := fun s => [(0, .val (Dv.int top)), (1, .val (Dv.int bottom)), (2, .val (Dv.int s.1)), (3, .val (Dv.int s.2))]
noncomputable def m_law_fraction_L1 (top : Int) (bottom : Int) (s : Int × Int) : M (Int × Int) := ((M.ok s.2)).bd fun one => ((modM s.1 s.2)).bd fun other => .ok (one, other)
noncomputable def t_law_fraction_L1 (top : Int) (bottom : Int) (s : Int × Int) : M Bool := (.ok (decide ((0 : Int) < s.2)))
theorem w_law_fraction_L1 (top : Int) (bottom : Int)  (s : Int × Int) : Wp ⟨4, []⟩ ((v_law_fraction_L1 top bottom) s) b_law_fraction_L1 (m_law_fraction_L1 top bottom s) (PS ⟨4, []⟩ (v_law_fraction_L1 top bottom)) := by
 unfold b_law_fraction_L1 m_law_fraction_L1
 exact (w_par 2 3 (xe_var Dv.int s.2) (xe_op (xe_var Dv.int s.1) (xe_var Dv.int s.2) o_mod) (fun one other => (wp_nxS (one, other) ⟨rfl, rfl, rfl, rfl, trivial⟩)))
noncomputable def m_law_fraction (top : Int) (bottom : Int) : M Rat := lt (((top.natAbs : Nat) : Int), bottom) fun p1 => (whS (t_law_fraction_L1 top bottom) (m_law_fraction_L1 top bottom) big (p1.1, p1.2)).bd fun s2 => (((divM top s2.1)).bd fun x3 => ((divM bottom s2.1)).bd fun x4 => .ok (x3, x4)).bd fun x5 => mkFr x5
theorem w_law_fraction (top : Int) (bottom : Int) : Wp ⟨4, []⟩ (numd 0 [.val (Dv.int top), .val (Dv.int bottom)]) b_law_fraction (m_law_fraction top bottom) (PF fr) := by
 unfold b_law_fraction m_law_fraction
 exact (w_parT2 2 3 (xe_bi1 b_abs (xe_var Dv.int top)) (xe_var Dv.int bottom) (fun one other => (w_whS (v_law_fraction_L1 top bottom) ⟨rfl, rfl, rfl, rfl, trivial⟩ (fun s => (xt_of (xe_op (xe_var Dv.int s.2) (xe_c Dv.int (0 : Int)) o_gt))) (w_law_fraction_L1 top bottom) (fun s6 => (w_retF (xe_mkFr (xe_tup2 (xe_op (xe_var Dv.int top) (xe_var Dv.int s6.1) o_div) (xe_op (xe_var Dv.int bottom) (xe_var Dv.int s6.1) o_div))))))))
theorem m_law_fraction_ok (top : Int) (bottom : Int) (S : Sto) (z0 z1 : Dv) (h0 : vl Dv.int top S z0) (h1 : vl Dv.int bottom S z1) : Sim (r_law_fraction [z0, z1] S) S (m_law_fraction top bottom) (vl fr) := by
 cases h0; cases h1
 exact fn_ok (.val _ (.val _ .nil)) pl_fr (w_law_fraction top bottom)
noncomputable def b_law_add : DS :=
 (cSeq (cRet (eCall 2 r_law_fraction (lCons (eOp (opAdd false) (eOp (opMul false) (eOp opIx (eVar 0) (eC (.int 0))) (eOp opIx (eVar 1) (eC (.int 1)))) (eOp (opMul false) (eOp opIx (eVar 1) (eC (.int 0))) (eOp opIx (eVar 0) (eC (.int 1))))) (lCons (eOp (opMul false) (eOp opIx (eVar 0) (eC (.int 1))) (eOp opIx (eVar 1) (eC (.int 1)))) lNil))))
 cNil)
noncomputable def r_law_add : Den := runF 2 b_law_add
noncomputable def m_law_add (one : Rat) (other : Rat) : M Rat := ((((mulM one.num (other.den : Int))).bd fun x1 => ((mulM other.num (one.den : Int))).bd fun x2 => .ok (x1 + x2)).bd fun x3 => ((mulM (one.den : Int) (other.den : Int))).bd fun x4 => m_law_fraction x3 x4)
theorem w_law_add (one : Rat) (other : Rat) : Wp ⟨2, []⟩ (numd 0 [.val (fr one), .val (fr other)]) b_law_add (m_law_add one other) (PF fr) := by
 unfold b_law_add m_law_add
 exact (w_retF (xe_call2 (xe_op (xe_op (xe_fr0 (xe_var fr one)) (xe_fr1 (xe_var fr other)) o_mul) (xe_op (xe_fr0 (xe_var fr other)) (xe_fr1 (xe_var fr one)) o_mul) o_add) (xe_op (xe_fr1 (xe_var fr one)) (xe_fr1 (xe_var fr other)) o_mul) m_law_fraction_ok))
theorem m_law_add_ok (one : Rat) (other : Rat) (S : Sto) (z0 z1 : Dv) (h0 : vl fr one S z0) (h1 : vl fr other S z1) : Sim (r_law_add [z0, z1] S) S (m_law_add one other) (vl fr) := by
 cases h0; cases h1
 exact fn_ok (.val _ (.val _ .nil)) pl_fr (w_law_add one other)
noncomputable def b_law_sum_L1 : DS :=
 (cSeq (cSet 1 (eCall 2 r_law_add (lCons (eVar 1) (lCons (eVar 2) lNil))))
 (cWipe [2]))
noncomputable def b_law_sum : DS :=
 (cSeq (cSet 1 (eTup (lCons (eC (.int 0)) (lCons (eC (.int 1)) lNil))))
 (cSeq (cFor (iSeq (eVar 0)) (.nm 2) b_law_sum_L1)
 (cSeq (cRet (eVar 1))
 cNil)))
noncomputable def r_law_sum : Den := runF 3 b_law_sum
def v_law_sum_L1   : ((Int × Int)) → Cxt := fun s => [(1, .val ((encP Dv.int Dv.int) s))]
noncomputable def m_law_sum_L1  (s : (Int × Int)) (x : Rat) : M ((Int × Int)) := ((((mkFr s).bd fun x1 => m_law_add x1 x)).bd fun x2 => .ok (x2.num, (x2.den : Int))).bd fun found => .ok found
theorem w_law_sum_L1   (s : (Int × Int)) (x : Rat) : Wp ⟨3, []⟩ ((2, .val (fr x)) :: del 2 ((v_law_sum_L1 ) s)) b_law_sum_L1 (m_law_sum_L1  s x) (PS ⟨3, []⟩ (v_law_sum_L1 )) := by
 unfold b_law_sum_L1 m_law_sum_L1
 exact (w_set 1 (xe_frP (xe_call2 (xe_mkFr (xe_var (encP Dv.int Dv.int) s)) (xe_var fr x) m_law_add_ok)) (fun found => (wp_wnxS found ⟨rfl, trivial⟩)))
noncomputable def m_law_sum (some_ : (List Rat)) : M Rat := lt ((0 : Int), (1 : Int)) fun found => gl some_ ((forS (m_law_sum_L1 ) some_ found).bd fun s3 => mkFr s3)
theorem w_law_sum (some_ : (List Rat)) : Wp ⟨3, []⟩ (numd 0 [.val ((encT fr) some_)]) b_law_sum (m_law_sum some_) (PF fr) := by
 unfold b_law_sum m_law_sum
 exact (w_setT 1 (xe_tup2 (xe_c Dv.int (0 : Int)) (xe_c Dv.int (1 : Int))) (fun found => (w_forST (ns := []) (v_law_sum_L1 ) (xi_seq (xq_T (xe_var (encT fr) some_))) ⟨rfl, trivial⟩ (fun s => trivial) (fun s => bnd_nm) (w_law_sum_L1 ) (fun s3 => (w_retF (xe_mkFr (xe_var (encP Dv.int Dv.int) s3)))))))
theorem m_law_sum_ok (some_ : (List Rat)) (S : Sto) (z0 : Dv) (h0 : vl (encT fr) some_ S z0) : Sim (r_law_sum [z0] S) S (m_law_sum some_) (vl fr) := by
 cases h0
 exact fn_ok (.val _ .nil) pl_fr (w_law_sum some_)
end Fc
set_option exponentiation.threshold 256
set_option maxHeartbeats 4000000
set_option maxHeartbeats 4000000
namespace Fc
open PySem L2
section
variable {s : Int} {m : Nat} {t : List Sta}
end
end Fc
set_option exponentiation.threshold 256
set_option maxHeartbeats 4000000
set_option maxHeartbeats 4000000
set_option exponentiation.threshold 10000
namespace Fc
open PySem L2
section
variable {s m : Nat} {t : List Sta}
end
end Fc
set_option exponentiation.threshold 256
set_option maxHeartbeats 4000000
set_option maxHeartbeats 4000000
set_option exponentiation.threshold 10000
namespace Fc
open PySem L2
section
variable {s m : Nat} {t : List Sta}
end
end Fc
set_option exponentiation.threshold 256
set_option maxHeartbeats 4000000
set_option maxHeartbeats 4000000
set_option exponentiation.threshold 100000
namespace Fc
open PySem L2
section
variable {s m : Nat} {t : List Sta}
end
end Fc
set_option exponentiation.threshold 256
set_option maxHeartbeats 4000000
set_option maxHeartbeats 4000000
set_option exponentiation.threshold 100000
namespace Fc
open PySem L2
theorem frac_loop (a b : Int) : ∀ (n x y fuel : Nat), y < 2 ^ n → 2 * n < fuel → whS (t_law_fraction_L1 a b) (m_law_fraction_L1 a b) fuel ((x : Int), (y : Int)) = .ok ((Nat.gcd x y : Nat), (0 : Int)) := by
  have stop : ∀ (x fuel : Nat), 0 < fuel → whS (t_law_fraction_L1 a b) (m_law_fraction_L1 a b) fuel ((x : Int), ((0 : Nat) : Int)) = .ok ((Nat.gcd x 0 : Nat), (0 : Int)) := by
    intro x fuel hf
    cases fuel with
    | zero => omega
    | succ f => simp [whS, t_law_fraction_L1]
  have go : ∀ (x y fuel : Nat), 0 < y → whS (t_law_fraction_L1 a b) (m_law_fraction_L1 a b) (fuel + 1) ((x : Int), (y : Int)) = whS (t_law_fraction_L1 a b) (m_law_fraction_L1 a b) fuel ((y : Int), ((x % y : Nat) : Int)) := by
    intro x y fuel hy
    have hy' : (0 : Int) < (y : Int) := by omega
    simp only [whS, t_law_fraction_L1, hy', decide_true, M.bd_ok, if_true, m_law_fraction_L1, modM_ok hy', lt_eq]
    rw [Int.natCast_emod]
  intro n
  induction n with
  | zero =>
    intro x y fuel hb hf
    have : y = 0 := by omega
    subst this
    exact stop x fuel (by omega)
  | succ n ih =>
    intro a b fuel hb hf
    by_cases h0 : b = 0
    · subst h0
      exact stop a fuel (by omega)
    · obtain ⟨f2, rfl⟩ : ∃ f2, fuel = f2 + 1 := ⟨fuel - 1, by omega⟩
      rw [go a b f2 (by omega)]
      by_cases h1 : a % b = 0
      · rw [h1, stop b f2 (by omega), Nat.gcd_comm a b, Nat.gcd_rec b a, h1]
        simp
      · obtain ⟨f3, rfl⟩ : ∃ f3, f2 = f3 + 1 := ⟨f2 - 1, by omega⟩
        rw [go b (a % b) f3 (by omega)]
        have hlt : a % b < b := Nat.mod_lt _ (by omega)
        have hm : b % (a % b) < a % b := Nat.mod_lt _ (by omega)
        have hm2 : b % (a % b) + a % b ≤ b := by
          have e := Nat.div_add_mod b (a % b)
          have hd : 0 < b / (a % b) := Nat.div_pos (Nat.le_of_lt hlt) (by omega)
          have : a % b ≤ (a % b) * (b / (a % b)) := Nat.le_mul_of_pos_right _ hd
          omega
        have hh : b % (a % b) < 2 ^ n := by
          rw [Nat.pow_succ] at hb
          omega
        rw [ih (a % b) (b % (a % b)) f3 hh (by omega)]
        have e1 : Nat.gcd a b = Nat.gcd (a % b) (b % (a % b)) := by
          rw [Nat.gcd_comm a b, Nat.gcd_rec b a, Nat.gcd_rec (a % b) b, Nat.gcd_comm]
        rw [e1]
theorem fraction_eq {a b : Int} (h0 : 0 < b) (h1 : b.natAbs < 2 ^ 8000) : m_law_fraction a b = .ok ((a : Rat) / (b : Rat)) := by
  have e := frac_loop a b 8000 a.natAbs b.natAbs big h1 (lt_big (by decide))
  rw [show ((b.natAbs : Nat) : Int) = b from by omega] at e
  have g : Nat.gcd a.natAbs b.natAbs = Int.gcd a b := rfl
  rw [g] at e
  obtain ⟨p1, p2⟩ := quot_parts (a := a) h0
  have dv := gcd_div_ok (a := a) h0 h1
  simp only [m_law_fraction, lt_eq, e, M.bd_ok, divM_ok dv, ← p1, ← p2, mkFr_q]
section
variable {s m : Nat} {t : List Sta}
end
theorem mul_bd {a b : Int} {i j : Nat} (h1 : a.natAbs < 2 ^ i) (h2 : b.natAbs < 2 ^ j) (h0 : 0 < i ∧ 0 < j) (hn : i + j ≤ 8000) : mulOk a b = true := by
  have e1 := log2_lt h1 h0.1
  have e2 := log2_lt h2 h0.2
  simp only [mulOk, decide_eq_true_eq]
  omega
theorem add_eq {p q : Rat} {i j : Nat} (hp : Bd i p) (hq : Bd j q) (h0 : 0 < i ∧ 0 < j) (hn : i + j ≤ 7000) : m_law_add p q = .ok (p + q) := by
  have p1 := p.den_pos
  have q1 := q.den_pos
  have d0 : (0 : Int) < (p.den : Int) * (q.den : Int) := Int.mul_pos (by omega) (by omega)
  have d1 : ((p.den : Int) * (q.den : Int)).natAbs < 2 ^ 8000 := Nat.lt_of_lt_of_le (hp.dd hq) (Nat.pow_le_pow_right (by decide) (by omega))
  have pd : ((p.den : Int)).natAbs < 2 ^ i := by rw [Int.natAbs_natCast]; exact hp.2
  have qd : ((q.den : Int)).natAbs < 2 ^ j := by rw [Int.natAbs_natCast]; exact hq.2
  simp only [m_law_add, mulM_ok (mul_bd hp.1 qd h0 (by omega)), mulM_ok (mul_bd hq.1 pd ⟨h0.2, h0.1⟩ (by omega)), mulM_ok (mul_bd pd qd h0 (by omega)), M.bd_ok, fraction_eq d0 d1]
  rw [← add_quot]
theorem sum_eq {qs : List Rat} (hl : qs.length ≤ 1000) (hs : ∀ pre post, qs = pre ++ post → Bd 3700 (sumR pre)) (hq : ∀ q ∈ qs, Bd 3000 q) : m_law_sum qs = .ok (sumR qs) := by
  have z : mkFr ((0 : Int), (1 : Int)) = .ok 0 := mkFr_q 0
  obtain ⟨x, h1, h2⟩ := forS_inv (b := m_law_sum_L1) (xs := qs) (s0 := ((0 : Int), (1 : Int))) (fun pre x => x = ((sumR pre).num, ((sumR pre).den : Int))) rfl fun pre y post x ex hx => by
    subst hx
    refine ⟨_, ?_, rfl⟩
    have b1 := hs pre (y :: post) ex
    have b2 := hq y (by rw [ex]; simp)
    simp only [m_law_sum_L1, mkFr_q, M.bd_ok, add_eq b1 b2 ⟨by decide, by decide⟩ (by decide)]
    rw [sumR_append, sumR_cons, sumR_nil]
    have : y + 0 = y := by grind
    rw [this]
  simp only [m_law_sum, lt_eq]
  rw [gl_100 hl, h1, M.bd_ok, h2, mkFr_q]
section
variable {s m : Nat} {t : List Sta}
end
end Fc
set_option exponentiation.threshold 256
set_option maxHeartbeats 4000000
set_option maxHeartbeats 4000000
namespace Fc
open PySem L2
local macro_rules | `(tactic| walk_at "fc") => `(tactic| try simp only [runB, cSeq, cNil, cRet, cRetN, cExpr, cIf, cSet, cAsg, cPar, cAug, cRaise, cStore, cPass, cWipe, wipeD, toS_ok, toS_exn, toS_stuck, Res.bd_ok, Res.bd_exn, Res.bd_stuck, Res.bdN_ok, Res.bdN_exn, Res.bdN_stuck,
  eVar, eC, eTup, eLst, eOp, eChain, eUn, eAnd, eOr, eNot, eIf, eRep, tTs, tAnd2, tOr2, tNot2, tTrue, eCall, eBi, eIsi, eMtL, eSl, oNo, oSo, lNil, lCons, iSeq, iRange1, iRange2, zAdd, zSub, zMul, zDiv, zMod, ofO, opInt, opIn, opNotIn, opEq, opNe, opIs, opIsnt, mk_t, mk_f,
  List.map_cons, List.map_nil, List.length_cons, List.length_nil, List.replicate, List.append_nil, List.nil_append, List.cons_append, List.getElem?_cons_zero, List.getElem?_cons_succ, List.getElem?_nil, List.set_cons_zero, List.set_cons_succ, List.set_nil, lm0, lm1, lm2, lm3, lm4, lm5, lm6, lm7, lm8, lm9, asg_nm, asg_tp, asgs_nil, asgs_cons, Option.bind_some, Option.bind_none, Option.map_some, Option.map_none,
  Nat.reduceSub, Nat.reduceAdd, Nat.zero_add, Nat.add_zero, Nat.sub_self, if_true, if_false, reduceIte, Bool.false_eq_true, Bool.true_eq_false, Bool.not_true, Bool.not_false, ix_tup, ix_fz, at0, at1, at2, eDNew, eDGet, eDGet2, eDIn, eDPop, cDPut, cAugS, cSub2, dic_ref, keyOf, reduceCtorEq])
local macro_rules | `(tactic| walk_at "fo") => `(tactic| try simp only [*, runB, cSeq, cNil, cRet, cRetN, cExpr, cIf, cSet, cAsg, cPar, cAug, cRaise, cStore, cPass, cWipe, wipeD, toS_ok, toS_exn, toS_stuck, Res.bd_ok, Res.bd_exn, Res.bd_stuck, Res.bdN_ok, Res.bdN_exn, Res.bdN_stuck,
  eVar, eC, eTup, eLst, eOp, eChain, eUn, eAnd, eOr, eNot, eIf, eRep, tTs, tAnd2, tOr2, tNot2, tTrue, eCall, eBi, eIsi, eMtL, eSl, oNo, oSo, lNil, lCons, iSeq, iRange1, iRange2, zAdd, zSub, zMul, zDiv, zMod, ofO, opInt, opIn, opNotIn, opEq, opNe, opIs, opIsnt, mk_t, mk_f,
  List.map_cons, List.map_nil, List.length_cons, List.length_nil, List.replicate, List.append_nil, List.nil_append, List.cons_append, List.getElem?_cons_zero, List.getElem?_cons_succ, List.getElem?_nil, List.set_cons_zero, List.set_cons_succ, List.set_nil, lm0, lm1, lm2, lm3, lm4, lm5, lm6, lm7, lm8, lm9, asg_nm, asg_tp, asgs_nil, asgs_cons, Option.bind_some, Option.bind_none, Option.map_some, Option.map_none,
  Nat.reduceSub, Nat.reduceAdd, Nat.zero_add, Nat.add_zero, Nat.sub_self, if_true, if_false, reduceIte, Bool.false_eq_true, Bool.true_eq_false, Bool.not_true, Bool.not_false, ix_tup, ix_fz, at0, at1, at2, eDNew, eDGet, eDGet2, eDIn, eDPop, cDPut, cAugS, cSub2, dic_ref, keyOf, reduceCtorEq, and_self, Bool.and_self, decide_true, decide_false, List.append_assoc, List.length_append, Nat.add_assoc, at_new, at_newk, add_fz, add_rf, add_tt, ix_ref, seq_ref, list_ref, seq_tup, seq_fz, list_fz, ix_tup, ix_fz, neg_int, app_ref, set_newk, set_new0, iZ, iEn, sl_tup, sl_fz, eLcV, len_tup, len_ref, len_fz, tuple_fz, tuple_ref, ty_non, ty_bl, ty_int, ty_str, ty_tup, ty_fz])
local macro_rules | `(tactic| walk_at "fg") => `(tactic| try simp only [*, runB, cSeq, cNil, cRet, cRetN, cExpr, cIf, cSet, cAsg, cPar, cAug, cRaise, cStore, cPass, cWipe, wipeD, toS_ok, toS_exn, toS_stuck, Res.bd_ok, Res.bd_exn, Res.bd_stuck, Res.bdN_ok, Res.bdN_exn, Res.bdN_stuck,
  eVar, eC, eTup, eLst, eOp, eChain, eUn, eAnd, eOr, eNot, eIf, eRep, tTs, tAnd2, tOr2, tNot2, tTrue, eCall, eBi, eIsi, eMtL, eSl, oNo, oSo, lNil, lCons, iSeq, iRange1, iRange2, zAdd, zSub, zMul, zDiv, zMod, ofO, opInt, opIn, opNotIn, opEq, opNe, opIs, opIsnt, mk_t, mk_f,
  List.map_cons, List.map_nil, List.length_cons, List.length_nil, List.replicate, List.append_nil, List.nil_append, List.cons_append, List.getElem?_cons_zero, List.getElem?_cons_succ, List.getElem?_nil, List.set_cons_zero, List.set_cons_succ, List.set_nil, lm0, lm1, lm2, lm3, lm4, lm5, lm6, lm7, lm8, lm9, asg_nm, asg_tp, asgs_nil, asgs_cons, Option.bind_some, Option.bind_none, Option.map_some, Option.map_none,
  Nat.reduceSub, Nat.reduceAdd, Nat.zero_add, Nat.add_zero, Nat.sub_self, if_true, if_false, reduceIte, Bool.false_eq_true, Bool.true_eq_false, Bool.not_true, Bool.not_false, ix_tup, ix_fz, at0, at1, at2, eDNew, eDGet, eDGet2, eDIn, eDPop, cDPut, cAugS, cSub2, dic_ref, keyOf, reduceCtorEq, and_self, Bool.and_self, decide_true, decide_false, List.append_assoc, List.length_append, Nat.add_assoc, at_new, at_newk, add_fz, add_rf, add_tt, ix_ref, seq_ref, list_ref, seq_tup, seq_fz, list_fz, ix_tup, ix_fz, neg_int, app_ref, set_newk, set_new0, iZ, iEn, sl_tup, sl_fz, eLcV, len_tup, len_ref, len_fz, tuple_fz, tuple_ref, ty_non, ty_bl, ty_int, ty_str, ty_tup, ty_fz])
local macro_rules | `(tactic| walk_at "fs") => `(tactic| try simp [runB, cSeq, cNil, cRet, cRetN, cExpr, cIf, cSet, cAsg, cPar, cAug, cRaise, cStore, cPass, cWipe, wipeD, toS_ok, toS_exn, toS_stuck, Res.bd_ok, Res.bd_exn, Res.bd_stuck, Res.bdN_ok, Res.bdN_exn, Res.bdN_stuck,
  eVar, eC, eTup, eLst, eOp, eChain, eUn, eAnd, eOr, eNot, eIf, eRep, tTs, tAnd2, tOr2, tNot2, tTrue, eCall, eBi, eIsi, eMtL, eSl, oNo, oSo, lNil, lCons, iSeq, iRange1, iRange2, zAdd, zSub, zMul, zDiv, zMod, ofO, opInt, opIn, opNotIn, opEq, opNe, opIs, opIsnt, mk_t, mk_f,
  List.map_cons, List.map_nil, List.length_cons, List.length_nil, List.replicate, List.append_nil, List.nil_append, List.cons_append, List.getElem?_cons_zero, List.getElem?_cons_succ, List.getElem?_nil, List.set_cons_zero, List.set_cons_succ, List.set_nil, lm0, lm1, lm2, lm3, lm4, lm5, lm6, lm7, lm8, lm9, asg_nm, asg_tp, asgs_nil, asgs_cons, Option.bind_some, Option.bind_none, Option.map_some, Option.map_none,
  Nat.reduceSub, Nat.reduceAdd, Nat.zero_add, Nat.add_zero, Nat.sub_self, if_true, if_false, reduceIte, Bool.false_eq_true, Bool.true_eq_false, Bool.not_true, Bool.not_false, ix_tup, ix_fz, at0, at1, at2, eDNew, eDGet, eDGet2, eDIn, eDPop, cDPut, cAugS, cSub2, dic_ref, keyOf, reduceCtorEq, and_self, Bool.and_self, decide_true, decide_false, List.append_assoc, List.length_append, Nat.add_assoc, at_new, at_newk, add_fz, add_rf, add_tt, ix_ref, seq_ref, list_ref, seq_tup, seq_fz, list_fz, ix_tup, ix_fz, neg_int, app_ref, set_newk, set_new0, iZ, iEn, sl_tup, sl_fz, eLcV, len_tup, len_ref, len_fz, tuple_fz, tuple_ref, ty_non, ty_bl, ty_int, ty_str, ty_tup, ty_fz, isT, eqD_int, at0, at1])
local macro_rules | `(tactic| walk_at "fh") => `(tactic| try simp [*, runB, cSeq, cNil, cRet, cRetN, cExpr, cIf, cSet, cAsg, cPar, cAug, cRaise, cStore, cPass, cWipe, wipeD, toS_ok, toS_exn, toS_stuck, Res.bd_ok, Res.bd_exn, Res.bd_stuck, Res.bdN_ok, Res.bdN_exn, Res.bdN_stuck,
  eVar, eC, eTup, eLst, eOp, eChain, eUn, eAnd, eOr, eNot, eIf, eRep, tTs, tAnd2, tOr2, tNot2, tTrue, eCall, eBi, eIsi, eMtL, eSl, oNo, oSo, lNil, lCons, iSeq, iRange1, iRange2, zAdd, zSub, zMul, zDiv, zMod, ofO, opInt, opIn, opNotIn, opEq, opNe, opIs, opIsnt, mk_t, mk_f,
  List.map_cons, List.map_nil, List.length_cons, List.length_nil, List.replicate, List.append_nil, List.nil_append, List.cons_append, List.getElem?_cons_zero, List.getElem?_cons_succ, List.getElem?_nil, List.set_cons_zero, List.set_cons_succ, List.set_nil, lm0, lm1, lm2, lm3, lm4, lm5, lm6, lm7, lm8, lm9, asg_nm, asg_tp, asgs_nil, asgs_cons, Option.bind_some, Option.bind_none, Option.map_some, Option.map_none,
  Nat.reduceSub, Nat.reduceAdd, Nat.zero_add, Nat.add_zero, Nat.sub_self, if_true, if_false, reduceIte, Bool.false_eq_true, Bool.true_eq_false, Bool.not_true, Bool.not_false, ix_tup, ix_fz, at0, at1, at2, eDNew, eDGet, eDGet2, eDIn, eDPop, cDPut, cAugS, cSub2, dic_ref, keyOf, reduceCtorEq, and_self, Bool.and_self, decide_true, decide_false, List.append_assoc, List.length_append, Nat.add_assoc, at_new, at_newk, add_fz, add_rf, add_tt, ix_ref, seq_ref, list_ref, seq_tup, seq_fz, list_fz, ix_tup, ix_fz, neg_int, app_ref, set_newk, set_new0, iZ, iEn, sl_tup, sl_fz, eLcV, len_tup, len_ref, len_fz, tuple_fz, tuple_ref, ty_non, ty_bl, ty_int, ty_str, ty_tup, ty_fz, isT, eqD_int, at0, at1])
structure Pen where
  a : Int
  b : Int
  c : Int
def Pen.ob (p : Pen) : Ob := .lst [.int p.a, .int p.b, .int p.c]
def pen0 (c : Int) : Pen := ⟨max 0 (c - 10 ^ 18), c % 2147483629 + 1, 0⟩
noncomputable def b_law_pen : DS :=
 (cSeq (cRet (eLst true (lCons (eBi fMax2 (lCons (eC (.int 0)) (lCons (eOp opSub (eVar 0) (eOp opPow (eC (.int 10)) (eC (.int 18)))) lNil))) (lCons (eOp (opAdd false) (eOp opMod (eVar 0) (eC (.int 2147483629))) (eC (.int 1))) (lCons (eC (.int 0)) lNil)))))
 cNil)
noncomputable def r_law_pen : Den := runB 1 b_law_pen
theorem law_pen_run (c : Int) (S : Sto) : r_law_pen [.int c] S = .ok (.ref S.length) (S ++ [(pen0 c).ob]) := by
  unfold r_law_pen b_law_pen
  walk_at "fc"
  simp only [opPow, opSub, opMod, opAdd, fMax2]
  try simp [lim_eq, pen0, Pen.ob]
  omega
def mix1 (b : Int) : Int := (b * b + 69621 * b + 11) % 2147483629
def mix2 (x : Int) : Int := (x * x + 40014 * x) % 2147483587
def nxt (p : Pen) : Pen := ⟨p.a, (p.b * 48271 + 1009 * (p.c + 1) + 7) % 2147483647, p.c + 1⟩
def draw (p : Pen) (m : Int) : Int × Pen := if 0 < p.a then (p.a % m, ⟨p.a / m, p.b, p.c⟩) else (mix2 (mix1 (nxt p).b) / 16 % m, nxt p)
def penB (p : Pen) (N : Nat) : Prop := 0 ≤ p.b ∧ p.b < 2 ^ 31 ∧ 0 ≤ p.c ∧ p.c ≤ N
theorem penB.mono {p : Pen} {N M : Nat} (h : penB p N) (hm : N ≤ M) : penB p M := ⟨h.1, h.2.1, h.2.2.1, by have := h.2.2.2; omega⟩
theorem penB0 (c : Int) : penB (pen0 c) 0 := ⟨by simp [pen0]; omega, by simp [pen0]; omega, by simp [pen0], by simp [pen0]⟩
theorem penB.draw {p : Pen} {N : Nat} (h : penB p N) (m : Int) : penB (draw p m).2 (N + 1) := by
  unfold Fc.draw
  split
  · exact ⟨h.1, h.2.1, h.2.2.1, by have := h.2.2.2; simp only; omega⟩
  · exact ⟨by simp only [nxt]; omega, by simp only [nxt]; omega, by have := h.2.2.1; simp only [nxt]; omega, by have := h.2.2.2; simp only [nxt]; omega⟩
theorem draw_lt (p : Pen) {m : Int} (hm : 0 < m) : 0 ≤ (draw p m).1 ∧ (draw p m).1 < m := by
  unfold draw
  split
  · exact ⟨Int.emod_nonneg _ (by omega), Int.emod_lt_of_pos _ hm⟩
  · exact ⟨Int.emod_nonneg _ (by omega), Int.emod_lt_of_pos _ hm⟩
theorem small_mul {i j : Int} (h1 : 0 ≤ i) (h2 : i < 2 ^ 40) (h3 : 0 ≤ j) (h4 : j < 2 ^ 40) : mulOk i j = true := mulOk_of (a := 40) (b := 40) (by omega) (by omega) (by decide) (by decide) (by decide)
theorem f_upd {n : Nat} {b : DS} {args : List Dv} {ρ0 : Ev} {d : Dv} {S S2 : Sto} (he : args.map some ++ List.replicate (n - args.length) none = ρ0) (h : b ρ0 S = .ok (.rt d) S2) (hk : Kept S S2) (hp : d.plain = true) : runF n b args S = .ok d S2 := by
  unfold runF
  rw [run_rt he h]
  have := tidy_upd hp hk []
  rwa [List.append_nil] at this
theorem law_draw_run {S : Sto} {n : Nat} {p : Pen} {N : Nat} {m : Int} (es : S[n]? = some p.ob) (hp : penB p N) (hN : N ≤ 2 ^ 200) (h0 : 0 < m) (h8 : m < 2 ^ 62) : r_law_draw [.ref n, .int m] S = .ok (.int (draw p m).1) (S.set n (draw p m).2.ob) := by
  refine f_upd (ρ0 := [some (.ref n), some (.int m), none, none]) rfl ?_ (Kept.set (Kept.refl S) n rfl) rfl
  have hn : n < S.length := (List.getElem?_eq_some_iff.mp es).1
  obtain ⟨hb0, hb1, hc0, hc1⟩ := hp
  have hdm : divOk m = true := divOk_of (a := 62) h0 (by omega) (by decide) (by decide)
  have m1 : mulOk p.b 48271 = true := small_mul hb0 (by omega) (by decide) (by decide)
  have m2 : mulOk 1009 (p.c + 1) = true := mulOk_of (a := 40) (b := 201) (by decide) (by
    rw [Nat.pow_succ]
    have x2 : 2 ≤ (2 : Nat) ^ 200 := by decide
    generalize (2 : Nat) ^ 200 = x at *
    omega) (by decide) (by decide) (by decide)
  obtain ⟨a, b, c⟩ := p
  simp only [Pen.ob] at es
  simp only at hb0 hb1 hc0 hc1 m1 m2
  have hl3 : ∀ x y z : Dv, ixN [x, y, z].length 0 = some 0 ∧ ixN [x, y, z].length 1 = some 1 ∧ ixN [x, y, z].length 2 = some 2 := fun _ _ _ => ⟨rfl, rfl, rfl⟩
  unfold b_law_draw
  have j0 : opIx (.ref n) (.int 0) S = some (.int a, S) := zIxL es (at0 _ _)
  walk_at "fc"
  simp only [j0]
  walk_at "fc"
  by_cases ha : 0 < a
  · simp only [decide_eq_true ha]
    walk_at "fc"
    simp only [j0]
    walk_at "fc"
    simp only [zMod h0]
    walk_at "fc"
    simp only [j0]
    walk_at "fc"
    simp only [zDiv hdm]
    walk_at "fc"
    simp only [es, hl3]
    walk_at "fc"
    simp [draw, ha, Pen.ob]
  · simp only [decide_eq_false ha]
    walk_at "fc"
    have g : ∀ o : Ob, (S.set n o)[n]? = some o := fun o => List.getElem?_set_self hn
    have i0 : opIx (.ref n) (.int 2) S = some (.int c, S) := zIxL es (at2 _ _ _ _)
    have i1 : ∀ x y z : Dv, opIx (.ref n) (.int 1) (S.set n (.lst [x, y, z])) = some (y, S.set n (.lst [x, y, z])) := fun x y z => zIxL (g _) (at1 _ _ _)
    have i2 : ∀ x y z : Dv, opIx (.ref n) (.int 2) (S.set n (.lst [x, y, z])) = some (z, S.set n (.lst [x, y, z])) := fun x y z => zIxL (g _) (at2 _ _ _ _)
    have z1 : (0 : Int) < 2147483647 := by decide
    have z2 : (0 : Int) < 2147483629 := by decide
    have z3 : (0 : Int) < 2147483587 := by decide
    have d16 : divOk 16 = true := by decide
    clear h8 hb0 hb1 hc0 hc1 hN
    iterate 9
      try simp only [i0, i1, i2, es, hl3, g, zMul m1, zMul m2, zMod z1]
      walk_at "fc"
    generalize hbb : (b * 48271 + 1009 * (c + 1) + 7) % 2147483647 = bb
    have b0 : 0 ≤ bb := by omega
    have b1 : bb < 2147483647 := by omega
    have mm1 : mulOk bb bb = true := small_mul b0 (by omega) b0 (by omega)
    have mm2 : mulOk 69621 bb = true := small_mul (by decide) (by decide) b0 (by omega)
    iterate 9
      try simp only [List.set_set, g, hl3, i1, zMul mm1, zMul mm2, zMod z2]
      walk_at "fc"
    generalize hxx : (bb * bb + 69621 * bb + 11) % 2147483629 = xx
    have x0 : 0 ≤ xx := by omega
    have x1 : xx < 2147483629 := by omega
    have mx1 : mulOk xx xx = true := small_mul x0 (by omega) x0 (by omega)
    have mx2 : mulOk 40014 xx = true := small_mul (by decide) (by decide) x0 (by omega)
    iterate 9
      try simp only [zMul mx1, zMul mx2, zMod z3, zDiv d16, zMod h0]
      walk_at "fc"
    simp [draw, ha, Pen.ob, nxt, mix1, mix2, hbb, hxx]
noncomputable def b_law_pick : DS :=
 (cSeq (cRet (eOp opIx (eVar 1) (eCall 2 r_law_draw (lCons (eVar 0) (lCons (eBi fLen (lCons (eVar 1) lNil)) lNil)))))
 cNil)
noncomputable def r_law_pick : Den := runF 2 b_law_pick
inductive Rwk where
  | f (o : Int) | g (q : Nat) (cs : List (Option Nat))
def Rwk.dv : Rwk → Dv
  | .f o => .int o
  | .g q _ => .ref q
def cel : Option Nat → Dv
  | none => .non
  | some j => .int (j : Int)
structure Lay (S : Sto) (nr s : Nat) (rows : List Rwk) : Prop where
  at_ : S[nr]? = some (.lst (rows.map Rwk.dv))
  row : ∀ q cs, .g q cs ∈ rows → S[q]? = some (.lst (cs.map cel)) ∧ cs.length = s
def frees (s : Nat) (cs : List (Option Nat)) : List Nat := (List.range s).filter fun y => decide (cs[y]? = some none)
def freeAt (rows : List Rwk) (s i : Nat) : List Dv := match rows[i]? with
  | some (.g _ cs) => (frees s cs).map fun y : Nat => .tup [.int (i : Int), .int (y : Int)]
  | _ => []
theorem Lay.app {S : Sto} {nr s : Nat} {rows : List Rwk} (h : Lay S nr s rows) (G : Sto) : Lay (S ++ G) nr s rows := by
  have hn := (List.getElem?_eq_some_iff.mp h.at_).1
  refine ⟨by rw [List.getElem?_append_left hn, h.at_], fun q cs hq => ?_⟩
  have := h.row q cs hq
  have hq := (List.getElem?_eq_some_iff.mp this.1).1
  exact ⟨by rw [List.getElem?_append_left hq, this.1], this.2⟩
def free (rows : List Rwk) (s i : Nat) : List Dv := (List.range i).flatMap (freeAt rows s)
end Fc
set_option exponentiation.threshold 256
set_option maxHeartbeats 4000000
set_option maxHeartbeats 4000000
namespace Fc
open PySem L2
structure Lay2 (S : Sto) (n nr s : Nat) (rows : List Rwk) : Prop extends Lay S nr s rows where
  nd : ∀ (i i' q : Nat) (cs cs' : List (Option Nat)), rows[i]? = some (.g q cs) → rows[i']? = some (.g q cs') → i = i'
  ne : ∀ (q : Nat) (cs : List (Option Nat)), Rwk.g q cs ∈ rows → q ≠ nr ∧ q ≠ n
  nn : nr ≠ n
theorem Lay2.pen {S : Sto} {n nr s : Nat} {rows : List Rwk} (h : Lay2 S n nr s rows) (o : Ob) : Lay2 (S.set n o) n nr s rows :=
  ⟨⟨by rw [List.getElem?_set_ne h.nn.symm, h.at_], fun q cs hq => ⟨by rw [List.getElem?_set_ne (h.ne q cs hq).2.symm, (h.row q cs hq).1], (h.row q cs hq).2⟩⟩, h.nd, h.ne, h.nn⟩
theorem mem_set' {α : Type} {xs : List α} {i : Nat} {v x : α} (h : x ∈ xs.set i v) : x = v ∨ ∃ k, k ≠ i ∧ xs[k]? = some x := by
  obtain ⟨k, hk⟩ := List.getElem?_of_mem h
  by_cases e : k = i
  · subst e
    rw [List.getElem?_set] at hk
    simp at hk
    exact .inl hk.2.symm
  · rw [List.getElem?_set_ne (fun z => e z.symm)] at hk
    exact .inr ⟨k, e, hk⟩
theorem Lay2.put {S : Sto} {n nr s i q y : Nat} {rows : List Rwk} {cs : List (Option Nat)} (h : Lay2 S n nr s rows) (e : rows[i]? = some (.g q cs)) (j : Nat) :
    Lay2 (S.set q (.lst ((cs.set y (some j)).map cel))) n nr s (rows.set i (.g q (cs.set y (some j)))) := by
  have hm := List.mem_of_getElem? e
  have hi := (List.getElem?_eq_some_iff.mp e).1
  have rq := h.row q cs hm
  have lq := (List.getElem?_eq_some_iff.mp rq.1).1
  have ne := h.ne q cs hm
  have dv : (rows.set i (.g q (cs.set y (some j)))).map Rwk.dv = rows.map Rwk.dv := by
    rw [List.map_set]
    refine List.ext_getElem? fun k => ?_
    by_cases ek : i = k
    · subst ek
      rw [List.getElem?_set_self (by simpa using hi), List.getElem?_map, e]
      rfl
    · rw [List.getElem?_set_ne ek]
  have old : ∀ (k q' : Nat) (cs' : List (Option Nat)), (rows.set i (.g q (cs.set y (some j))))[k]? = some (Rwk.g q' cs') → ∃ cs2, rows[k]? = some (Rwk.g q' cs2) := fun k q' cs' hk => by
    by_cases ek : i = k
    · subst ek
      rw [List.getElem?_set_self hi] at hk
      cases hk
      exact ⟨cs, e⟩
    · rw [List.getElem?_set_ne ek] at hk
      exact ⟨cs', hk⟩
  refine ⟨⟨by rw [List.getElem?_set_ne ne.1, h.at_, dv], fun q' cs' hq => ?_⟩, fun a b q' c c' ha hb => ?_, fun q' cs' hq => ?_, h.nn⟩
  · rcases mem_set' hq with hq | ⟨k, hk, hq⟩
    · cases hq
      exact ⟨List.getElem?_set_self lq, by simpa using rq.2⟩
    · have : q ≠ q' := fun z => by
        subst z
        exact hk (h.nd k i q cs' cs hq e)
      have r := h.row q' cs' (List.mem_of_getElem? hq)
      exact ⟨by rw [List.getElem?_set_ne this, r.1], r.2⟩
  · obtain ⟨c1, h1⟩ := old a q' c ha
    obtain ⟨c2, h2⟩ := old b q' c' hb
    exact h.nd a b q' c1 c2 h1 h2
  · obtain ⟨k, hk⟩ := List.getElem?_of_mem hq
    obtain ⟨c1, h1⟩ := old k q' cs' hk
    exact h.ne q' c1 (List.mem_of_getElem? h1)
end Fc
set_option exponentiation.threshold 256
set_option maxHeartbeats 4000000
set_option maxHeartbeats 4000000
namespace Fc
open PySem L2
structure Grow (s m n place : Nat) (rows : List Rwk) : Prop where
  len : rows.length = n
  fin : ∀ o, Rwk.f o ∈ rows → ∃ k : Nat, o = (k : Int) ∧ k < m
  tail : ∀ i, place ≤ i → i < n → ∃ o, rows[i]? = some (Rwk.f o)
  row : ∀ (q : Nat) (cs : List (Option Nat)), Rwk.g q cs ∈ rows → cs.length = s ∧ ∀ j, some j ∈ cs → j < n
  hung : ∀ j, 1 ≤ j → j < place → ∃ (i q : Nat) (cs : List (Option Nat)), i < j ∧ rows[i]? = some (.g q cs) ∧ some j ∈ cs
theorem other {xs : List Dv} (nd : xs.Nodup) {d : Dv} (hd : d ∈ xs) (hl : xs.length ≠ 1) : ∃ e ∈ xs, e ≠ d := by
  apply Classical.byContradiction
  intro h
  have all : ∀ e ∈ xs, e = d := fun e he => Classical.byContradiction fun z => h ⟨e, he, z⟩
  match xs, nd, hd, hl, all with
  | [], _, hd, _, _ => simp at hd
  | [_], _, _, hl, _ => exact hl rfl
  | a :: b :: r, nd, _, _, all =>
    have ea := all a (by simp)
    have eb := all b (by simp)
    rw [List.nodup_cons] at nd
    exact nd.1 (by rw [ea, ← eb]; simp)
end Fc
set_option exponentiation.threshold 256
set_option maxHeartbeats 4000000
set_option maxHeartbeats 4000000
namespace Fc
open PySem L2
section
variable {S : Sto} {n s m size nr place N : Nat} {p : Pen} {rows : List Rwk} {F : List Dv}
end
end Fc
set_option exponentiation.threshold 256
set_option maxHeartbeats 4000000
set_option maxHeartbeats 4000000
namespace Fc
open PySem L2
structure Stn (S0 S : Sto) (n nr s m size place N L0 : Nat) (rows : List Rwk) (p : Pen) : Prop where
  lay : Lay2 S n nr s rows
  pen : S[n]? = some p.ob
  bd : penB p N
  grow : Grow s m size place rows
  ge : ∀ (q : Nat) (cs : List (Option Nat)), Rwk.g q cs ∈ rows → L0 ≤ q
  len : L0 ≤ S.length
  old : ∀ k, k < L0 → k ≠ n → S[k]? = S0[k]?
section
variable {S0 S : Sto} {n nr s m size N L0 : Nat} {rows : List Rwk} {p : Pen}
end
end Fc
set_option exponentiation.threshold 256
set_option maxHeartbeats 4000000
set_option maxHeartbeats 4000000
namespace Fc
open PySem L2
def Rwk.st : Rwk → Sta
  | .f o => .fin o.toNat
  | .g _ cs => .go (cs.filterMap id)
end Fc
set_option exponentiation.threshold 256
set_option maxHeartbeats 4000000
set_option maxHeartbeats 4000000
namespace Fc
open PySem L2
theorem snoc_at {α : Type} {xs : List α} {r x : α} {i : Nat} (h : (xs ++ [r])[i]? = some x) : xs[i]? = some x ∨ (i = xs.length ∧ x = r) := by
  by_cases hi : i < xs.length
  · rw [List.getElem?_append_left hi] at h
    exact .inl h
  · rw [List.getElem?_append_right (by omega)] at h
    by_cases e : i - xs.length = 0
    · rw [e] at h
      simp at h
      exact .inr ⟨by omega, h.symm⟩
    · rw [List.getElem?_eq_none (by simp; omega)] at h
      cases h
theorem Lay2.first {S : Sto} {n nr s : Nat} (h : S[nr]? = some (.lst [])) (hn : n < S.length) (hne : nr ≠ n) :
    Lay2 ((S ++ [Ob.lst ((List.replicate s (none : Option Nat)).map cel)]).set nr (Ob.lst ([Rwk.g S.length (List.replicate s none)].map Rwk.dv))) n nr s [.g S.length (List.replicate s none)] := by
  have lr := (List.getElem?_eq_some_iff.mp h).1
  refine ⟨⟨List.getElem?_set_self (by simp; omega), fun q cs hm => ?_⟩, fun i i' q cs cs' h1 h2 => ?_, fun q cs hm => ?_, hne⟩
  · have e : q = S.length ∧ cs = List.replicate s none := by simpa using hm
    obtain ⟨rfl, rfl⟩ := e
    exact ⟨by rw [List.getElem?_set_ne (by omega)]; simp, by simp⟩
  · have a := (List.getElem?_eq_some_iff.mp h1).1
    have b := (List.getElem?_eq_some_iff.mp h2).1
    simp only [List.length_cons, List.length_nil] at a b
    omega
  · have e : q = S.length ∧ cs = List.replicate s none := by simpa using hm
    obtain ⟨rfl, rfl⟩ := e
    exact ⟨by omega, by omega⟩
theorem Lay2.nil {S : Sto} {n nr s : Nat} (h : S[nr]? = some (.lst [])) (hne : nr ≠ n) : Lay2 S n nr s [] :=
  ⟨⟨h, fun q cs hm => by simp at hm⟩, fun i i' q cs cs' h1 => by simp at h1, fun q cs hm => by simp at hm, hne⟩
end Fc
set_option exponentiation.threshold 256
set_option maxHeartbeats 4000000
set_option maxHeartbeats 4000000
namespace Fc
open PySem L2
structure Ini (S0 S : Sto) (n nr s m size i N : Nat) (acc : List Dv) (rows : List Rwk) (p : Pen) : Prop where
  eq : acc = rows.map Rwk.dv
  lay : Lay2 S n nr s rows
  pen : S[n]? = some p.ob
  bd : penB p N
  len : rows.length = i
  fin : ∀ o, Rwk.f o ∈ rows → ∃ k : Nat, o = (k : Int) ∧ k < m
  tail : ∀ k, (1 ≤ k ∨ size ≤ 1) → k < i → ∃ o, rows[k]? = some (Rwk.f o)
  first : 0 < i → 1 < size → ∃ q, rows[0]? = some (.g q (List.replicate s none))
  row : ∀ (q : Nat) (cs : List (Option Nat)), Rwk.g q cs ∈ rows → cs = List.replicate s none ∧ nr ≤ q
  low : nr < S.length
  old : ∀ k, k < nr → k ≠ n → S[k]? = S0[k]?
section
variable {S0 S : Sto} {n nr s m size N i : Nat} {rows : List Rwk} {p : Pen} {acc : List Dv}
end
end Fc
set_option exponentiation.threshold 256
set_option maxHeartbeats 4000000
set_option maxHeartbeats 4000000
namespace Fc
open PySem L2
local macro_rules | `(tactic| walk_at "fc") => `(tactic| try simp only [runB, cSeq, cNil, cRet, cRetN, cExpr, cIf, cSet, cAsg, cPar, cAug, cRaise, cStore, cPass, cWipe, wipeD, toS_ok, toS_exn, toS_stuck, Res.bd_ok, Res.bd_exn, Res.bd_stuck, Res.bdN_ok, Res.bdN_exn, Res.bdN_stuck,
  eVar, eC, eTup, eLst, eOp, eChain, eUn, eAnd, eOr, eNot, eIf, eRep, tTs, tAnd2, tOr2, tNot2, tTrue, eCall, eBi, eIsi, eMtL, eSl, oNo, oSo, lNil, lCons, iSeq, iRange1, iRange2, zAdd, zSub, zMul, zDiv, zMod, ofO, opInt, opIn, opNotIn, opEq, opNe, opIs, opIsnt, mk_t, mk_f,
  List.map_cons, List.map_nil, List.length_cons, List.length_nil, List.replicate, List.append_nil, List.nil_append, List.cons_append, List.getElem?_cons_zero, List.getElem?_cons_succ, List.getElem?_nil, List.set_cons_zero, List.set_cons_succ, List.set_nil, lm0, lm1, lm2, lm3, lm4, lm5, lm6, lm7, lm8, lm9, asg_nm, asg_tp, asgs_nil, asgs_cons, Option.bind_some, Option.bind_none, Option.map_some, Option.map_none,
  Nat.reduceSub, Nat.reduceAdd, Nat.zero_add, Nat.add_zero, Nat.sub_self, if_true, if_false, reduceIte, Bool.false_eq_true, Bool.true_eq_false, Bool.not_true, Bool.not_false, ix_tup, ix_fz, at0, at1, at2, eDNew, eDGet, eDGet2, eDIn, eDPop, cDPut, cAugS, cSub2, dic_ref, keyOf, reduceCtorEq])
local macro_rules | `(tactic| walk_at "fo") => `(tactic| try simp only [*, runB, cSeq, cNil, cRet, cRetN, cExpr, cIf, cSet, cAsg, cPar, cAug, cRaise, cStore, cPass, cWipe, wipeD, toS_ok, toS_exn, toS_stuck, Res.bd_ok, Res.bd_exn, Res.bd_stuck, Res.bdN_ok, Res.bdN_exn, Res.bdN_stuck,
  eVar, eC, eTup, eLst, eOp, eChain, eUn, eAnd, eOr, eNot, eIf, eRep, tTs, tAnd2, tOr2, tNot2, tTrue, eCall, eBi, eIsi, eMtL, eSl, oNo, oSo, lNil, lCons, iSeq, iRange1, iRange2, zAdd, zSub, zMul, zDiv, zMod, ofO, opInt, opIn, opNotIn, opEq, opNe, opIs, opIsnt, mk_t, mk_f,
  List.map_cons, List.map_nil, List.length_cons, List.length_nil, List.replicate, List.append_nil, List.nil_append, List.cons_append, List.getElem?_cons_zero, List.getElem?_cons_succ, List.getElem?_nil, List.set_cons_zero, List.set_cons_succ, List.set_nil, lm0, lm1, lm2, lm3, lm4, lm5, lm6, lm7, lm8, lm9, asg_nm, asg_tp, asgs_nil, asgs_cons, Option.bind_some, Option.bind_none, Option.map_some, Option.map_none,
  Nat.reduceSub, Nat.reduceAdd, Nat.zero_add, Nat.add_zero, Nat.sub_self, if_true, if_false, reduceIte, Bool.false_eq_true, Bool.true_eq_false, Bool.not_true, Bool.not_false, ix_tup, ix_fz, at0, at1, at2, eDNew, eDGet, eDGet2, eDIn, eDPop, cDPut, cAugS, cSub2, dic_ref, keyOf, reduceCtorEq, and_self, Bool.and_self, decide_true, decide_false, List.append_assoc, List.length_append, Nat.add_assoc, at_new, at_newk, add_fz, add_rf, add_tt, ix_ref, seq_ref, list_ref, seq_tup, seq_fz, list_fz, ix_tup, ix_fz, neg_int, app_ref, set_newk, set_new0, iZ, iEn, sl_tup, sl_fz, eLcV, len_tup, len_ref, len_fz, tuple_fz, tuple_ref, ty_non, ty_bl, ty_int, ty_str, ty_tup, ty_fz])
local macro_rules | `(tactic| walk_at "fg") => `(tactic| try simp only [*, runB, cSeq, cNil, cRet, cRetN, cExpr, cIf, cSet, cAsg, cPar, cAug, cRaise, cStore, cPass, cWipe, wipeD, toS_ok, toS_exn, toS_stuck, Res.bd_ok, Res.bd_exn, Res.bd_stuck, Res.bdN_ok, Res.bdN_exn, Res.bdN_stuck,
  eVar, eC, eTup, eLst, eOp, eChain, eUn, eAnd, eOr, eNot, eIf, eRep, tTs, tAnd2, tOr2, tNot2, tTrue, eCall, eBi, eIsi, eMtL, eSl, oNo, oSo, lNil, lCons, iSeq, iRange1, iRange2, zAdd, zSub, zMul, zDiv, zMod, ofO, opInt, opIn, opNotIn, opEq, opNe, opIs, opIsnt, mk_t, mk_f,
  List.map_cons, List.map_nil, List.length_cons, List.length_nil, List.replicate, List.append_nil, List.nil_append, List.cons_append, List.getElem?_cons_zero, List.getElem?_cons_succ, List.getElem?_nil, List.set_cons_zero, List.set_cons_succ, List.set_nil, lm0, lm1, lm2, lm3, lm4, lm5, lm6, lm7, lm8, lm9, asg_nm, asg_tp, asgs_nil, asgs_cons, Option.bind_some, Option.bind_none, Option.map_some, Option.map_none,
  Nat.reduceSub, Nat.reduceAdd, Nat.zero_add, Nat.add_zero, Nat.sub_self, if_true, if_false, reduceIte, Bool.false_eq_true, Bool.true_eq_false, Bool.not_true, Bool.not_false, ix_tup, ix_fz, at0, at1, at2, eDNew, eDGet, eDGet2, eDIn, eDPop, cDPut, cAugS, cSub2, dic_ref, keyOf, reduceCtorEq, and_self, Bool.and_self, decide_true, decide_false, List.append_assoc, List.length_append, Nat.add_assoc, at_new, at_newk, add_fz, add_rf, add_tt, ix_ref, seq_ref, list_ref, seq_tup, seq_fz, list_fz, ix_tup, ix_fz, neg_int, app_ref, set_newk, set_new0, iZ, iEn, sl_tup, sl_fz, eLcV, len_tup, len_ref, len_fz, tuple_fz, tuple_ref, ty_non, ty_bl, ty_int, ty_str, ty_tup, ty_fz])
local macro_rules | `(tactic| walk_at "fs") => `(tactic| try simp [runB, cSeq, cNil, cRet, cRetN, cExpr, cIf, cSet, cAsg, cPar, cAug, cRaise, cStore, cPass, cWipe, wipeD, toS_ok, toS_exn, toS_stuck, Res.bd_ok, Res.bd_exn, Res.bd_stuck, Res.bdN_ok, Res.bdN_exn, Res.bdN_stuck,
  eVar, eC, eTup, eLst, eOp, eChain, eUn, eAnd, eOr, eNot, eIf, eRep, tTs, tAnd2, tOr2, tNot2, tTrue, eCall, eBi, eIsi, eMtL, eSl, oNo, oSo, lNil, lCons, iSeq, iRange1, iRange2, zAdd, zSub, zMul, zDiv, zMod, ofO, opInt, opIn, opNotIn, opEq, opNe, opIs, opIsnt, mk_t, mk_f,
  List.map_cons, List.map_nil, List.length_cons, List.length_nil, List.replicate, List.append_nil, List.nil_append, List.cons_append, List.getElem?_cons_zero, List.getElem?_cons_succ, List.getElem?_nil, List.set_cons_zero, List.set_cons_succ, List.set_nil, lm0, lm1, lm2, lm3, lm4, lm5, lm6, lm7, lm8, lm9, asg_nm, asg_tp, asgs_nil, asgs_cons, Option.bind_some, Option.bind_none, Option.map_some, Option.map_none,
  Nat.reduceSub, Nat.reduceAdd, Nat.zero_add, Nat.add_zero, Nat.sub_self, if_true, if_false, reduceIte, Bool.false_eq_true, Bool.true_eq_false, Bool.not_true, Bool.not_false, ix_tup, ix_fz, at0, at1, at2, eDNew, eDGet, eDGet2, eDIn, eDPop, cDPut, cAugS, cSub2, dic_ref, keyOf, reduceCtorEq, and_self, Bool.and_self, decide_true, decide_false, List.append_assoc, List.length_append, Nat.add_assoc, at_new, at_newk, add_fz, add_rf, add_tt, ix_ref, seq_ref, list_ref, seq_tup, seq_fz, list_fz, ix_tup, ix_fz, neg_int, app_ref, set_newk, set_new0, iZ, iEn, sl_tup, sl_fz, eLcV, len_tup, len_ref, len_fz, tuple_fz, tuple_ref, ty_non, ty_bl, ty_int, ty_str, ty_tup, ty_fz, isT, eqD_int, at0, at1])
local macro_rules | `(tactic| walk_at "fh") => `(tactic| try simp [*, runB, cSeq, cNil, cRet, cRetN, cExpr, cIf, cSet, cAsg, cPar, cAug, cRaise, cStore, cPass, cWipe, wipeD, toS_ok, toS_exn, toS_stuck, Res.bd_ok, Res.bd_exn, Res.bd_stuck, Res.bdN_ok, Res.bdN_exn, Res.bdN_stuck,
  eVar, eC, eTup, eLst, eOp, eChain, eUn, eAnd, eOr, eNot, eIf, eRep, tTs, tAnd2, tOr2, tNot2, tTrue, eCall, eBi, eIsi, eMtL, eSl, oNo, oSo, lNil, lCons, iSeq, iRange1, iRange2, zAdd, zSub, zMul, zDiv, zMod, ofO, opInt, opIn, opNotIn, opEq, opNe, opIs, opIsnt, mk_t, mk_f,
  List.map_cons, List.map_nil, List.length_cons, List.length_nil, List.replicate, List.append_nil, List.nil_append, List.cons_append, List.getElem?_cons_zero, List.getElem?_cons_succ, List.getElem?_nil, List.set_cons_zero, List.set_cons_succ, List.set_nil, lm0, lm1, lm2, lm3, lm4, lm5, lm6, lm7, lm8, lm9, asg_nm, asg_tp, asgs_nil, asgs_cons, Option.bind_some, Option.bind_none, Option.map_some, Option.map_none,
  Nat.reduceSub, Nat.reduceAdd, Nat.zero_add, Nat.add_zero, Nat.sub_self, if_true, if_false, reduceIte, Bool.false_eq_true, Bool.true_eq_false, Bool.not_true, Bool.not_false, ix_tup, ix_fz, at0, at1, at2, eDNew, eDGet, eDGet2, eDIn, eDPop, cDPut, cAugS, cSub2, dic_ref, keyOf, reduceCtorEq, and_self, Bool.and_self, decide_true, decide_false, List.append_assoc, List.length_append, Nat.add_assoc, at_new, at_newk, add_fz, add_rf, add_tt, ix_ref, seq_ref, list_ref, seq_tup, seq_fz, list_fz, ix_tup, ix_fz, neg_int, app_ref, set_newk, set_new0, iZ, iEn, sl_tup, sl_fz, eLcV, len_tup, len_ref, len_fz, tuple_fz, tuple_ref, ty_non, ty_bl, ty_int, ty_str, ty_tup, ty_fz, isT, eqD_int, at0, at1])
def ix0 : List Nat → Nat → Nat
  | [], _ => 0
  | a :: r, i => if a = i then 0 else ix0 r i + 1
theorem ix0_le : ∀ (R : List Nat) (i : Nat), ix0 R i ≤ R.length
  | [], _ => Nat.le_refl _
  | a :: r, i => by
    have := ix0_le r i
    simp only [ix0, List.length_cons]
    split <;> omega
theorem ix0_at : ∀ {R : List Nat} {k j : Nat}, R[k]? = some j → ix0 R j ≤ k
  | [], k, j, h => by simp at h
  | a :: r, 0, j, h => by
    have : a = j := by simpa using h
    simp [ix0, this]
  | a :: r, k + 1, j, h => by
    have := ix0_at (R := r) (k := k) (j := j) (by simpa using h)
    simp only [ix0]
    split <;> omega
theorem ix0_mem : ∀ {R : List Nat} {i : Nat}, i ∈ R → R[ix0 R i]? = some i
  | [], i, h => by simp at h
  | a :: r, i, h => by
    simp only [ix0]
    by_cases e : a = i
    · simp [e]
    · rw [if_neg e, List.getElem?_cons_succ]
      exact ix0_mem (by simpa [show i ≠ a from fun z => e z.symm] using h)
structure Endg (t : List Sta) (R : List Nat) : Prop where
  nd : R.Nodup
  lt : ∀ j ∈ R, j < t.length
  fin : ∀ (i o : Nat), t[i]? = some (.fin o) → i ∈ R
  ord : ∀ (k i : Nat) (l : List Nat), R[k]? = some i → t[i]? = some (.go l) → ∃ j ∈ l, ∃ k', k' < k ∧ R[k']? = some j
theorem Endg.rank {t : List Sta} {R : List Nat} (h : Endg t R) (hl : R.length = t.length) : ∃ rk, Ranked t rk := by
  refine ⟨ix0 R, fun i => by rw [← hl]; exact ix0_le R i, fun i l hi => ?_⟩
  have hi2 := (List.getElem?_eq_some_iff.mp hi).1
  have all : i ∈ R := by
    apply Classical.byContradiction
    intro hn
    have nd2 : (i :: R).Nodup := List.nodup_cons.mpr ⟨hn, h.nd⟩
    have := nodup_lt t.length (i :: R) nd2 fun j hj => by
      rcases List.mem_cons.mp hj with rfl | hj
      · exact hi2
      · exact h.lt j hj
    simp only [List.length_cons] at this
    omega
  obtain ⟨j, hj, k', hk, e⟩ := h.ord _ i l (ix0_mem all) hi
  exact ⟨j, hj, Nat.lt_of_le_of_lt (ix0_at e) hk⟩
theorem Endg.step {t : List Sta} {R : List Nat} {i : Nat} {x : Sta} (h : Endg t R) (hx : t[i]? = some x) : Endg t (if grows t R i then R ++ [i] else R) := by
  cases hg : grows t R i with
  | false => exact h
  | true =>
    simp only [grows, Bool.and_eq_true, Bool.not_eq_true', decide_eq_false_iff_not, List.any_eq_true, decide_eq_true_eq] at hg
    obtain ⟨hn, j, hj, hjR⟩ := hg
    simp only [if_true]
    refine ⟨?_, fun k hk => ?_, fun k o hk => List.mem_append_left _ (h.fin k o hk), fun k i' l hk hl => ?_⟩
    · rw [List.nodup_append]
      refine ⟨h.nd, by simp, fun a ha b hb => ?_⟩
      simp at hb
      subst hb
      rintro rfl
      exact hn ha
    · rcases List.mem_append.mp hk with hk | hk
      · exact h.lt k hk
      · simp at hk
        subst hk
        exact (List.getElem?_eq_some_iff.mp hx).1
    · rcases snoc_at hk with hk | ⟨rfl, rfl⟩
      · obtain ⟨j, hj, k', h1, h2⟩ := h.ord k i' l hk hl
        exact ⟨j, hj, k', h1, by rw [List.getElem?_append_left (List.getElem?_eq_some_iff.mp h2).1, h2]⟩
      · have : succs t i' = l := by unfold succs; rw [hl]
        rw [this] at hj
        obtain ⟨k', hk'⟩ := List.getElem?_of_mem hjR
        have lk := (List.getElem?_eq_some_iff.mp hk').1
        exact ⟨j, hj, k', lk, by rw [List.getElem?_append_left lk, hk']⟩
end Fc
set_option exponentiation.threshold 256
set_option maxHeartbeats 4000000
set_option maxHeartbeats 4000000
namespace Fc
open PySem L2
local macro_rules | `(tactic| walk_at "fc") => `(tactic| try simp only [runB, cSeq, cNil, cRet, cRetN, cExpr, cIf, cSet, cAsg, cPar, cAug, cRaise, cStore, cPass, cWipe, wipeD, toS_ok, toS_exn, toS_stuck, Res.bd_ok, Res.bd_exn, Res.bd_stuck, Res.bdN_ok, Res.bdN_exn, Res.bdN_stuck,
  eVar, eC, eTup, eLst, eOp, eChain, eUn, eAnd, eOr, eNot, eIf, eRep, tTs, tAnd2, tOr2, tNot2, tTrue, eCall, eBi, eIsi, eMtL, eSl, oNo, oSo, lNil, lCons, iSeq, iRange1, iRange2, zAdd, zSub, zMul, zDiv, zMod, ofO, opInt, opIn, opNotIn, opEq, opNe, opIs, opIsnt, mk_t, mk_f,
  List.map_cons, List.map_nil, List.length_cons, List.length_nil, List.replicate, List.append_nil, List.nil_append, List.cons_append, List.getElem?_cons_zero, List.getElem?_cons_succ, List.getElem?_nil, List.set_cons_zero, List.set_cons_succ, List.set_nil, lm0, lm1, lm2, lm3, lm4, lm5, lm6, lm7, lm8, lm9, asg_nm, asg_tp, asgs_nil, asgs_cons, Option.bind_some, Option.bind_none, Option.map_some, Option.map_none,
  Nat.reduceSub, Nat.reduceAdd, Nat.zero_add, Nat.add_zero, Nat.sub_self, if_true, if_false, reduceIte, Bool.false_eq_true, Bool.true_eq_false, Bool.not_true, Bool.not_false, ix_tup, ix_fz, at0, at1, at2, eDNew, eDGet, eDGet2, eDIn, eDPop, cDPut, cAugS, cSub2, dic_ref, keyOf, reduceCtorEq])
local macro_rules | `(tactic| walk_at "fo") => `(tactic| try simp only [*, runB, cSeq, cNil, cRet, cRetN, cExpr, cIf, cSet, cAsg, cPar, cAug, cRaise, cStore, cPass, cWipe, wipeD, toS_ok, toS_exn, toS_stuck, Res.bd_ok, Res.bd_exn, Res.bd_stuck, Res.bdN_ok, Res.bdN_exn, Res.bdN_stuck,
  eVar, eC, eTup, eLst, eOp, eChain, eUn, eAnd, eOr, eNot, eIf, eRep, tTs, tAnd2, tOr2, tNot2, tTrue, eCall, eBi, eIsi, eMtL, eSl, oNo, oSo, lNil, lCons, iSeq, iRange1, iRange2, zAdd, zSub, zMul, zDiv, zMod, ofO, opInt, opIn, opNotIn, opEq, opNe, opIs, opIsnt, mk_t, mk_f,
  List.map_cons, List.map_nil, List.length_cons, List.length_nil, List.replicate, List.append_nil, List.nil_append, List.cons_append, List.getElem?_cons_zero, List.getElem?_cons_succ, List.getElem?_nil, List.set_cons_zero, List.set_cons_succ, List.set_nil, lm0, lm1, lm2, lm3, lm4, lm5, lm6, lm7, lm8, lm9, asg_nm, asg_tp, asgs_nil, asgs_cons, Option.bind_some, Option.bind_none, Option.map_some, Option.map_none,
  Nat.reduceSub, Nat.reduceAdd, Nat.zero_add, Nat.add_zero, Nat.sub_self, if_true, if_false, reduceIte, Bool.false_eq_true, Bool.true_eq_false, Bool.not_true, Bool.not_false, ix_tup, ix_fz, at0, at1, at2, eDNew, eDGet, eDGet2, eDIn, eDPop, cDPut, cAugS, cSub2, dic_ref, keyOf, reduceCtorEq, and_self, Bool.and_self, decide_true, decide_false, List.append_assoc, List.length_append, Nat.add_assoc, at_new, at_newk, add_fz, add_rf, add_tt, ix_ref, seq_ref, list_ref, seq_tup, seq_fz, list_fz, ix_tup, ix_fz, neg_int, app_ref, set_newk, set_new0, iZ, iEn, sl_tup, sl_fz, eLcV, len_tup, len_ref, len_fz, tuple_fz, tuple_ref, ty_non, ty_bl, ty_int, ty_str, ty_tup, ty_fz])
local macro_rules | `(tactic| walk_at "fg") => `(tactic| try simp only [*, runB, cSeq, cNil, cRet, cRetN, cExpr, cIf, cSet, cAsg, cPar, cAug, cRaise, cStore, cPass, cWipe, wipeD, toS_ok, toS_exn, toS_stuck, Res.bd_ok, Res.bd_exn, Res.bd_stuck, Res.bdN_ok, Res.bdN_exn, Res.bdN_stuck,
  eVar, eC, eTup, eLst, eOp, eChain, eUn, eAnd, eOr, eNot, eIf, eRep, tTs, tAnd2, tOr2, tNot2, tTrue, eCall, eBi, eIsi, eMtL, eSl, oNo, oSo, lNil, lCons, iSeq, iRange1, iRange2, zAdd, zSub, zMul, zDiv, zMod, ofO, opInt, opIn, opNotIn, opEq, opNe, opIs, opIsnt, mk_t, mk_f,
  List.map_cons, List.map_nil, List.length_cons, List.length_nil, List.replicate, List.append_nil, List.nil_append, List.cons_append, List.getElem?_cons_zero, List.getElem?_cons_succ, List.getElem?_nil, List.set_cons_zero, List.set_cons_succ, List.set_nil, lm0, lm1, lm2, lm3, lm4, lm5, lm6, lm7, lm8, lm9, asg_nm, asg_tp, asgs_nil, asgs_cons, Option.bind_some, Option.bind_none, Option.map_some, Option.map_none,
  Nat.reduceSub, Nat.reduceAdd, Nat.zero_add, Nat.add_zero, Nat.sub_self, if_true, if_false, reduceIte, Bool.false_eq_true, Bool.true_eq_false, Bool.not_true, Bool.not_false, ix_tup, ix_fz, at0, at1, at2, eDNew, eDGet, eDGet2, eDIn, eDPop, cDPut, cAugS, cSub2, dic_ref, keyOf, reduceCtorEq, and_self, Bool.and_self, decide_true, decide_false, List.append_assoc, List.length_append, Nat.add_assoc, at_new, at_newk, add_fz, add_rf, add_tt, ix_ref, seq_ref, list_ref, seq_tup, seq_fz, list_fz, ix_tup, ix_fz, neg_int, app_ref, set_newk, set_new0, iZ, iEn, sl_tup, sl_fz, eLcV, len_tup, len_ref, len_fz, tuple_fz, tuple_ref, ty_non, ty_bl, ty_int, ty_str, ty_tup, ty_fz])
local macro_rules | `(tactic| walk_at "fs") => `(tactic| try simp [runB, cSeq, cNil, cRet, cRetN, cExpr, cIf, cSet, cAsg, cPar, cAug, cRaise, cStore, cPass, cWipe, wipeD, toS_ok, toS_exn, toS_stuck, Res.bd_ok, Res.bd_exn, Res.bd_stuck, Res.bdN_ok, Res.bdN_exn, Res.bdN_stuck,
  eVar, eC, eTup, eLst, eOp, eChain, eUn, eAnd, eOr, eNot, eIf, eRep, tTs, tAnd2, tOr2, tNot2, tTrue, eCall, eBi, eIsi, eMtL, eSl, oNo, oSo, lNil, lCons, iSeq, iRange1, iRange2, zAdd, zSub, zMul, zDiv, zMod, ofO, opInt, opIn, opNotIn, opEq, opNe, opIs, opIsnt, mk_t, mk_f,
  List.map_cons, List.map_nil, List.length_cons, List.length_nil, List.replicate, List.append_nil, List.nil_append, List.cons_append, List.getElem?_cons_zero, List.getElem?_cons_succ, List.getElem?_nil, List.set_cons_zero, List.set_cons_succ, List.set_nil, lm0, lm1, lm2, lm3, lm4, lm5, lm6, lm7, lm8, lm9, asg_nm, asg_tp, asgs_nil, asgs_cons, Option.bind_some, Option.bind_none, Option.map_some, Option.map_none,
  Nat.reduceSub, Nat.reduceAdd, Nat.zero_add, Nat.add_zero, Nat.sub_self, if_true, if_false, reduceIte, Bool.false_eq_true, Bool.true_eq_false, Bool.not_true, Bool.not_false, ix_tup, ix_fz, at0, at1, at2, eDNew, eDGet, eDGet2, eDIn, eDPop, cDPut, cAugS, cSub2, dic_ref, keyOf, reduceCtorEq, and_self, Bool.and_self, decide_true, decide_false, List.append_assoc, List.length_append, Nat.add_assoc, at_new, at_newk, add_fz, add_rf, add_tt, ix_ref, seq_ref, list_ref, seq_tup, seq_fz, list_fz, ix_tup, ix_fz, neg_int, app_ref, set_newk, set_new0, iZ, iEn, sl_tup, sl_fz, eLcV, len_tup, len_ref, len_fz, tuple_fz, tuple_ref, ty_non, ty_bl, ty_int, ty_str, ty_tup, ty_fz, isT, eqD_int, at0, at1])
local macro_rules | `(tactic| walk_at "fh") => `(tactic| try simp [*, runB, cSeq, cNil, cRet, cRetN, cExpr, cIf, cSet, cAsg, cPar, cAug, cRaise, cStore, cPass, cWipe, wipeD, toS_ok, toS_exn, toS_stuck, Res.bd_ok, Res.bd_exn, Res.bd_stuck, Res.bdN_ok, Res.bdN_exn, Res.bdN_stuck,
  eVar, eC, eTup, eLst, eOp, eChain, eUn, eAnd, eOr, eNot, eIf, eRep, tTs, tAnd2, tOr2, tNot2, tTrue, eCall, eBi, eIsi, eMtL, eSl, oNo, oSo, lNil, lCons, iSeq, iRange1, iRange2, zAdd, zSub, zMul, zDiv, zMod, ofO, opInt, opIn, opNotIn, opEq, opNe, opIs, opIsnt, mk_t, mk_f,
  List.map_cons, List.map_nil, List.length_cons, List.length_nil, List.replicate, List.append_nil, List.nil_append, List.cons_append, List.getElem?_cons_zero, List.getElem?_cons_succ, List.getElem?_nil, List.set_cons_zero, List.set_cons_succ, List.set_nil, lm0, lm1, lm2, lm3, lm4, lm5, lm6, lm7, lm8, lm9, asg_nm, asg_tp, asgs_nil, asgs_cons, Option.bind_some, Option.bind_none, Option.map_some, Option.map_none,
  Nat.reduceSub, Nat.reduceAdd, Nat.zero_add, Nat.add_zero, Nat.sub_self, if_true, if_false, reduceIte, Bool.false_eq_true, Bool.true_eq_false, Bool.not_true, Bool.not_false, ix_tup, ix_fz, at0, at1, at2, eDNew, eDGet, eDGet2, eDIn, eDPop, cDPut, cAugS, cSub2, dic_ref, keyOf, reduceCtorEq, and_self, Bool.and_self, decide_true, decide_false, List.append_assoc, List.length_append, Nat.add_assoc, at_new, at_newk, add_fz, add_rf, add_tt, ix_ref, seq_ref, list_ref, seq_tup, seq_fz, list_fz, ix_tup, ix_fz, neg_int, app_ref, set_newk, set_new0, iZ, iEn, sl_tup, sl_fz, eLcV, len_tup, len_ref, len_fz, tuple_fz, tuple_ref, ty_non, ty_bl, ty_int, ty_str, ty_tup, ty_fz, isT, eqD_int, at0, at1])
theorem cell_at_run (ns : List Int) (k : Nat) (S : Sto) : r_law_cell_at [.fz (ns.map Dv.int), .int (k : Nat)] S = .ok (.int (ns[k]?.getD 0)) S := by
  have := m_law_cell_at_ok ns (k : Int) S _ _ rfl rfl
  have e1 : m_law_cell_at ns (k : Int) = .ok (ns[k]?.getD 0) := by
    unfold m_law_cell_at
    by_cases h : k < ns.length
    · rw [decide_eq_true (by omega), if_pos rfl, ixM_nat (List.getElem?_eq_getElem h), List.getElem?_eq_getElem h]
      rfl
    · rw [decide_eq_false (by omega), List.getElem?_eq_none (by omega)]
      rfl
  rw [e1] at this
  obtain ⟨d, q1, q2⟩ := this
  cases q2
  exact q1
theorem laps_run {ns : List Dv} : ∃ M : Nat, 1 ≤ M ∧ M ≤ 3 ∧ ∀ (S : Sto) (ρ : Ev), ρ[0]? = some (some (.fz ns)) → iRange1 (lCons (eBi fMax2 (lCons (eC (.int 1)) (lCons (eBi fMin2 (lCons (eBi fLen (lCons (eVar 0) lNil)) (lCons (eC (.int 3)) lNil))) lNil))) lNil) ρ S = .ok (itRange 0 M) S := by
  obtain ⟨M, hM, h1, h3⟩ : ∃ M : Int, M = (if (if (3 : Int) < (ns.length : Int) then 3 else (ns.length : Int)) > 1 then (if (3 : Int) < (ns.length : Int) then 3 else (ns.length : Int)) else 1) ∧ 1 ≤ M ∧ M ≤ 3 := ⟨_, rfl, by split <;> omega, by split <;> split <;> omega⟩
  refine ⟨M.toNat, by omega, by omega, fun S ρ h => ?_⟩
  walk_at "fc"
  rw [h]
  walk_at "fc"
  rw [len_fz]
  walk_at "fc"
  simp only [fMin2]
  walk_at "fc"
  simp only [fMax2]
  walk_at "fc"
  rw [← hM, rngB_iff.mpr (by omega)]
  walk_at "fc"
end Fc
set_option exponentiation.threshold 256
set_option maxHeartbeats 4000000
set_option maxHeartbeats 4000000
namespace Fc
open PySem L2
local macro_rules | `(tactic| walk_at "fc") => `(tactic| try simp only [runB, cSeq, cNil, cRet, cRetN, cExpr, cIf, cSet, cAsg, cPar, cAug, cRaise, cStore, cPass, cWipe, wipeD, toS_ok, toS_exn, toS_stuck, Res.bd_ok, Res.bd_exn, Res.bd_stuck, Res.bdN_ok, Res.bdN_exn, Res.bdN_stuck,
  eVar, eC, eTup, eLst, eOp, eChain, eUn, eAnd, eOr, eNot, eIf, eRep, tTs, tAnd2, tOr2, tNot2, tTrue, eCall, eBi, eIsi, eMtL, eSl, oNo, oSo, lNil, lCons, iSeq, iRange1, iRange2, zAdd, zSub, zMul, zDiv, zMod, ofO, opInt, opIn, opNotIn, opEq, opNe, opIs, opIsnt, mk_t, mk_f,
  List.map_cons, List.map_nil, List.length_cons, List.length_nil, List.replicate, List.append_nil, List.nil_append, List.cons_append, List.getElem?_cons_zero, List.getElem?_cons_succ, List.getElem?_nil, List.set_cons_zero, List.set_cons_succ, List.set_nil, lm0, lm1, lm2, lm3, lm4, lm5, lm6, lm7, lm8, lm9, asg_nm, asg_tp, asgs_nil, asgs_cons, Option.bind_some, Option.bind_none, Option.map_some, Option.map_none,
  Nat.reduceSub, Nat.reduceAdd, Nat.zero_add, Nat.add_zero, Nat.sub_self, if_true, if_false, reduceIte, Bool.false_eq_true, Bool.true_eq_false, Bool.not_true, Bool.not_false, ix_tup, ix_fz, at0, at1, at2, eDNew, eDGet, eDGet2, eDIn, eDPop, cDPut, cAugS, cSub2, dic_ref, keyOf, reduceCtorEq])
local macro_rules | `(tactic| walk_at "fo") => `(tactic| try simp only [*, runB, cSeq, cNil, cRet, cRetN, cExpr, cIf, cSet, cAsg, cPar, cAug, cRaise, cStore, cPass, cWipe, wipeD, toS_ok, toS_exn, toS_stuck, Res.bd_ok, Res.bd_exn, Res.bd_stuck, Res.bdN_ok, Res.bdN_exn, Res.bdN_stuck,
  eVar, eC, eTup, eLst, eOp, eChain, eUn, eAnd, eOr, eNot, eIf, eRep, tTs, tAnd2, tOr2, tNot2, tTrue, eCall, eBi, eIsi, eMtL, eSl, oNo, oSo, lNil, lCons, iSeq, iRange1, iRange2, zAdd, zSub, zMul, zDiv, zMod, ofO, opInt, opIn, opNotIn, opEq, opNe, opIs, opIsnt, mk_t, mk_f,
  List.map_cons, List.map_nil, List.length_cons, List.length_nil, List.replicate, List.append_nil, List.nil_append, List.cons_append, List.getElem?_cons_zero, List.getElem?_cons_succ, List.getElem?_nil, List.set_cons_zero, List.set_cons_succ, List.set_nil, lm0, lm1, lm2, lm3, lm4, lm5, lm6, lm7, lm8, lm9, asg_nm, asg_tp, asgs_nil, asgs_cons, Option.bind_some, Option.bind_none, Option.map_some, Option.map_none,
  Nat.reduceSub, Nat.reduceAdd, Nat.zero_add, Nat.add_zero, Nat.sub_self, if_true, if_false, reduceIte, Bool.false_eq_true, Bool.true_eq_false, Bool.not_true, Bool.not_false, ix_tup, ix_fz, at0, at1, at2, eDNew, eDGet, eDGet2, eDIn, eDPop, cDPut, cAugS, cSub2, dic_ref, keyOf, reduceCtorEq, and_self, Bool.and_self, decide_true, decide_false, List.append_assoc, List.length_append, Nat.add_assoc, at_new, at_newk, add_fz, add_rf, add_tt, ix_ref, seq_ref, list_ref, seq_tup, seq_fz, list_fz, ix_tup, ix_fz, neg_int, app_ref, set_newk, set_new0, iZ, iEn, sl_tup, sl_fz, eLcV, len_tup, len_ref, len_fz, tuple_fz, tuple_ref, ty_non, ty_bl, ty_int, ty_str, ty_tup, ty_fz])
local macro_rules | `(tactic| walk_at "fg") => `(tactic| try simp only [*, runB, cSeq, cNil, cRet, cRetN, cExpr, cIf, cSet, cAsg, cPar, cAug, cRaise, cStore, cPass, cWipe, wipeD, toS_ok, toS_exn, toS_stuck, Res.bd_ok, Res.bd_exn, Res.bd_stuck, Res.bdN_ok, Res.bdN_exn, Res.bdN_stuck,
  eVar, eC, eTup, eLst, eOp, eChain, eUn, eAnd, eOr, eNot, eIf, eRep, tTs, tAnd2, tOr2, tNot2, tTrue, eCall, eBi, eIsi, eMtL, eSl, oNo, oSo, lNil, lCons, iSeq, iRange1, iRange2, zAdd, zSub, zMul, zDiv, zMod, ofO, opInt, opIn, opNotIn, opEq, opNe, opIs, opIsnt, mk_t, mk_f,
  List.map_cons, List.map_nil, List.length_cons, List.length_nil, List.replicate, List.append_nil, List.nil_append, List.cons_append, List.getElem?_cons_zero, List.getElem?_cons_succ, List.getElem?_nil, List.set_cons_zero, List.set_cons_succ, List.set_nil, lm0, lm1, lm2, lm3, lm4, lm5, lm6, lm7, lm8, lm9, asg_nm, asg_tp, asgs_nil, asgs_cons, Option.bind_some, Option.bind_none, Option.map_some, Option.map_none,
  Nat.reduceSub, Nat.reduceAdd, Nat.zero_add, Nat.add_zero, Nat.sub_self, if_true, if_false, reduceIte, Bool.false_eq_true, Bool.true_eq_false, Bool.not_true, Bool.not_false, ix_tup, ix_fz, at0, at1, at2, eDNew, eDGet, eDGet2, eDIn, eDPop, cDPut, cAugS, cSub2, dic_ref, keyOf, reduceCtorEq, and_self, Bool.and_self, decide_true, decide_false, List.append_assoc, List.length_append, Nat.add_assoc, at_new, at_newk, add_fz, add_rf, add_tt, ix_ref, seq_ref, list_ref, seq_tup, seq_fz, list_fz, ix_tup, ix_fz, neg_int, app_ref, set_newk, set_new0, iZ, iEn, sl_tup, sl_fz, eLcV, len_tup, len_ref, len_fz, tuple_fz, tuple_ref, ty_non, ty_bl, ty_int, ty_str, ty_tup, ty_fz])
local macro_rules | `(tactic| walk_at "fs") => `(tactic| try simp [runB, cSeq, cNil, cRet, cRetN, cExpr, cIf, cSet, cAsg, cPar, cAug, cRaise, cStore, cPass, cWipe, wipeD, toS_ok, toS_exn, toS_stuck, Res.bd_ok, Res.bd_exn, Res.bd_stuck, Res.bdN_ok, Res.bdN_exn, Res.bdN_stuck,
  eVar, eC, eTup, eLst, eOp, eChain, eUn, eAnd, eOr, eNot, eIf, eRep, tTs, tAnd2, tOr2, tNot2, tTrue, eCall, eBi, eIsi, eMtL, eSl, oNo, oSo, lNil, lCons, iSeq, iRange1, iRange2, zAdd, zSub, zMul, zDiv, zMod, ofO, opInt, opIn, opNotIn, opEq, opNe, opIs, opIsnt, mk_t, mk_f,
  List.map_cons, List.map_nil, List.length_cons, List.length_nil, List.replicate, List.append_nil, List.nil_append, List.cons_append, List.getElem?_cons_zero, List.getElem?_cons_succ, List.getElem?_nil, List.set_cons_zero, List.set_cons_succ, List.set_nil, lm0, lm1, lm2, lm3, lm4, lm5, lm6, lm7, lm8, lm9, asg_nm, asg_tp, asgs_nil, asgs_cons, Option.bind_some, Option.bind_none, Option.map_some, Option.map_none,
  Nat.reduceSub, Nat.reduceAdd, Nat.zero_add, Nat.add_zero, Nat.sub_self, if_true, if_false, reduceIte, Bool.false_eq_true, Bool.true_eq_false, Bool.not_true, Bool.not_false, ix_tup, ix_fz, at0, at1, at2, eDNew, eDGet, eDGet2, eDIn, eDPop, cDPut, cAugS, cSub2, dic_ref, keyOf, reduceCtorEq, and_self, Bool.and_self, decide_true, decide_false, List.append_assoc, List.length_append, Nat.add_assoc, at_new, at_newk, add_fz, add_rf, add_tt, ix_ref, seq_ref, list_ref, seq_tup, seq_fz, list_fz, ix_tup, ix_fz, neg_int, app_ref, set_newk, set_new0, iZ, iEn, sl_tup, sl_fz, eLcV, len_tup, len_ref, len_fz, tuple_fz, tuple_ref, ty_non, ty_bl, ty_int, ty_str, ty_tup, ty_fz, isT, eqD_int, at0, at1])
local macro_rules | `(tactic| walk_at "fh") => `(tactic| try simp [*, runB, cSeq, cNil, cRet, cRetN, cExpr, cIf, cSet, cAsg, cPar, cAug, cRaise, cStore, cPass, cWipe, wipeD, toS_ok, toS_exn, toS_stuck, Res.bd_ok, Res.bd_exn, Res.bd_stuck, Res.bdN_ok, Res.bdN_exn, Res.bdN_stuck,
  eVar, eC, eTup, eLst, eOp, eChain, eUn, eAnd, eOr, eNot, eIf, eRep, tTs, tAnd2, tOr2, tNot2, tTrue, eCall, eBi, eIsi, eMtL, eSl, oNo, oSo, lNil, lCons, iSeq, iRange1, iRange2, zAdd, zSub, zMul, zDiv, zMod, ofO, opInt, opIn, opNotIn, opEq, opNe, opIs, opIsnt, mk_t, mk_f,
  List.map_cons, List.map_nil, List.length_cons, List.length_nil, List.replicate, List.append_nil, List.nil_append, List.cons_append, List.getElem?_cons_zero, List.getElem?_cons_succ, List.getElem?_nil, List.set_cons_zero, List.set_cons_succ, List.set_nil, lm0, lm1, lm2, lm3, lm4, lm5, lm6, lm7, lm8, lm9, asg_nm, asg_tp, asgs_nil, asgs_cons, Option.bind_some, Option.bind_none, Option.map_some, Option.map_none,
  Nat.reduceSub, Nat.reduceAdd, Nat.zero_add, Nat.add_zero, Nat.sub_self, if_true, if_false, reduceIte, Bool.false_eq_true, Bool.true_eq_false, Bool.not_true, Bool.not_false, ix_tup, ix_fz, at0, at1, at2, eDNew, eDGet, eDGet2, eDIn, eDPop, cDPut, cAugS, cSub2, dic_ref, keyOf, reduceCtorEq, and_self, Bool.and_self, decide_true, decide_false, List.append_assoc, List.length_append, Nat.add_assoc, at_new, at_newk, add_fz, add_rf, add_tt, ix_ref, seq_ref, list_ref, seq_tup, seq_fz, list_fz, ix_tup, ix_fz, neg_int, app_ref, set_newk, set_new0, iZ, iEn, sl_tup, sl_fz, eLcV, len_tup, len_ref, len_fz, tuple_fz, tuple_ref, ty_non, ty_bl, ty_int, ty_str, ty_tup, ty_fz, isT, eqD_int, at0, at1])
theorem law_fraction_run {a b : Int} {S : Sto} (h0 : 0 < b) (h1 : b.natAbs < 2 ^ 8000) : r_law_fraction [.int a, .int b] S = .ok (fr ((a : Rat) / (b : Rat))) S := by
  have := m_law_fraction_ok a b S _ _ rfl rfl
  rw [fraction_eq h0 h1] at this
  obtain ⟨d, q1, q2⟩ := this
  cases q2
  exact q1
theorem lcV_steps {it : Itf} {tg : Tg} {elt : DE} {ρ : Ev} (N : Nat) (T : Nat → Sto) (y : Nat → Dv) (hl : N ≤ lim) (hit : ∀ i, i < N → ∃ x ρ2, it (T i) i = some (some x) ∧ tg.asg x ρ = some ρ2 ∧ elt ρ2 (T i) = .ok (y i) (T (i + 1))) (hend : it (T N) N = some none) :
    lcV it tg tTrue elt ρ big 0 [] (T 0) = .ok (.fz ((List.range N).map y)) (T N) := by
  have key : ∀ (m i : Nat), i ≤ N → N - i < m → lcV it tg tTrue elt ρ m i ((List.range i).map y) (T i) = .ok (.fz ((List.range N).map y)) (T N) := by
    intro m
    induction m with
    | zero => intro i _ h; omega
    | succ m ih =>
      intro i hi hm
      unfold lcV
      by_cases e : i = N
      · subst e
        rw [hend]
      · obtain ⟨x, ρ2, e1, e2, e3⟩ := hit i (by omega)
        rw [e1]
        simp only [e2, tTrue, Res.bdN_ok, if_true, e3]
        rw [if_pos (by simp; omega)]
        have := ih (i + 1) (by omega) (by omega)
        rw [List.range_succ, List.map_append] at this
        exact this
  exact key big 0 (Nat.zero_le _) (by have := lim_big hl; omega)
def penN (p : Pen) (m : Int) : Nat → Pen
  | 0 => p
  | k + 1 => (draw (penN p m k) m).2
def drawsN (p : Pen) (m : Int) (k : Nat) : List Int := (List.range k).map fun i => (draw (penN p m i) m).1
theorem penB.penN {p : Pen} {N : Nat} (h : penB p N) (m : Int) : ∀ k : Nat, penB (penN p m k) (N + k)
  | 0 => h
  | k + 1 => (penB.penN h m k).draw m
theorem drawsN_lt (p : Pen) {m : Int} (hm : 0 < m) (k : Nat) : ∀ v ∈ drawsN p m k, 0 ≤ v ∧ v < m := by
  intro v h
  obtain ⟨i, _, rfl⟩ := List.mem_map.mp h
  exact draw_lt _ hm
theorem set_ob {S : Sto} {n : Nat} {o : Ob} (h : S[n]? = some o) : S.set n o = S := by
  apply List.ext_getElem?
  intro j
  have hn := (List.getElem?_eq_some_iff.mp h).1
  by_cases hj : n = j
  · subst hj
    rw [List.getElem?_set_self hn, h]
  · rw [List.getElem?_set_ne hj]
theorem draws_run {S : Sto} {n : Nat} {p : Pen} {N k : Nat} {m : Int} (h : S[n]? = some p.ob) (hp : penB p N) (hN : N + k ≤ 2 ^ 200) (h0 : 0 < m) (h8 : m < 2 ^ 62) (hk : k ≤ lim) {tg : Tg} {elt : DE} {ρ : Ev}
    (he : ∀ (i : Nat) (S1 : Sto), ∃ ρ2, tg.asg (.int (0 + (i : Nat))) ρ = some ρ2 ∧ elt ρ2 S1 = r_law_draw [.ref n, .int m] S1) :
    lcV (itRange 0 k) tg tTrue elt ρ big 0 [] S = .ok (.fz ((drawsN p m k).map Dv.int)) (S.set n (penN p m k).ob) := by
  have hn := (List.getElem?_eq_some_iff.mp h).1
  have e := lcV_steps (it := itRange 0 k) (tg := tg) (elt := elt) (ρ := ρ) k (fun i => S.set n (penN p m i).ob) (fun i => .int (draw (penN p m i) m).1) hk (fun i hi => by
    obtain ⟨ρ2, e1, e2⟩ := he i (S.set n (penN p m i).ob)
    refine ⟨_, ρ2, by simp only [itRange, hi, if_true], e1, ?_⟩
    rw [e2, law_draw_run (p := penN p m i) (List.getElem?_set_self hn) (hp.penN m i) (by omega) h0 h8, List.set_set]
    rfl) (by simp [itRange])
  simp only [penN] at e
  rw [set_ob h] at e
  rw [e, drawsN, List.map_map]
  rfl
def difs : List Int → List Int
  | x :: y :: r => (y - x) :: difs (y :: r)
  | _ => []
theorem insI_len (n : Int) : ∀ l : List Int, (insI n l).length = l.length + 1
  | [] => rfl
  | m :: l => by
    unfold insI
    split
    · simp
    · simp [insI_len n l]
theorem sortI_len : ∀ l : List Int, (sortI l).length = l.length
  | [] => rfl
  | m :: l => by simp [sortI, insI_len, sortI_len l]
theorem cut1 {α : Type} (x : Dv) (l : List Dv) : cutD (x :: l) (some 1) none = l := by
  have := HT.sIx_nat (x :: l).length 0 1
  simp only [cutD, HT.sIx_none]
  rw [show (some (1 : Int)) = some ((1 : Nat) : Int) from rfl, this]
  have : min 1 (x :: l).length = 1 := by simp
  rw [this]
  simp
theorem zip_difs {α : Type} (g : Int → α) : ∀ (x : Int) (l : List Int), (((x :: l).zip l).map fun p => g (p.2 - p.1)) = (difs (x :: l)).map g
  | x, [] => rfl
  | x, y :: l => by
    have := zip_difs g y l
    simp only [List.zip_cons_cons, List.map_cons, difs] at this ⊢
    rw [this]
theorem difs_len : ∀ (x : Int) (l : List Int), (difs (x :: l)).length = l.length
  | _, [] => rfl
  | x, y :: l => by simp [difs, difs_len y l]
theorem difs_sum : ∀ (x : Int) (l : List Int) (z : Int), (difs (x :: (l ++ [z]))).sum = z - x
  | x, [], z => by simp [difs]
  | x, y :: l, z => by
    have := difs_sum y l z
    simp only [List.cons_append, difs, List.sum_cons, this]
    omega
theorem difs_nonneg : ∀ (l : List Int), l.Pairwise (· ≤ ·) → ∀ d ∈ difs l, 0 ≤ d
  | [], _, d, h => by simp [difs] at h
  | [_], _, d, h => by simp [difs] at h
  | x :: y :: l, hp, d, h => by
    rw [List.pairwise_cons] at hp
    simp only [difs, List.mem_cons] at h
    rcases h with rfl | h
    · have := hp.1 y (List.mem_cons_self ..)
      omega
    · exact difs_nonneg (y :: l) hp.2 d h
theorem sortI_mem {x : Int} {l : List Int} : x ∈ sortI l ↔ x ∈ l := (sortI_perm l).mem_iff
structure Dr where
  qs : List Rat
  pen : Pen
def chF (p : Pen) : Dr :=
  let b := 1 + (draw p 30).1
  let p1 := (draw p 30).2
  let v := (draw p1 6).1
  let p2 := (draw p1 6).2
  ⟨(difs (0 :: (sortI (drawsN p2 (b + 1) v.toNat) ++ [b]))).map fun d : Int => (d : Rat) / (b : Rat), penN p2 (b + 1) v.toNat⟩
theorem chances_over {b : Int} {ds : List Int} (hb : 0 < b) (h30 : b ≤ 30) (h0 : ∀ d ∈ ds, 0 ≤ d) (hs : ds.sum = b) (hl : 1 ≤ ds.length ∧ ds.length ≤ 6) : Chances (ds.map fun d : Int => (d : Rat) / (b : Rat)) := by
  have hne := ne_cast hb
  have hb0 : (0 : Rat) < (b : Rat) := by exact_mod_cast hb
  refine ⟨by simpa using hl, ?_, ?_, ?_⟩
  · intro q hq
    obtain ⟨d, hd, rfl⟩ := List.mem_map.mp hq
    have h1 : (0 : Rat) ≤ (d : Rat) := by exact_mod_cast h0 d hd
    rw [Rat.div_def]
    exact Rat.mul_nonneg h1 (Rat.le_of_lt (Rat.inv_pos.mpr hb0))
  · have key : ∀ ds : List Int, sumR (ds.map fun d : Int => (d : Rat) / (b : Rat)) = (ds.sum : Rat) / (b : Rat) := by
      intro ds
      induction ds with
      | nil => rw [List.map_nil, sumR_nil, List.sum_nil]; grind
      | cons d ds ih => rw [List.map_cons, sumR_cons, ih, List.sum_cons, Rat.intCast_add]; grind
    rw [key, hs]
    grind
  · have dv : ∀ d : Int, ((d : Rat) / (b : Rat)).den ∣ b.toNat := fun d => by
      have e := (quot_parts (a := d) hb).2
      have h1 : ((Int.gcd d b : Nat) : Int) ∣ b := Int.gcd_dvd_right ..
      have h2 : b = (((d : Rat) / (b : Rat)).den : Int) * (Int.gcd d b : Nat) := by
        rw [e]
        exact (Int.ediv_mul_cancel h1).symm
      refine ⟨Int.gcd d b, ?_⟩
      have h3 : ((b.toNat : Nat) : Int) = ((((d : Rat) / (b : Rat)).den * Int.gcd d b : Nat) : Int) := by
        rw [Int.natCast_mul, ← h2]
        omega
      exact_mod_cast h3
    have key : ∀ (qs : List Rat) (r : Nat), r ∣ b.toNat → (∀ q ∈ qs, q.den ∣ b.toNat) → qs.foldl (fun r q => Nat.lcm r q.den) r ∣ b.toNat := by
      intro qs
      induction qs with
      | nil => intro r h _; exact h
      | cons q qs ih =>
        intro r h h2
        exact ih _ (Nat.lcm_dvd h (h2 q (by simp))) fun p hp => h2 p (by simp [hp])
    have h1 : lcmD (ds.map fun d : Int => (d : Rat) / (b : Rat)) ∣ b.toNat := key _ 1 (Nat.one_dvd _) fun q hq => by
      obtain ⟨d, _, rfl⟩ := List.mem_map.mp hq
      exact dv d
    have := Nat.le_of_dvd (by omega) h1
    omega
theorem chF_chances (p : Pen) : Chances (chF p).qs := by
  simp only [chF]
  have hb := draw_lt p (m := 30) (by decide)
  generalize draw p 30 = q1 at *
  have hv := draw_lt q1.2 (m := 6) (by decide)
  generalize draw q1.2 6 = q2 at *
  have hr := drawsN_lt q2.2 (m := 1 + q1.1 + 1) (by omega) q2.1.toNat
  have hl : (drawsN q2.2 (1 + q1.1 + 1) q2.1.toNat).length = q2.1.toNat := by simp [drawsN]
  generalize drawsN q2.2 (1 + q1.1 + 1) q2.1.toNat = vs at *
  refine chances_over (by omega) (by omega) (difs_nonneg _ ?_) ?_ ?_
  · refine List.pairwise_cons.mpr ⟨fun a ha => ?_, List.pairwise_append.mpr ⟨sortI_sorted _, by simp, fun a ha c hc => ?_⟩⟩
    · rcases List.mem_append.mp ha with ha | ha
      · exact (hr a (sortI_mem.mp ha)).1
      · simp at ha
        omega
    · simp at hc
      have := (hr a (sortI_mem.mp ha)).2
      omega
  · rw [difs_sum]
    omega
  · simp only [difs_len, List.length_append, List.length_cons, List.length_nil, sortI_len, hl]
    omega
theorem chF_pen {p : Pen} {N : Nat} (h : penB p N) : penB (chF p).pen (N + 8) := by
  simp only [chF]
  have h1 := h.draw 30
  have h2 := h1.draw 6
  have hv := draw_lt (draw p 30).2 (m := 6) (by decide)
  have h3 := h2.penN (1 + (draw p 30).1 + 1) (draw (draw p 30).2 6).1.toNat
  exact h3.mono (by omega)
theorem chs_plain (qs : List Rat) : (chs qs).plain = true := by
  simp only [chs, Dv.plain]
  exact frs_plain qs
noncomputable def b_law_chances : DS :=
 (cSeq (cSet 1 (eOp (opAdd false) (eC (.int 1)) (eCall 2 r_law_draw (lCons (eVar 0) (lCons (eC (.int 30)) lNil)))))
 (cSeq (cSet 2 (eOp (opAdd false) (eC (.int 1)) (eCall 2 r_law_draw (lCons (eVar 0) (lCons (eC (.int 6)) lNil)))))
 (cSeq (cSet 3 (eBi (fSorted false) (lCons (eLcV (iRange1 (lCons (eOp opSub (eVar 2) (eC (.int 1))) lNil)) (.nm 5) tTrue (eCall 2 r_law_draw (lCons (eVar 0) (lCons (eOp (opAdd false) (eVar 1) (eC (.int 1))) lNil))) [5]) lNil)))
 (cSeq (cSet 4 (eOp (opAdd false) (eOp (opAdd false) (eLst false (lCons (eC (.int 0)) lNil)) (eVar 3)) (eLst false (lCons (eVar 1) lNil))))
 (cSeq (cRet (eBi fTuple (lCons (eLcV (iZ (lCons (eVar 4) (lCons (eSl false (eVar 4) (oSo (eC (.int 1))) oNo) lNil))) (.tp [(.nm 6), (.nm 7)]) tTrue (eCall 2 r_law_fraction (lCons (eOp opSub (eVar 7) (eVar 6)) (lCons (eVar 1) lNil))) [6, 7]) lNil)))
 cNil)))))
noncomputable def r_law_chances : Den := runF 8 b_law_chances
theorem law_chances_run {S : Sto} {n : Nat} {p : Pen} {N : Nat} (es : S[n]? = some p.ob) (hp : penB p N) (hN2 : N + 100 ≤ 2 ^ 200) : r_law_chances [.ref n] S = .ok (chs (chF p).qs) (S.set n (chF p).pen.ob) := by
  refine f_upd (ρ0 := [some (.ref n), none, none, none, none, none, none, none]) rfl ?_ (Kept.set (Kept.refl S) n rfl) (chs_plain _)
  have hn : n < S.length := (List.getElem?_eq_some_iff.mp es).1
  rcases hq1 : draw p 30 with ⟨v1, p1⟩
  rcases hq2 : draw p1 6 with ⟨v, p2⟩
  have hp1 : penB p1 (N + 1) := by have := hp.draw 30; rwa [hq1] at this
  have hp2 : penB p2 (N + 2) := by have := hp1.draw 6; rwa [hq2] at this
  have hb := draw_lt p (m := 30) (by decide)
  have hv := draw_lt p1 (m := 6) (by decide)
  rw [hq1] at hb
  rw [hq2] at hv
  simp only at hb hv
  have d1 := law_draw_run es hp (by omega) (m := 30) (by decide) (by decide)
  rw [hq1] at d1
  have es1 : (S.set n p1.ob)[n]? = some p1.ob := List.getElem?_set_self hn
  have d2 := law_draw_run es1 hp1 (by omega) (m := 6) (by decide) (by decide)
  rw [List.set_set, hq2] at d2
  have es2 : (S.set n p2.ob)[n]? = some p2.ob := List.getElem?_set_self hn
  have vk : 1 + v - 1 = v := by omega
  have hvl : v.toNat ≤ lim := Nat.le_trans (by omega : v.toNat ≤ 6) (by decide)
  have d3 := draws_run (k := v.toNat) (m := 1 + v1 + 1) (tg := .nm 5) (elt := eCall 2 r_law_draw (lCons (eVar 0) (lCons (eOp (opAdd false) (eVar 1) (eC (.int 1))) lNil))) (ρ := [some (.ref n), some (.int (1 + v1)), some (.int (1 + v)), none, none, none, none, none]) es2 hp2 (by omega) (by omega) (by omega) hvl (fun i S1 => ⟨_, rfl, by
      walk_at "fc"⟩)
  rw [List.set_set] at d3
  simp only at d1 d2 d3
  have rg : rngB v = true := rngB_iff.mpr (by omega)
  have hch : chF p = ⟨(difs (0 :: (sortI (drawsN p2 (1 + v1 + 1) v.toNat) ++ [1 + v1]))).map fun d : Int => (d : Rat) / ((1 + v1 : Int) : Rat), penN p2 (1 + v1 + 1) v.toNat⟩ := by simp only [chF, hq1, hq2]
  rw [hch]
  have hl : (drawsN p2 (1 + v1 + 1) v.toNat).length = v.toNat := by simp [drawsN]
  generalize drawsN p2 (1 + v1 + 1) v.toNat = vs at *
  generalize penN p2 (1 + v1 + 1) v.toNat = p3 at *
  simp only
  have srt : ∀ S1 : Sto, fSorted false [.fz (vs.map Dv.int)] S1 = some (.fz ((sortI vs).map Dv.int), S1) := fun S1 => by
    have h64 : vs.length < 64 := by omega
    simp only [fSorted, listOf, intsOf_map, h64, if_true]
    rfl
  have hsl := sortI_len vs
  generalize sortI vs = ws at *
  have l2 : (1 : Nat) + (ws.map Dv.int).length ≤ lim := Nat.le_trans (by simp; omega : _ ≤ 10) (by decide)
  have l3 : (Dv.int 0 :: ws.map Dv.int).length + 1 ≤ lim := Nat.le_trans (by simp; omega : _ ≤ 10) (by decide)
  generalize hT : S.set n p3.ob = T at *
  have lc := lcV_map (it := itZip (.fz ((0 :: (ws ++ [1 + v1])).map Dv.int)) (.fz ((ws ++ [1 + v1]).map Dv.int))) (tg := .tp [.nm 6, .nm 7]) (elt := eCall 2 r_law_fraction (lCons (eOp opSub (eVar 7) (eVar 6)) (lCons (eVar 1) lNil)))
    (ρ := [some (.ref n), some (.int (1 + v1)), some (.int (1 + v)), some (.fz (ws.map Dv.int)), some (.fz ((0 :: (ws ++ [1 + v1])).map Dv.int)), none, none, none]) (S := T)
    ((0 :: (ws ++ [1 + v1])).zip (ws ++ [1 + v1])) (fun q : Int × Int => .tup [.int q.1, .int q.2]) (fun q => fr (((q.2 - q.1 : Int) : Rat) / ((1 + v1 : Int) : Rat))) (goes_zip (enc := Dv.int) (enc' := Dv.int) rfl rfl) (Nat.le_trans (by simp; omega : _ ≤ 10) (by decide)) fun q hq => ⟨_, rfl, by
      walk_at "fc"
      rw [law_fraction_run (by omega) (by
        have : (1 + v1).natAbs < 2 ^ 5 := by omega
        exact Nat.lt_of_lt_of_le this (Nat.pow_le_pow_right (by decide) (by decide)))]⟩
  rw [zip_difs (fun d : Int => fr ((d : Rat) / ((1 + v1 : Int) : Rat)))] at lc
  have add1 : ∀ S1 : Sto, opAdd false (.fz [.int 0]) (.fz (ws.map Dv.int)) S1 = some (.fz (.int 0 :: ws.map Dv.int), S1) := fun S1 => by
    rw [add_fz, if_pos (by simpa using l2)]
    rfl
  have add2 : ∀ S1 : Sto, opAdd false (.fz (.int 0 :: ws.map Dv.int)) (.fz [.int (1 + v1)]) S1 = some (.fz ((0 :: (ws ++ [1 + v1])).map Dv.int), S1) := fun S1 => by
    rw [add_fz, if_pos (by simpa using l3)]
    simp [mk]
  have cutE : ∀ S1 : Sto, slD false (.fz ((0 :: (ws ++ [1 + v1])).map Dv.int)) (some 1) none S1 = some (.fz ((ws ++ [1 + v1]).map Dv.int), S1) := fun S1 => by
    rw [sl_fz, List.map_cons, cut1 (α := Unit)]
    rfl
  obtain ⟨E, hE⟩ : ∃ E, E = (0 :: (ws ++ [1 + v1])).map Dv.int := ⟨_, rfl⟩
  rw [← hE] at lc
  simp only [← hE] at add2 cutE
  unfold b_law_chances
  refine seq_go (set_go (d := .int (1 + v1)) (S1 := S.set n p1.ob) ?_) (seq_go (set_go (d := .int (1 + v)) (S1 := S.set n p2.ob) ?_) (seq_go (set_go (d := .fz (ws.map Dv.int)) (S1 := T) ?_) (seq_go (set_go (d := .fz E) (S1 := T) ?_) (seq_rt (ret_go ?_)))))
  · walk_at "fc"
    rw [d1]
    walk_at "fc"
  · walk_at "fc"
    rw [d2]
    walk_at "fc"
  · walk_at "fc"
    simp only [eLcV, vk]
    walk_at "fc"
    rw [vk, rg]
    walk_at "fc"
    rw [d3]
    walk_at "fc"
    rw [srt]
  · walk_at "fc"
    rw [add1]
    walk_at "fc"
    rw [add2]
  · walk_at "fc"
    simp only [eLcV, iZ]
    walk_at "fc"
    rw [cutE]
    walk_at "fc"
    simp only [seq_fz]
    walk_at "fc"
    rw [lc]
    walk_at "fc"
    rw [tuple_fz]
    walk_at "fc"
    simp only [chs, List.map_map]
    rfl
end Fc
set_option exponentiation.threshold 256
set_option maxHeartbeats 4000000
set_option maxHeartbeats 4000000
namespace Fc
open PySem L2
theorem lcmD_dvd {M : Nat} : ∀ {qs : List Rat}, (∀ q ∈ qs, q.den ∣ M) → lcmD qs ∣ M := by
  intro qs h
  have key : ∀ (l : List Rat) (r : Nat), r ∣ M → (∀ q ∈ l, q.den ∣ M) → l.foldl (fun r q => Nat.lcm r q.den) r ∣ M := by
    intro l
    induction l with
    | nil => intro r hr _; exact hr
    | cons q l ih => intro r hr hl; exact ih _ (Nat.lcm_dvd hr (hl q (by simp))) fun p hp => hl p (by simp [hp])
  exact key qs 1 (Nat.one_dvd _) h
end Fc
set_option exponentiation.threshold 256
set_option maxHeartbeats 4000000
set_option maxHeartbeats 4000000
namespace Fc
open PySem L2
noncomputable def dQs (d : Dv) : M (List Rat) := match d with
  | .tup ds => match unFrs ds with
    | some qs => .ok qs
    | none => .no
  | _ => .no
theorem xe_dQs {fx : Fx} {Γ : Cxt} {f : DE} {ma : M Dv} {m : M (List Rat)} (h : XE fx Γ f ma (vl encD)) (hm : (ma.bd dQs) = m := by first | rfl | simp only [M.bd_assoc, M.bd_ok]) : XE fx Γ f m (vl (encT fr)) := xe_as h dQs (fun a S d h => by
  have hz' : a = d := Eq.symm h
  clear h
  subst hz'
  cases a with
  | tup ds =>
    simp only [dQs]
    cases e : unFrs ds with
    | none => trivial
    | some qs =>
      show Dv.tup ds = encT fr qs
      rw [unFrs_eq e]
      rfl
  | _ => trivial) hm
def dP (d : Dv) : M (Int × Int) := match d with
  | .tup [.int a, .int b] => .ok (a, b)
  | _ => .no
theorem xe_dP {fx : Fx} {Γ : Cxt} {f : DE} {ma : M Dv} {m : M (Int × Int)} (h : XE fx Γ f ma (vl encD)) (hm : (ma.bd dP) = m := by first | rfl | simp only [M.bd_assoc, M.bd_ok]) : XE fx Γ f m (vl (encP Dv.int Dv.int)) := xe_as h dP (fun a S d h => by
  have hz : a = d := Eq.symm h
  clear h
  subst hz
  have key : ∀ p, dP a = .ok p → a = .tup [.int p.1, .int p.2] := by
    intro p hp
    unfold dP at hp
    split at hp
    · cases hp; rfl
    · cases hp
  have nx : ∀ c, dP a ≠ .exn c := by
    intro c hc
    unfold dP at hc
    split at hc <;> cases hc
  cases hd : dP a with
  | ok p => exact key p hd
  | exn c => exact absurd hd (nx c)
  | no => trivial) hm
end Fc
set_option exponentiation.threshold 256
set_option maxHeartbeats 4000000
set_option maxHeartbeats 4000000
namespace Fc
open PySem L2
def keyPy : Key → PyData
  | .inl i => .int i
  | .inr x => .str x
def scPy : Dv → Option PyData
  | .non => some .none
  | .bl b => some (.bool b)
  | .int i => some (.int i)
  | .str x => some (.str x)
  | _ => none
def dctPy : List (Key × Dv) → Option (List (PyData × PyData))
  | [] => some []
  | (k, d) :: r => match scPy d, dctPy r with
    | some p, some ps => some ((keyPy k, p) :: ps)
    | _, _ => none
def fReprD : OpN := fun ds S => match ds with
  | [.dct kvs] => match dctPy kvs with
    | some ps => if PyData.showable (.dict ps) && decide ((PyData.dict ps).shown.length ≤ lim) && decide ((PyData.dict ps).depth ≤ 64) then some (.str (PyData.dict ps).shown, S) else none
    | none => none
  | ds => fRepr ds S
section
variable {X : Cx} {C : Nat → Addr}
theorem sc_reads {K : PySem.W.Frag} {H : Hp} {μ : Mu} {h : Heap} {d : Dv} {v : V} {u : Value} {p : PyData} (e : scPy d = some p) (r : VR K H μ d v) (ru : RelV v u) : Reads h u p [] := by
  cases d with
  | non => cases e; rw [VR_non.mp r] at ru; cases ru; exact .none
  | bl b => cases e; rw [VR_bl.mp r] at ru; cases ru; exact .bool b
  | int i => cases e; rw [VR_int.mp r] at ru; obtain ⟨t, rfl⟩ := ru; exact .int i t
  | str x => cases e; rw [VR_str.mp r] at ru; obtain ⟨t, rfl⟩ := ru; exact .str x t
  | _ => cases e
theorem dct_reads {P : Program} {w : World} {K : PySem.W.Frag} {H : Hp} {μ : Mu} {h : Heap} : ∀ {kvs : List (Key × Dv)} {kws : List (Key × V)} {vs : List (Key × Value)} {es : List DictEntry} {ps : List (PyData × PyData)},
    dctPy kvs = some ps → VRk K H μ kvs kws → KV kws vs → Pairs (mixKind P w) es vs → ReadsAll h (es.map (·.key)) (ps.map (·.1)) [] ∧ ReadsAll h (es.map (·.val)) (ps.map (·.2)) []
  | [], _, _, _, _, e, r, kv, pr => by
    cases e
    cases VRk_nil.mp r
    cases kv
    cases pr
    exact ⟨.nil, .nil⟩
  | (k, d) :: kvs, _, _, _, _, e, r, kv, pr => by
    obtain ⟨v, r2, rfl, h1, h2⟩ := VRk_cons.mp r
    cases kv with
    | cons q1 q2 =>
      cases pr with
      | cons p1 p2 p3 =>
        simp only [dctPy] at e
        split at e
        · rename_i p ps e1 e2
          cases e
          obtain ⟨t1, t2⟩ := dct_reads (h := h) e2 h2 q2 p3
          obtain ⟨w1, w2⟩ := q1
          simp only at w1 w2 p1 p2
          rw [← p2] at w2
          have rv := sc_reads (h := h) e1 h1 w2
          rw [← w1] at p1
          have rk : ∀ {e : DictEntry}, (mixKind P w).is k e.key = true → Reads h e.key (keyPy k) [] := fun {e} he => by
            rcases keyIs_shape he with ⟨i, t, rfl, e3⟩ | ⟨x, t, rfl, e3⟩
            · rw [e3]; exact .int i t
            · rw [e3]; exact .str x t
          exact ⟨ReadsAll.cons (rk p1) t1, ReadsAll.cons rv t2⟩
        · cases e
theorem cas_reprD (hg : X.A.guards = some []) (hu : X.A.units + 100 < cLine) : CaS X C (.builtin "repr") fReprD := by
  intro pins s σ H vs us Q I r h
  obtain ⟨μ, S, ds, sr, vr, q⟩ := h
  unfold fReprD at q
  split at q
  · rename_i kvs
    split at q
    · rename_i ps e1
      split at q
      · rename_i hc
        simp only [Bool.and_eq_true, decide_eq_true_eq] at hc
        obtain ⟨⟨hsw, hlen⟩, hd⟩ := hc
        obtain ⟨v, t, rfl, h1, h2⟩ := VRs_cons.mp vr
        cases VRs_nil.mp h2
        obtain ⟨u, rfl, ru⟩ := Vals.one r
        obtain ⟨a, kws, rfl, _, ha, hk⟩ := VR_dct.mp h1
        cases ru
        obtain ⟨_, hsm, vs, kv, o, es, ep, ho, hx, hdt, _, pr, _⟩ := dk_of I.hok ha
        obtain ⟨r1, r2⟩ := dct_reads (h := s.heap) e1 hk kv pr
        have tight : (PyData.dict ps).shown.length ≤ sizeLine := Nat.le_trans hlen lim_line
        have fin : ∀ (h' : Heap) (w : Tok) (tk : Nat), (∀ b o, s.heap.get? b = some o → h'.get? b = some o) → EP X pins σ Q (.str (PyData.dict ps).shown w) { s with heap := h', toks := tk } := fun h' w tk kk =>
          ⟨.str _, H, I.kept kk, ⟨w, rfl⟩, old_val sr (VR_str.mpr rfl) q⟩
        exact repr_of_reads' (Reads.dict ho hx.1 hdt r1 r2) hsw (fun _ hm => by
          have : sysModules = a := by simpa using hm
          rw [this] at hsm
          simp at hsm) hg (by omega) (fun _ _ z => z) (fun h' w tk kk => fin h' w tk kk) tight
      · exact q.elim
    · exact q.elim
  · exact cas_repr hg hu pins s σ H vs us Q I r ⟨μ, S, ds, sr, vr, q⟩
end
section
variable {X : Cx} {C : Nat → Addr} {W : WX} {e value : Expr} {fk fv : DE} {pos : Pos}
noncomputable def eD1V (fk fv : DE) : DE := fun ρ S => tidyK S (eD1 fk fv ρ S)
theorem se_d1v (hk : SE X C W e fk) (hv : SE X C W value fv) : SE X C W (.Dict [some e] [value] pos) (eD1V fk fv) := ⟨pe_imp (se_d1 hk hv).pe fun σ H Q q => by
  obtain ⟨μ, ρ, S, rl, q⟩ := q
  exact ⟨μ, ρ, S, rl, tidyK_go rl.sr q⟩⟩
end
theorem reprD_run {d : Dv} {S : Sto} (h : ∀ kvs, d ≠ .dct kvs) : fReprD [d] S = fRepr [d] S := by
  unfold fReprD
  split
  · rename_i kvs e
    cases e
    exact absurd rfl (h kvs)
  · rfl
end Fc
set_option exponentiation.threshold 256
set_option maxHeartbeats 4000000
set_option maxHeartbeats 4000000
namespace Fc
open PySem L2
end Fc
set_option exponentiation.threshold 256
set_option maxHeartbeats 4000000
set_option maxHeartbeats 4000000
set_option exponentiation.threshold 100000
namespace Fc
open PySem L2
noncomputable def b_law_is_whole : DS :=
 (cSeq (cRet (eAnd (eIsi .int (eVar 0)) (eNot (eIsi .bl (eVar 0)))))
 cNil)
noncomputable def r_law_is_whole : Den := runF 1 b_law_is_whole
noncomputable def m_law_is_whole (thing : Dv) : M Bool := (((isiM .int thing)).bd fun c2 => if c2 then ((isiM .bl thing)).bd fun x1 => .ok (!x1) else .ok false)
theorem w_law_is_whole (thing : Dv) : Wp ⟨1, []⟩ (numd 0 [.val (encD thing)]) b_law_is_whole (m_law_is_whole thing) (PF Dv.bl) := by
 unfold b_law_is_whole m_law_is_whole
 exact (w_retF (xe_and (xe_isiD (xe_var encD thing)) (xe_not (xe_isiD (xe_var encD thing)))))
theorem m_law_is_whole_ok (thing : Dv) (S : Sto) (z0 : Dv) (h0 : vl encD thing S z0) : Sim (r_law_is_whole [z0] S) S (m_law_is_whole thing) (vl Dv.bl) := by
 cases h0
 exact fn_ok (.val _ .nil) pl_bl (w_law_is_whole thing)
noncomputable def b_law_is_fraction : DS :=
 (cSeq (cIf (tOr2 (tNot2 (tTs (eIsi .tup (eVar 0)))) (tOr2 (tTs (eOp opNe (eBi fLen (lCons (eVar 0) lNil)) (eC (.int 2)))) (tNot2 (tTs (eBi fAll (lCons (eLcV (iSeq (eVar 0)) (.nm 1) tTrue (eCall 1 r_law_is_whole (lCons (eVar 1) lNil)) [1]) lNil))))))
 (cSeq (cRet (eC (.bl false)))
 cNil)
 cNil)
 (cSeq (cRet (eAnd (eOp opGt (eOp opIx (eVar 0) (eC (.int 1))) (eC (.int 0))) (eOp opEq (eCall 2 r_law_fraction (lCons (eOp opIx (eVar 0) (eC (.int 0))) (lCons (eOp opIx (eVar 0) (eC (.int 1))) lNil))) (eVar 0))))
 cNil))
noncomputable def r_law_is_fraction : Den := runF 2 b_law_is_fraction
noncomputable def m_law_is_fraction (thing : Dv) : M Bool := (((((isiM .tup thing)).bd fun x1 => .ok (!x1)).bd fun c9 => if c9 then .ok true else ((((dSeq thing).bd fun x2 => .ok ((x2.length : Nat) : Int)).bd fun x3 => .ok (!decide (x3 = (2 : Int)))).bd fun c8 => if c8 then .ok true else ((((dSeq thing).bd fun x5 => gl x5 (mapM (fun (y4 : Dv) => (m_law_is_whole y4)) x5))).bd fun x6 => .ok (x6.all id)).bd fun x7 => .ok (!x7)))).bd fun c23 => if c23 then (.ok false) else (((((((dSeq thing).bd fun x10 => ixM x10 (1 : Int))).bd fun x11 => dInt x11).bd fun x12 => .ok (decide ((0 : Int) < x12))).bd fun c22 => if c22 then (((((((dSeq thing).bd fun x13 => ixM x13 (0 : Int))).bd fun x14 => dInt x14).bd fun x17 => ((((dSeq thing).bd fun x15 => ixM x15 (1 : Int))).bd fun x16 => dInt x16).bd fun x18 => m_law_fraction x17 x18)).bd fun x19 => .ok (x19.num, (x19.den : Int))).bd fun x20 => (dP thing).bd fun x21 => .ok (decide (x20 = x21)) else .ok false))
theorem w_law_is_fraction (thing : Dv) : Wp ⟨2, []⟩ (numd 0 [.val (encD thing)]) b_law_is_fraction (m_law_is_fraction thing) (PF Dv.bl) := by
 unfold b_law_is_fraction m_law_is_fraction
 exact (w_if (xt_or (xt_not (xt_of (xe_isiD (xe_var encD thing)))) (xt_or (xt_of (xe_op (xe_bi1 b_len (XE.sqT (xe_dSeq (xe_var encD thing)))) (xe_c Dv.int (2 : Int)) (o_ne eq_int))) (xt_not (xt_of (xe_bi1 b_all (XE.sl (XE.seen (xe_lcM (xi_seq (xq_T (xe_dSeq (xe_var encD thing)))) bnd_nm (fun y4 => (xe_call1 (xe_var encD y4) m_law_is_whole_ok)))))))))) (wp_sq (w_retTF (xe_c Dv.bl false))) (wp_nil (w_retF (xe_and (xe_op (xe_dInt (xe_op (XE.sqT (xe_dSeq (xe_var encD thing))) (xe_c Dv.int (1 : Int)) o_ix)) (xe_c Dv.int (0 : Int)) o_gt) (xe_op (xe_frP (xe_call2 (xe_dInt (xe_op (XE.sqT (xe_dSeq (xe_var encD thing))) (xe_c Dv.int (0 : Int)) o_ix)) (xe_dInt (xe_op (XE.sqT (xe_dSeq (xe_var encD thing))) (xe_c Dv.int (1 : Int)) o_ix)) m_law_fraction_ok)) (xe_dP (xe_var encD thing)) (o_eq (PyE.eqE (py_P py_int py_int))))))))
theorem m_law_is_fraction_ok (thing : Dv) (S : Sto) (z0 : Dv) (h0 : vl encD thing S z0) : Sim (r_law_is_fraction [z0] S) S (m_law_is_fraction thing) (vl Dv.bl) := by
 cases h0
 exact fn_ok (.val _ .nil) pl_bl (w_law_is_fraction thing)
noncomputable def b_law_are_chances : DS :=
 (cSeq (cIf (tOr2 (tNot2 (tTs (eIsi .tup (eVar 0)))) (tNot2 (tTs (eChain opLe opLe (eC (.int 1)) (eBi fLen (lCons (eVar 0) lNil)) (eC (.int 6))))))
 (cSeq (cRet (eC (.bl false)))
 cNil)
 cNil)
 (cSeq (cIf (tOr2 (tTs (eOp opNe (eLcV (iSeq (eVar 0)) (.nm 6) (tOr2 (tNot2 (tTs (eCall 1 r_law_is_fraction (lCons (eVar 6) lNil)))) (tTs (eOp opLt (eOp opIx (eVar 6) (eC (.int 0))) (eC (.int 0))))) (eC (.int 1)) [6]) (eLst false lNil))) (tTs (eOp opNe (eCall 1 r_law_sum (lCons (eVar 0) lNil)) (eTup (lCons (eC (.int 1)) (lCons (eC (.int 1)) lNil))))))
 (cSeq (cRet (eC (.bl false)))
 cNil)
 cNil)
 (cSeq (cSet 1 (eLcV (iSeq (eVar 0)) (.tp [(.nm 3), (.nm 4)]) tTrue (eVar 4) [3, 4]))
 (cSeq (cSet 2 (eLcV (iRange2 (lCons (eC (.int 1)) (lCons (eC (.int 31)) lNil))) (.nm 5) (tTs (eOp opEq (eLcV (iSeq (eVar 1)) (.nm 4) (tTs (eOp opNe (eOp opMod (eVar 5) (eVar 4)) (eC (.int 0)))) (eC (.int 1)) [4]) (eLst false lNil))) (eVar 5) [5]))
 (cSeq (cRet (eOp opNe (eVar 2) (eLst false lNil)))
 cNil)))))
noncomputable def r_law_are_chances : Den := runF 7 b_law_are_chances
noncomputable def m_law_are_chances (thing : Dv) : M Bool := (((((isiM .tup thing)).bd fun x1 => .ok (!x1)).bd fun c5 => if c5 then .ok true else ((((dSeq thing).bd fun x2 => .ok ((x2.length : Nat) : Int)).bd fun x3 => .ok (decide ((1 : Int) ≤ x3) && decide (x3 ≤ (6 : Int))))).bd fun x4 => .ok (!x4))).bd fun c26 => if c26 then (.ok false) else (((((((dSeq thing).bd fun x12 => gl x12 (filM (fun (y6 : Dv) => ((((m_law_is_fraction y6)).bd fun x7 => .ok (!x7)).bd fun c11 => if c11 then .ok true else ((((dSeq y6).bd fun x8 => ixM x8 (0 : Int))).bd fun x9 => dInt x9).bd fun x10 => .ok (decide (x10 < (0 : Int))))) (fun (y6 : Dv) => (.ok (1 : Int))) x12))).bd fun x13 => .ok (!decide (x13 = ([] : List Int)))).bd fun c17 => if c17 then .ok true else (((dQs thing).bd fun x14 => m_law_sum x14)).bd fun x15 => (mkFr ((1 : Int), (1 : Int))).bd fun x16 => .ok (!decide (x15 = x16)))).bd fun c25 => if c25 then (.ok false) else ((((dQs thing).bd fun x19 => gl x19 (.ok (x19.map fun (y18 : Rat) => (y18.den : Int))))).bd fun bottoms => (((rng2M (1 : Int) (31 : Int)).bd fun x24 => gl x24 (filM (fun (y20 : Int) => ((gl bottoms (filM (fun (y21 : Int) => ((modM y20 y21)).bd fun x22 => .ok (!decide (x22 = (0 : Int)))) (fun (y21 : Int) => (.ok (1 : Int))) bottoms))).bd fun x23 => .ok (decide (x23 = ([] : List Int)))) (fun (y20 : Int) => (.ok y20)) x24))).bd fun fits => .ok (!decide (fits = ([] : List Int)))))
theorem w_law_are_chances (thing : Dv) : Wp ⟨7, []⟩ (numd 0 [.val (encD thing)]) b_law_are_chances (m_law_are_chances thing) (PF Dv.bl) := by
 unfold b_law_are_chances m_law_are_chances
 exact (w_if (xt_or (xt_not (xt_of (xe_isiD (xe_var encD thing)))) (xt_not (xt_of (xe_chainM o_le o_le (xe_c Dv.int (1 : Int)) (xe_bi1 b_len (XE.sqT (xe_dSeq (xe_var encD thing)))) (xe_c Dv.int (6 : Int)))))) (wp_sq (w_retTF (xe_c Dv.bl false))) (wp_nil (w_if (xt_or (xt_of (xe_op (XE.sl (XE.seen (xe_lc (xi_seq (xq_T (xe_dSeq (xe_var encD thing)))) bnd_nm (fun y6 => (xt_or (xt_not (xt_of (xe_call1 (xe_var encD y6) m_law_is_fraction_ok))) (xt_of (xe_op (xe_dInt (xe_op (XE.sqT (xe_dSeq (xe_var encD y6))) (xe_c Dv.int (0 : Int)) o_ix)) (xe_c Dv.int (0 : Int)) o_lt)))) (fun y6 => (xe_c Dv.int (1 : Int))) rfl))) (XE.sl (XE.seen (xe_lstL (m := .ok ([] : List Int)) xh_nil (by simp [gd, lim])))) (o_neL py_int (by decide)))) (xt_of (xe_op (xe_call1 (xe_dQs (xe_var encD thing)) m_law_sum_ok) (xe_mkFr (xe_tup2 (xe_c Dv.int (1 : Int)) (xe_c Dv.int (1 : Int)))) (o_ne (PyE.eqE py_fr))))) (wp_sq (w_retTF (xe_c Dv.bl false))) (wp_nil (w_set 1 (xe_lcT (xi_seq (xq_T (xe_dQs (xe_var encD thing)))) (bnd_fr bnd_nm (fun _ => bnd_nm)) (fun y18 => (xe_var Dv.int (y18.den : Int)))) (fun bottoms => (w_set 2 (xe_lc (xi_range2 (xe_c Dv.int (1 : Int)) (xe_c Dv.int (31 : Int))) bnd_nm (fun y20 => (xt_of (xe_op (XE.sl (XE.seen (xe_lc (xi_seq (xq_L (xe_var (encL Dv.int) bottoms))) bnd_nm (fun y21 => (xt_of (xe_op (xe_op (xe_var Dv.int y20) (xe_var Dv.int y21) o_mod) (xe_c Dv.int (0 : Int)) (o_ne eq_int)))) (fun y21 => (xe_c Dv.int (1 : Int))) rfl))) (XE.sl (XE.seen (xe_lstL (m := .ok ([] : List Int)) xh_nil (by simp [gd, lim])))) (o_eqL py_int (by decide))))) (fun y20 => (xe_var Dv.int y20)) rfl) (fun fits => (w_retTF (xe_op (XE.sl (XE.seen (xe_var (encL Dv.int) fits))) (XE.sl (XE.seen (xe_lstL (m := .ok ([] : List Int)) xh_nil (by simp [gd, lim])))) (o_neL py_int (by decide))))))))))))
theorem m_law_are_chances_ok (thing : Dv) (S : Sto) (z0 : Dv) (h0 : vl encD thing S z0) : Sim (r_law_are_chances [z0] S) S (m_law_are_chances thing) (vl Dv.bl) := by
 cases h0
 exact fn_ok (.val _ .nil) pl_bl (w_law_are_chances thing)
theorem dsT (l : List Dv) : dSeq (.tup l) = .ok l := rfl
def isI : Dv → Bool
  | .int _ => true
  | _ => false
theorem whole_eq {d : Dv} (h : okT [] d = true) : m_law_is_whole d = .ok (isI d) := by
  unfold m_law_is_whole isiM
  cases d with
  | ref n => cases h
  | obj c x => cases h
  | _ => rfl
theorem tup_not {d : Dv} (h : okT [] d = true) (ht : ∀ ds, d ≠ .tup ds) (hn : ∀ ds, d ≠ .ntp ds) : isiM .tup d = .ok false := by
  unfold isiM
  cases d with
  | ref n => cases h
  | obj c x => cases h
  | tup ds => exact absurd rfl (ht ds)
  | ntp ds => exact absurd rfl (hn ds)
  | _ => rfl
theorem fracL_eq {d : Dv} (h : okF [] d = true) : m_law_is_fraction d = .ok (isFr d).isSome := by
  by_cases hd : ∃ ds, d = .tup ds
  · obtain ⟨ds, rfl⟩ := hd
    have it : isiM .tup (.tup ds) = .ok true := rfl
    by_cases hl : ds.length = 2
    · match ds, hl with
      | [a, b], _ =>
        simp only [okF, List.all_cons, List.all_nil, Bool.and_true, Bool.and_eq_true] at h
        have w : mapM (fun (y4 : Dv) => m_law_is_whole y4) [a, b] = .ok [isI a, isI b] := by
          simp only [mapM, whole_eq h.1.1, whole_eq h.2.1, M.bdN_ok, M.bd_ok]
        have g : gl [a, b] (mapM (fun (y4 : Dv) => m_law_is_whole y4) [a, b]) = .ok [isI a, isI b] := by rw [gl_100 (by simp), w]
        by_cases hi : isI a = true ∧ isI b = true
        · obtain ⟨i, rfl⟩ : ∃ i, a = .int i := by cases a <;> simp [isI] at hi; exact ⟨_, rfl⟩
          obtain ⟨j, rfl⟩ : ∃ j, b = .int j := by cases b <;> simp [isI] at hi; exact ⟨_, rfl⟩
          have e0 : ixM [Dv.int i, Dv.int j] (0 : Int) = .ok (.int i) := ixM_nat (j := 0) rfl
          have e1 : ixM [Dv.int i, Dv.int j] (1 : Int) = .ok (.int j) := ixM_nat (j := 1) rfl
          have dp : dP (.tup [.int i, .int j]) = .ok (i, j) := rfl
          have al : ([isI (.int i), isI (.int j)] : List Bool).all id = true := rfl
          have l2 : decide ((([Dv.int i, Dv.int j] : List Dv).length : Int) = 2) = true := rfl
          simp only [m_law_is_fraction, it, M.bd_ok, Bool.not_true, Bool.false_eq_true, if_false, dsT, l2, g, al, e0, e1, dInt]
          by_cases hj : 0 < j
          · have hb : j.natAbs < 2 ^ 8000 := Nat.lt_of_lt_of_le (show j.natAbs < 2 ^ 600 from of_decide_eq_true h.2.2) (Nat.pow_le_pow_right (by decide) (by decide))
            simp only [hj, decide_true, if_true, fraction_eq hj hb, M.bd_ok, dp]
            obtain ⟨p1, p2⟩ := quot_parts (a := i) hj
            congr 1
            by_cases hg : Int.gcd i j = 1
            · rw [hg] at p1 p2
              simp only [isFr, hj, hg, and_self, if_true, Option.isSome_some]
              rw [p1, p2]
              simp
            · simp only [isFr, hj, hg, and_false, if_false, Option.isSome_none]
              refine decide_eq_false fun e => hg ?_
              have e2 := congrArg Prod.snd e
              simp only at e2
              rw [p2] at e2
              have gp : 0 < Int.gcd i j := Int.gcd_pos_of_ne_zero_right _ (by omega)
              have dv : ((Int.gcd i j : Nat) : Int) ∣ j := Int.gcd_dvd_right ..
              have e3 := Int.ediv_mul_cancel dv
              rw [e2] at e3
              have : j * ((Int.gcd i j : Nat) : Int) = j * 1 := by omega
              have := Int.eq_of_mul_eq_mul_left (by omega) this
              omega
          · simp only [hj, decide_false, Bool.false_eq_true, if_false]
            have : ¬ (0 < j ∧ Int.gcd i j = 1) := fun z => hj z.1
            simp [isFr, this]
        · have al : ([isI a, isI b] : List Bool).all id = false := by
            simp only [List.all_cons, List.all_nil, Bool.and_true, id_eq]
            cases ha : isI a <;> cases hb : isI b <;> simp_all
          have l2 : decide ((([a, b] : List Dv).length : Int) = 2) = true := rfl
          simp only [m_law_is_fraction, it, M.bd_ok, Bool.not_true, Bool.false_eq_true, if_false, dsT, l2, g, al, Bool.not_false, if_true]
          have : isFr (.tup [a, b]) = none := by
            unfold isFr
            split
            · rename_i x y e
              cases e
              exact absurd ⟨rfl, rfl⟩ hi
            · rfl
          rw [this]
          rfl
    · have l2 : decide (((ds.length : Nat) : Int) = 2) = false := decide_eq_false (by omega)
      simp only [m_law_is_fraction, it, M.bd_ok, Bool.not_true, Bool.false_eq_true, if_false, dsT, l2, Bool.not_false, if_true]
      have : isFr (.tup ds) = none := by
        unfold isFr
        split
        · rename_i a b heq
          cases heq
          exact absurd rfl hl
        · rfl
      rw [this]
      rfl
  · have it := tup_not (okF_T h) (fun ds e => hd ⟨ds, e⟩) (fun ds e => by subst e; cases h)
    simp only [m_law_is_fraction, it, M.bd_ok, Bool.not_false, if_true]
    have : isFr d = none := by
      unfold isFr
      split
      · rename_i a b
        exact absurd ⟨_, rfl⟩ hd
      · rfl
    rw [this]
    rfl
theorem fits_iff {qs : List Rat} : (((List.range 30).map fun i : Nat => (i : Int) + 1).filter fun n => (qs.map fun q => (q.den : Int)).all fun b => decide (n % b = 0)) ≠ [] ↔ lcmD qs ≤ 30 := by
  constructor
  · intro h
    obtain ⟨n, hn⟩ := List.exists_mem_of_ne_nil _ h
    obtain ⟨h1, h2⟩ := List.mem_filter.mp hn
    obtain ⟨i, hi, rfl⟩ := List.mem_map.mp h1
    have hi := List.mem_range.mp hi
    have dv : lcmD qs ∣ i + 1 := lcmD_dvd fun q hq => by
      have := of_decide_eq_true (List.all_eq_true.mp h2 _ (List.mem_map_of_mem (f := fun q : Rat => (q.den : Int)) hq))
      have := Int.dvd_of_emod_eq_zero this
      exact Int.ofNat_dvd.mp (by simpa using this)
    have := Nat.le_of_dvd (by omega) dv
    omega
  · intro h e
    have hp := lcm_pos qs
    have hm : ((lcmD qs : Nat) : Int) ∈ (((List.range 30).map fun i : Nat => (i : Int) + 1).filter fun n => (qs.map fun q => (q.den : Int)).all fun b => decide (n % b = 0)) := by
      refine List.mem_filter.mpr ⟨List.mem_map.mpr ⟨lcmD qs - 1, List.mem_range.mpr (by omega), by omega⟩, List.all_eq_true.mpr fun b hb => ?_⟩
      obtain ⟨q, hq, rfl⟩ := List.mem_map.mp hb
      exact decide_eq_true (Int.emod_eq_zero_of_dvd (Int.ofNat_dvd.mpr (den_dvd hq)))
    rw [e] at hm
    cases hm
theorem are_eq {d : Dv} (h : okC [] d = true) : m_law_are_chances d = .ok (isCh d) := by
  by_cases hd : ∃ ds, d = .tup ds
  · obtain ⟨ds, rfl⟩ := hd
    have it : isiM .tup (.tup ds) = .ok true := rfl
    simp only [okC, List.all_eq_true] at h
    by_cases hl : 1 ≤ ds.length ∧ ds.length ≤ 6
    · have l1 : (decide ((1 : Int) ≤ ((ds.length : Nat) : Int)) && decide (((ds.length : Nat) : Int) ≤ (6 : Int))) = true := by simp; omega
      have fl := filM_ok (c := fun (y6 : Dv) => ((((m_law_is_fraction y6)).bd fun x7 => .ok (!x7)).bd fun c11 => if c11 then .ok true else ((((dSeq y6).bd fun x8 => ixM x8 (0 : Int))).bd fun x9 => dInt x9).bd fun x10 => .ok (decide (x10 < (0 : Int))))) (f := fun (y6 : Dv) => (.ok (1 : Int))) (fun y => !goodF y) (fun _ => (1 : Int)) (xs := ds) fun y hy => by
        refine ⟨?_, fun _ => rfl⟩
        simp only [fracL_eq (h y hy), M.bd_ok]
        cases e : isFr y with
        | none => simp [goodF, e]
        | some q =>
          have := isFr_eq e
          subst this
          have e0 : ixM [Dv.int q.num, Dv.int (q.den : Int)] (0 : Int) = .ok (.int q.num) := ixM_nat (j := 0) rfl
          have ds0 : dSeq (fr q) = .ok [Dv.int q.num, Dv.int (q.den : Int)] := rfl
          have g0 : goodF (fr q) = decide (0 ≤ q) := by simp only [goodF, isFr_fr]
          rw [g0]
          simp only [Option.isSome_some, Bool.not_true, Bool.false_eq_true, if_false, ds0, M.bd_ok, e0, dInt]
          congr 1
          by_cases hq : 0 ≤ q
          · have := Rat.num_nonneg.mpr hq
            simp [hq] <;> omega
          · have : ¬ 0 ≤ q.num := fun z => hq (Rat.num_nonneg.mp z)
            simp [hq] <;> omega
      have f0 : gl ds (filM (fun (y6 : Dv) => ((((m_law_is_fraction y6)).bd fun x7 => .ok (!x7)).bd fun c11 => if c11 then .ok true else ((((dSeq y6).bd fun x8 => ixM x8 (0 : Int))).bd fun x9 => dInt x9).bd fun x10 => .ok (decide (x10 < (0 : Int))))) (fun (y6 : Dv) => (.ok (1 : Int))) ds) = .ok ((ds.filter fun y => !goodF y).map fun _ => (1 : Int)) := by rw [gl_100 (by omega), fl]
      cases hA : ds.all goodF with
      | false =>
        have e3 : isCh (.tup ds) = false := by
          cases e : isCh (.tup ds) with
          | false => rfl
          | true =>
            obtain ⟨qs, e1, e2⟩ := isCh_eq e
            cases e1
            have : (qs.map fr).all goodF = true := by
              simp only [List.all_map, List.all_eq_true, Function.comp_apply]
              intro q hq
              simp [goodF, isFr_fr, e2.nn q hq]
            rw [this] at hA
            cases hA
        have ne : decide (((ds.filter fun y => !goodF y).map fun _ => (1 : Int)) = []) = false := decide_eq_false fun e => by
          have e := List.map_eq_nil_iff.mp e
          have : ds.all goodF = true := List.all_eq_true.mpr fun y hy => by
            have := (List.filter_eq_nil_iff.mp e) y hy
            simpa using this
          rw [this] at hA
          cases hA
        rw [e3]
        simp only [m_law_are_chances, it, M.bd_ok, Bool.not_true, Bool.false_eq_true, if_false, dsT, l1, f0, ne, Bool.not_false, if_true]
      | true =>
        have hg := List.all_eq_true.mp hA
        obtain ⟨qs, rfl⟩ := unFrs_all ds fun d hd => by
          have := hg d hd
          unfold goodF at this
          cases e : isFr d with
          | none => rw [e] at this; cases this
          | some q => rfl
        have nn : ∀ q ∈ qs, 0 ≤ q := fun q hq => by
          have := hg (fr q) (List.mem_map_of_mem hq)
          simpa [goodF, isFr_fr] using this
        have bd : ∀ q ∈ qs, Bd 600 q := fun q hq => okF_bd (h (fr q) (List.mem_map_of_mem hq))
        rw [List.length_map] at hl
        have nil : (((qs.map fr).filter fun y => !goodF y).map fun _ => (1 : Int)) = [] := List.map_eq_nil_iff.mpr (List.filter_eq_nil_iff.mpr fun y hy => by simpa using hg y hy)
        have ne : decide ((((qs.map fr).filter fun y => !goodF y).map fun _ => (1 : Int)) = []) = true := decide_eq_true nil
        have dq : dQs (.tup (qs.map fr)) = .ok qs := by simp only [dQs, unFrs_map]
        have su := sum_eq (qs := qs) (by omega) (fun pre post e => by
          have hpl : pre.length ≤ 6 := by
            have := congrArg List.length e
            rw [List.length_append] at this
            omega
          refine (sum_bd (k := 600) fun q hq => bd q (by rw [e]; simp [hq])).mono ?_
          have := Nat.mul_le_mul_left 601 hpl
          omega) fun q hq => (bd q hq).mono (by decide)
        have m1 : mkFr ((1 : Int), (1 : Int)) = .ok 1 := mkFr_q 1
        have ic : isCh (.tup (qs.map fr)) = decide (Chances qs) := by simp only [isCh, unFrs_map]
        rw [ic]
        by_cases h1 : sumR qs = 1
        · have bl : ((qs.map fun (y18 : Rat) => (y18.den : Int))).length ≤ 1000 := by rw [List.length_map]; omega
          have b0 : gl qs (.ok (qs.map fun (y18 : Rat) => (y18.den : Int))) = .ok (qs.map fun (y18 : Rat) => (y18.den : Int)) := gl_100 (by omega)
          have r0 : rng2M (1 : Int) (31 : Int) = .ok ((List.range 30).map fun i : Nat => (i : Int) + 1) := by rw [rng2M_ok (by omega) (by omega)]; rfl
          have inn : ∀ y20 : Int, gl (qs.map fun (y18 : Rat) => (y18.den : Int)) (filM (fun (y21 : Int) => ((modM y20 y21)).bd fun x22 => .ok (!decide (x22 = (0 : Int)))) (fun (y21 : Int) => (.ok (1 : Int))) (qs.map fun (y18 : Rat) => (y18.den : Int))) = .ok (((qs.map fun (y18 : Rat) => (y18.den : Int)).filter fun b => !decide (y20 % b = 0)).map fun _ => (1 : Int)) := fun y20 => by
            rw [gl_100 bl, filM_ok (fun b => !decide (y20 % b = 0)) (fun _ => (1 : Int)) fun b hb => ?_]
            obtain ⟨q, hq, rfl⟩ := List.mem_map.mp hb
            have := q.den_pos
            exact ⟨by rw [modM_ok (by omega)]; rfl, fun _ => rfl⟩
          have out := filM_ok (c := fun (y20 : Int) => ((gl (qs.map fun (y18 : Rat) => (y18.den : Int)) (filM (fun (y21 : Int) => ((modM y20 y21)).bd fun x22 => .ok (!decide (x22 = (0 : Int)))) (fun (y21 : Int) => (.ok (1 : Int))) (qs.map fun (y18 : Rat) => (y18.den : Int))))).bd fun x23 => .ok (decide (x23 = ([] : List Int)))) (f := fun (y20 : Int) => (.ok y20)) (fun n => (qs.map fun q => (q.den : Int)).all fun b => decide (n % b = 0)) (fun n => n) (xs := (List.range 30).map fun i : Nat => (i : Int) + 1) fun n _ => by
            refine ⟨?_, fun _ => rfl⟩
            rw [inn, M.bd_ok]
            congr 1
            rw [Bool.eq_iff_iff, decide_eq_true_iff, List.map_eq_nil_iff, List.filter_eq_nil_iff, List.all_eq_true]
            simp
          have o0 : gl ((List.range 30).map fun i : Nat => (i : Int) + 1) (filM (fun (y20 : Int) => ((gl (qs.map fun (y18 : Rat) => (y18.den : Int)) (filM (fun (y21 : Int) => ((modM y20 y21)).bd fun x22 => .ok (!decide (x22 = (0 : Int)))) (fun (y21 : Int) => (.ok (1 : Int))) (qs.map fun (y18 : Rat) => (y18.den : Int))))).bd fun x23 => .ok (decide (x23 = ([] : List Int)))) (fun (y20 : Int) => (.ok y20)) ((List.range 30).map fun i : Nat => (i : Int) + 1)) = _ := (gl_100 (by simp)).trans out
          simp only [m_law_are_chances, it, M.bd_ok, Bool.not_true, Bool.false_eq_true, if_false, dsT, l1, f0, ne, dq, su, m1, h1, decide_true, b0, r0, o0, List.map_id']
          congr 1
          rw [Bool.eq_iff_iff, decide_eq_true_iff]
          have fi := fits_iff (qs := qs)
          constructor
          · intro z
            exact ⟨hl, nn, h1, fi.mp fun e => by
              rw [e] at z
              simp at z⟩
          · intro z
            have := decide_eq_false (fi.mpr z.bot)
            rw [this]
            rfl
        · have hc : decide (Chances qs) = false := decide_eq_false fun z => h1 z.one
          rw [hc]
          simp only [m_law_are_chances, it, M.bd_ok, Bool.not_true, Bool.false_eq_true, if_false, dsT, l1, f0, ne, dq, su, m1, h1, decide_false, Bool.not_false, if_true]
    · have l1 : (decide ((1 : Int) ≤ ((ds.length : Nat) : Int)) && decide (((ds.length : Nat) : Int) ≤ (6 : Int))) = false := by
        rw [Bool.and_eq_false_iff]
        by_cases a : 1 ≤ ds.length
        · exact .inr (decide_eq_false (by omega))
        · exact .inl (decide_eq_false (by omega))
      simp only [m_law_are_chances, it, M.bd_ok, Bool.not_true, Bool.false_eq_true, if_false, dsT, l1, Bool.not_false, if_true]
      congr 1
      cases e : isCh (.tup ds) with
      | false => rfl
      | true =>
        obtain ⟨qs, e1, e2⟩ := isCh_eq e
        cases e1
        rw [List.length_map] at hl
        exact absurd e2.many hl
  · have ok : okT [] d = true := by
      cases d with
      | tup ds => rfl
      | ntp ds => cases h
      | _ => exact h
    have it := tup_not ok (fun ds e => hd ⟨ds, e⟩) (fun ds e => by subst e; cases h)
    have : isCh d = false := by
      cases e : isCh d with
      | false => rfl
      | true =>
        obtain ⟨qs, e1, e2⟩ := isCh_eq e
        exact absurd ⟨_, e1⟩ hd
    rw [this]
    simp only [m_law_are_chances, it, M.bd_ok, Bool.not_false, if_true]
end Fc
set_option exponentiation.threshold 256
set_option maxHeartbeats 4000000
set_option maxHeartbeats 4000000
set_option exponentiation.threshold 100000
namespace Fc
open PySem L2
local macro_rules | `(tactic| walk_at "fc") => `(tactic| try simp only [runB, cSeq, cNil, cRet, cRetN, cExpr, cIf, cSet, cAsg, cPar, cAug, cRaise, cStore, cPass, cWipe, wipeD, toS_ok, toS_exn, toS_stuck, Res.bd_ok, Res.bd_exn, Res.bd_stuck, Res.bdN_ok, Res.bdN_exn, Res.bdN_stuck,
  eVar, eC, eTup, eLst, eOp, eChain, eUn, eAnd, eOr, eNot, eIf, eRep, tTs, tAnd2, tOr2, tNot2, tTrue, eCall, eBi, eIsi, eMtL, eSl, oNo, oSo, lNil, lCons, iSeq, iRange1, iRange2, zAdd, zSub, zMul, zDiv, zMod, ofO, opInt, opIn, opNotIn, opEq, opNe, opIs, opIsnt, mk_t, mk_f,
  List.map_cons, List.map_nil, List.length_cons, List.length_nil, List.replicate, List.append_nil, List.nil_append, List.cons_append, List.getElem?_cons_zero, List.getElem?_cons_succ, List.getElem?_nil, List.set_cons_zero, List.set_cons_succ, List.set_nil, lm0, lm1, lm2, lm3, lm4, lm5, lm6, lm7, lm8, lm9, asg_nm, asg_tp, asgs_nil, asgs_cons, Option.bind_some, Option.bind_none, Option.map_some, Option.map_none,
  Nat.reduceSub, Nat.reduceAdd, Nat.zero_add, Nat.add_zero, Nat.sub_self, if_true, if_false, reduceIte, Bool.false_eq_true, Bool.true_eq_false, Bool.not_true, Bool.not_false, ix_tup, ix_fz, at0, at1, at2, eDNew, eDGet, eDGet2, eDIn, eDPop, cDPut, cAugS, cSub2, dic_ref, keyOf, reduceCtorEq, opPow, opMul, zMul])
local macro_rules | `(tactic| walk_at "fo") => `(tactic| try simp only [*, runB, cSeq, cNil, cRet, cRetN, cExpr, cIf, cSet, cAsg, cPar, cAug, cRaise, cStore, cPass, cWipe, wipeD, toS_ok, toS_exn, toS_stuck, Res.bd_ok, Res.bd_exn, Res.bd_stuck, Res.bdN_ok, Res.bdN_exn, Res.bdN_stuck,
  eVar, eC, eTup, eLst, eOp, eChain, eUn, eAnd, eOr, eNot, eIf, eRep, tTs, tAnd2, tOr2, tNot2, tTrue, eCall, eBi, eIsi, eMtL, eSl, oNo, oSo, lNil, lCons, iSeq, iRange1, iRange2, zAdd, zSub, zMul, zDiv, zMod, ofO, opInt, opIn, opNotIn, opEq, opNe, opIs, opIsnt, mk_t, mk_f,
  List.map_cons, List.map_nil, List.length_cons, List.length_nil, List.replicate, List.append_nil, List.nil_append, List.cons_append, List.getElem?_cons_zero, List.getElem?_cons_succ, List.getElem?_nil, List.set_cons_zero, List.set_cons_succ, List.set_nil, lm0, lm1, lm2, lm3, lm4, lm5, lm6, lm7, lm8, lm9, asg_nm, asg_tp, asgs_nil, asgs_cons, Option.bind_some, Option.bind_none, Option.map_some, Option.map_none,
  Nat.reduceSub, Nat.reduceAdd, Nat.zero_add, Nat.add_zero, Nat.sub_self, if_true, if_false, reduceIte, Bool.false_eq_true, Bool.true_eq_false, Bool.not_true, Bool.not_false, ix_tup, ix_fz, at0, at1, at2, eDNew, eDGet, eDGet2, eDIn, eDPop, cDPut, cAugS, cSub2, dic_ref, keyOf, reduceCtorEq, and_self, Bool.and_self, decide_true, decide_false, List.append_assoc, List.length_append, Nat.add_assoc, at_new, at_newk, add_fz, add_rf, add_tt, ix_ref, seq_ref, list_ref, seq_tup, seq_fz, list_fz, ix_tup, ix_fz, neg_int, app_ref, set_newk, set_new0, iZ, iEn, sl_tup, sl_fz, eLcV, len_tup, len_ref, len_fz, tuple_fz, tuple_ref, ty_non, ty_bl, ty_int, ty_str, ty_tup, ty_fz, opPow, opMul, zMul])
local macro_rules | `(tactic| walk_at "fg") => `(tactic| try simp only [*, runB, cSeq, cNil, cRet, cRetN, cExpr, cIf, cSet, cAsg, cPar, cAug, cRaise, cStore, cPass, cWipe, wipeD, toS_ok, toS_exn, toS_stuck, Res.bd_ok, Res.bd_exn, Res.bd_stuck, Res.bdN_ok, Res.bdN_exn, Res.bdN_stuck,
  eVar, eC, eTup, eLst, eOp, eChain, eUn, eAnd, eOr, eNot, eIf, eRep, tTs, tAnd2, tOr2, tNot2, tTrue, eCall, eBi, eIsi, eMtL, eSl, oNo, oSo, lNil, lCons, iSeq, iRange1, iRange2, zAdd, zSub, zMul, zDiv, zMod, ofO, opInt, opIn, opNotIn, opEq, opNe, opIs, opIsnt, mk_t, mk_f,
  List.map_cons, List.map_nil, List.length_cons, List.length_nil, List.replicate, List.append_nil, List.nil_append, List.cons_append, List.getElem?_cons_zero, List.getElem?_cons_succ, List.getElem?_nil, List.set_cons_zero, List.set_cons_succ, List.set_nil, lm0, lm1, lm2, lm3, lm4, lm5, lm6, lm7, lm8, lm9, asg_nm, asg_tp, asgs_nil, asgs_cons, Option.bind_some, Option.bind_none, Option.map_some, Option.map_none,
  Nat.reduceSub, Nat.reduceAdd, Nat.zero_add, Nat.add_zero, Nat.sub_self, if_true, if_false, reduceIte, Bool.false_eq_true, Bool.true_eq_false, Bool.not_true, Bool.not_false, ix_tup, ix_fz, at0, at1, at2, eDNew, eDGet, eDGet2, eDIn, eDPop, cDPut, cAugS, cSub2, dic_ref, keyOf, reduceCtorEq, and_self, Bool.and_self, decide_true, decide_false, List.append_assoc, List.length_append, Nat.add_assoc, at_new, at_newk, add_fz, add_rf, add_tt, ix_ref, seq_ref, list_ref, seq_tup, seq_fz, list_fz, ix_tup, ix_fz, neg_int, app_ref, set_newk, set_new0, iZ, iEn, sl_tup, sl_fz, eLcV, len_tup, len_ref, len_fz, tuple_fz, tuple_ref, ty_non, ty_bl, ty_int, ty_str, ty_tup, ty_fz, opPow, opMul, zMul])
local macro_rules | `(tactic| walk_at "fs") => `(tactic| try simp [runB, cSeq, cNil, cRet, cRetN, cExpr, cIf, cSet, cAsg, cPar, cAug, cRaise, cStore, cPass, cWipe, wipeD, toS_ok, toS_exn, toS_stuck, Res.bd_ok, Res.bd_exn, Res.bd_stuck, Res.bdN_ok, Res.bdN_exn, Res.bdN_stuck,
  eVar, eC, eTup, eLst, eOp, eChain, eUn, eAnd, eOr, eNot, eIf, eRep, tTs, tAnd2, tOr2, tNot2, tTrue, eCall, eBi, eIsi, eMtL, eSl, oNo, oSo, lNil, lCons, iSeq, iRange1, iRange2, zAdd, zSub, zMul, zDiv, zMod, ofO, opInt, opIn, opNotIn, opEq, opNe, opIs, opIsnt, mk_t, mk_f,
  List.map_cons, List.map_nil, List.length_cons, List.length_nil, List.replicate, List.append_nil, List.nil_append, List.cons_append, List.getElem?_cons_zero, List.getElem?_cons_succ, List.getElem?_nil, List.set_cons_zero, List.set_cons_succ, List.set_nil, lm0, lm1, lm2, lm3, lm4, lm5, lm6, lm7, lm8, lm9, asg_nm, asg_tp, asgs_nil, asgs_cons, Option.bind_some, Option.bind_none, Option.map_some, Option.map_none,
  Nat.reduceSub, Nat.reduceAdd, Nat.zero_add, Nat.add_zero, Nat.sub_self, if_true, if_false, reduceIte, Bool.false_eq_true, Bool.true_eq_false, Bool.not_true, Bool.not_false, ix_tup, ix_fz, at0, at1, at2, eDNew, eDGet, eDGet2, eDIn, eDPop, cDPut, cAugS, cSub2, dic_ref, keyOf, reduceCtorEq, and_self, Bool.and_self, decide_true, decide_false, List.append_assoc, List.length_append, Nat.add_assoc, at_new, at_newk, add_fz, add_rf, add_tt, ix_ref, seq_ref, list_ref, seq_tup, seq_fz, list_fz, ix_tup, ix_fz, neg_int, app_ref, set_newk, set_new0, iZ, iEn, sl_tup, sl_fz, eLcV, len_tup, len_ref, len_fz, tuple_fz, tuple_ref, ty_non, ty_bl, ty_int, ty_str, ty_tup, ty_fz, isT, eqD_int, at0, at1, opPow, opMul, zMul])
local macro_rules | `(tactic| walk_at "fh") => `(tactic| try simp [*, runB, cSeq, cNil, cRet, cRetN, cExpr, cIf, cSet, cAsg, cPar, cAug, cRaise, cStore, cPass, cWipe, wipeD, toS_ok, toS_exn, toS_stuck, Res.bd_ok, Res.bd_exn, Res.bd_stuck, Res.bdN_ok, Res.bdN_exn, Res.bdN_stuck,
  eVar, eC, eTup, eLst, eOp, eChain, eUn, eAnd, eOr, eNot, eIf, eRep, tTs, tAnd2, tOr2, tNot2, tTrue, eCall, eBi, eIsi, eMtL, eSl, oNo, oSo, lNil, lCons, iSeq, iRange1, iRange2, zAdd, zSub, zMul, zDiv, zMod, ofO, opInt, opIn, opNotIn, opEq, opNe, opIs, opIsnt, mk_t, mk_f,
  List.map_cons, List.map_nil, List.length_cons, List.length_nil, List.replicate, List.append_nil, List.nil_append, List.cons_append, List.getElem?_cons_zero, List.getElem?_cons_succ, List.getElem?_nil, List.set_cons_zero, List.set_cons_succ, List.set_nil, lm0, lm1, lm2, lm3, lm4, lm5, lm6, lm7, lm8, lm9, asg_nm, asg_tp, asgs_nil, asgs_cons, Option.bind_some, Option.bind_none, Option.map_some, Option.map_none,
  Nat.reduceSub, Nat.reduceAdd, Nat.zero_add, Nat.add_zero, Nat.sub_self, if_true, if_false, reduceIte, Bool.false_eq_true, Bool.true_eq_false, Bool.not_true, Bool.not_false, ix_tup, ix_fz, at0, at1, at2, eDNew, eDGet, eDGet2, eDIn, eDPop, cDPut, cAugS, cSub2, dic_ref, keyOf, reduceCtorEq, and_self, Bool.and_self, decide_true, decide_false, List.append_assoc, List.length_append, Nat.add_assoc, at_new, at_newk, add_fz, add_rf, add_tt, ix_ref, seq_ref, list_ref, seq_tup, seq_fz, list_fz, ix_tup, ix_fz, neg_int, app_ref, set_newk, set_new0, iZ, iEn, sl_tup, sl_fz, eLcV, len_tup, len_ref, len_fz, tuple_fz, tuple_ref, ty_non, ty_bl, ty_int, ty_str, ty_tup, ty_fz, isT, eqD_int, at0, at1, opPow, opMul, zMul])
noncomputable def b_law_odd : DS :=
 (cSeq (cSet 1 (eLst false (lCons (eC .non) (lCons (eC (.bl true)) (lCons (eC (.bl false)) (lCons (eUn dNeg (eC (.int 1))) (lCons (eC (.int 0)) (lCons (eC (.int 1)) (lCons (eC (.int 7)) (lCons (eOp opPow (eC (.int 10)) (eC (.int 11))) (lCons (eC (.str "")) (lCons (eC (.str "die")) (lCons (eTup lNil) (lCons (eLst false lNil) (lCons eDEm (lCons (eTup (lCons (eC (.int 0)) lNil)) (lCons (eLst false (lCons (eC (.int 0)) lNil)) (lCons (eTup (lCons (eC (.int 0)) (lCons (eC (.int 1)) lNil))) (lCons (eTup (lCons (eTup (lCons (eC (.int 0)) (lCons (eC (.int 1)) lNil))) lNil)) (lCons (eTup (lCons (eC (.int 1)) (lCons (eC (.int 2)) lNil))) lNil))))))))))))))))))))
 (cSeq (cRet (eCall 2 r_law_pick (lCons (eVar 0) (lCons (eOp (opAdd false) (eVar 1) (eLst false (lCons (eTup (lCons (eTup (lCons (eC (.int 0)) (lCons (eC (.int 1)) lNil))) (lCons (eTup (lCons (eC (.int 1)) (lCons (eC (.int 1)) lNil))) lNil))) (lCons (eC (.str "0")) (lCons (eTup (lCons (eC .non) lNil)) (lCons (eD1V (eC (.str "a")) (eC (.int 1))) (lCons (eTup (lCons (eTup (lCons (eC (.int 1)) (lCons (eC (.int 1)) lNil))) lNil)) (lCons (eTup (lCons (eTup (lCons (eTup (lCons (eC (.int 0)) (lCons (eC (.int 1)) lNil))) lNil)) lNil)) (lCons (eC (.int 0)) lNil))))))))) lNil))))
 cNil))
noncomputable def r_law_odd : Den := runF 2 b_law_odd
noncomputable def b_law_near : DS :=
 (cSeq (cSet 2 (eCall 2 r_law_draw (lCons (eVar 0) (lCons (eBi fLen (lCons (eVar 1) lNil)) lNil))))
 (cSeq (cAsg (.tp [(.nm 3), (.nm 4)]) (eOp opIx (eVar 1) (eVar 2)))
 (cSeq (cSet 5 (eLst false (lCons (eTup (lCons (eOp (opAdd false) (eVar 3) (eC (.int 1))) (lCons (eVar 4) lNil))) (lCons (eTup (lCons (eOp (opMul false) (eC (.int 2)) (eVar 3)) (lCons (eOp (opMul false) (eC (.int 2)) (eVar 4)) lNil))) (lCons (eTup (lCons (eOp opSub (eC (.int 0)) (eVar 3)) (lCons (eVar 4) lNil))) (lCons (eLst false (lCons (eVar 3) (lCons (eVar 4) lNil))) (lCons (eTup (lCons (eVar 3) (lCons (eVar 4) (lCons (eC (.int 0)) lNil)))) (lCons (eTup (lCons (eVar 3) lNil)) (lCons (eC .non) lNil)))))))))
 (cSeq (cSet 5 (eOp (opAdd false) (eVar 5) (eLst false (lCons (eTup (lCons (eVar 3) (lCons (eC (.bl true)) lNil))) (lCons (eTup (lCons (eC (.bl false)) (lCons (eC (.int 1)) lNil))) (lCons (eVar 3) (lCons (eTup (lCons (eVar 4) (lCons (eVar 3) lNil))) (lCons (eTup (lCons (eC (.int 0)) (lCons (eC (.int 1)) lNil))) (lCons (eTup (lCons (eC (.int 1)) (lCons (eC (.int 1)) lNil))) lNil)))))))))
 (cSeq (cSet 6 (eLcV (iSeq (eVar 5)) (.nm 7) tTrue (eOp (opAdd false) (eOp (opAdd false) (eSl false (eVar 1) oNo (oSo (eVar 2))) (eTup (lCons (eVar 7) lNil))) (eSl false (eVar 1) (oSo (eOp (opAdd false) (eVar 2) (eC (.int 1)))) oNo)) [7]))
 (cSeq (cSet 6 (eOp (opAdd false) (eVar 6) (eLst false (lCons (eOp (opAdd false) (eVar 1) (eSl false (eVar 1) oNo (oSo (eC (.int 1))))) (lCons (eSl false (eVar 1) (oSo (eC (.int 1))) oNo) (lCons (eBi (fList false) (lCons (eVar 1) lNil)) (lCons (eOp (opAdd false) (eVar 1) (eTup (lCons (eTup (lCons (eC (.int 0)) (lCons (eC (.int 1)) lNil))) lNil))) (lCons (eTup (lCons (eVar 1) lNil)) (lCons (eRev false (eVar 1)) lNil)))))))))
 (cSeq (cRet (eOp (opAdd false) (eVar 6) (eLst false (lCons (eVar 1) (lCons (eCall 1 r_law_odd (lCons (eVar 0) lNil)) (lCons (eCall 1 r_law_odd (lCons (eVar 0) lNil)) lNil))))))
 cNil)))))))
noncomputable def r_law_near : Den := runF 8 b_law_near
theorem law_pick_run {S : Sto} {n : Nat} {p : Pen} {N : Nat} {xs : List Dv} (es : S[n]? = some p.ob) (hp : penB p N) (hN : N ≤ 2 ^ 200) (h0 : 0 < xs.length) (hl : xs.length ≤ 1000) (pl : Dv.plains xs = true) :
    ∃ x ∈ xs, r_law_pick [.ref n, .fz xs] S = .ok x (S.set n (draw p (xs.length : Int)).2.ob) := by
  have d := law_draw_run es hp hN (m := (xs.length : Int)) (by omega) (by omega)
  have dl := draw_lt p (m := (xs.length : Int)) (by omega)
  generalize draw p (xs.length : Int) = q at *
  obtain ⟨k, hk⟩ : ∃ k : Nat, q.1 = (k : Int) := ⟨q.1.toNat, by omega⟩
  have hkl : k < xs.length := by omega
  refine ⟨xs[k], List.getElem_mem hkl, ?_⟩
  have px : (xs[k]).plain = true := by
    rw [plains_all] at pl
    exact List.all_eq_true.mp pl _ (List.getElem_mem hkl)
  refine f_upd (ρ0 := [some (.ref n), some (.fz xs)]) rfl ?_ (Kept.set (Kept.refl S) n rfl) px
  unfold b_law_pick
  refine seq_rt (ret_go ?_)
  have a : atI xs q.1 = some xs[k] := by
    rw [hk]
    simp only [atI, ixN]
    rw [if_pos (by omega), if_pos (by omega)]
    simp [List.getElem?_eq_getElem hkl]
  simp only [eOp, eCall, eBi, lCons, lNil, eVar, List.getElem?_cons_zero, List.getElem?_cons_succ, Res.bd_ok, len_fz, ofO, List.length_cons, List.length_nil, if_true, d, ix_fz, a]
theorem d1v_run (ρ : Ev) (S : Sto) : eD1V (eC (.str "a")) (eC (.int 1)) ρ S = .ok (.dct [(.inr "a", .int 1)]) S := by
  have e : eD1 (eC (.str "a")) (eC (.int 1)) ρ S = .ok (.ref (S.length + 0)) (S ++ [.dic [(.inr "a", .int 1)]]) := by
    simp only [eD1, eC, Res.bd_ok, keyOf]
    simp
  rw [eD1V, e]
  exact tidyK_dic (j := 0) (by rfl) rfl
def odA : List Dv := [.non, .bl true, .bl false, .int (-1), .int 0, .int 1, .int 7, .int 100000000000, .str "", .str "die", .tup [], .fz [], .dct [], .tup [.int 0], .fz [.int 0], .tup [.int 0, .int 1], .tup [.tup [.int 0, .int 1]], .tup [.int 1, .int 2]]
def odB : List Dv := [.tup [.tup [.int 0, .int 1], .tup [.int 1, .int 1]], .str "0", .tup [.non], .dct [(.inr "a", .int 1)], .tup [.tup [.int 1, .int 1]], .tup [.tup [.tup [.int 0, .int 1]]], .int 0]
theorem law_odd_run {S : Sto} {n : Nat} {p : Pen} {N : Nat} (es : S[n]? = some p.ob) (hp : penB p N) (hN : N ≤ 2 ^ 200) :
    ∃ x ∈ odA ++ odB, r_law_odd [.ref n] S = .ok x (S.set n (draw p 25).2.ob) := by
  have pl : Dv.plains (odA ++ odB) = true := rfl
  obtain ⟨x, hx, e⟩ := law_pick_run es hp hN (xs := odA ++ odB) (by decide) (by decide) pl
  refine ⟨x, hx, ?_⟩
  have px : x.plain = true := by
    rw [plains_all] at pl
    exact List.all_eq_true.mp pl _ hx
  refine f_upd (ρ0 := [some (.ref n), none]) rfl ?_ (Kept.set (Kept.refl S) n rfl) px
  unfold b_law_odd
  have le := lim_eq
  refine seq_go (set_go (d := .fz odA) (S1 := S) ?_) (seq_rt (ret_go ?_))
  · rfl
  · have a1 : (eOp (opAdd false) (eVar 1) (eLst false (lCons (eTup (lCons (eTup (lCons (eC (.int 0)) (lCons (eC (.int 1)) lNil))) (lCons (eTup (lCons (eC (.int 1)) (lCons (eC (.int 1)) lNil))) lNil))) (lCons (eC (.str "0")) (lCons (eTup (lCons (eC .non) lNil)) (lCons (eD1V (eC (.str "a")) (eC (.int 1))) (lCons (eTup (lCons (eTup (lCons (eC (.int 1)) (lCons (eC (.int 1)) lNil))) lNil)) (lCons (eTup (lCons (eTup (lCons (eTup (lCons (eC (.int 0)) (lCons (eC (.int 1)) lNil))) lNil)) lNil)) (lCons (eC (.int 0)) lNil))))))))) [some (.ref n), some (.fz odA)] S = .ok (.fz (odA ++ odB)) S := by
      have b1 : (eLst false (lCons (eTup (lCons (eTup (lCons (eC (.int 0)) (lCons (eC (.int 1)) lNil))) (lCons (eTup (lCons (eC (.int 1)) (lCons (eC (.int 1)) lNil))) lNil))) (lCons (eC (.str "0")) (lCons (eTup (lCons (eC .non) lNil)) (lCons (eD1V (eC (.str "a")) (eC (.int 1))) (lCons (eTup (lCons (eTup (lCons (eC (.int 1)) (lCons (eC (.int 1)) lNil))) lNil)) (lCons (eTup (lCons (eTup (lCons (eTup (lCons (eC (.int 0)) (lCons (eC (.int 1)) lNil))) lNil)) lNil)) (lCons (eC (.int 0)) lNil)))))))) [some (.ref n), some (.fz odA)] S = .ok (.fz odB) S := by
        simp only [eLst, lCons, d1v_run, Res.bd_ok]
        rfl
      simp only [eOp, eVar, List.getElem?_cons_zero, List.getElem?_cons_succ, Res.bd_ok, b1]
      rfl
    rw [show ([some (Dv.ref n), none] : Ev).set 1 (some (.fz odA)) = [some (.ref n), some (.fz odA)] from rfl]
    simp only [eCall, lCons, lNil, a1, eVar, List.getElem?_cons_zero, Res.bd_ok, List.length_cons, List.length_nil, if_true, e]
    rfl
def nrS (q : Rat) : List Dv := [.tup [.int (q.num + 1), .int (q.den : Int)], .tup [.int (2 * q.num), .int (2 * (q.den : Int))], .tup [.int (0 - q.num), .int (q.den : Int)], .fz [.int q.num, .int (q.den : Int)], .tup [.int q.num, .int (q.den : Int), .int 0], .tup [.int q.num], .non,
  .tup [.int q.num, .bl true], .tup [.bl false, .int 1], .int q.num, .tup [.int (q.den : Int), .int q.num], .tup [.int 0, .int 1], .tup [.int 1, .int 1]]
def nrT (qs : List Rat) (k : Nat) (x : Dv) : Dv := .tup ((qs.take k).map fr ++ [x] ++ (qs.drop (k + 1)).map fr)
def nrM (qs : List Rat) : List Dv := [.tup (qs.map fr ++ (qs.take 1).map fr), .tup ((qs.drop 1).map fr), .fz (qs.map fr), .tup (qs.map fr ++ [.tup [.int 0, .int 1]]), .tup [.tup (qs.map fr)], .tup (qs.map fr).reverse]
theorem cut_lo (l : List Dv) {k : Nat} (h : k ≤ l.length) : cutD l none (some (k : Int)) = l.take k := by
  simp only [cutD, HT.sIx_nat, HT.sIx_none, Nat.min_eq_left h, List.drop_zero, Nat.sub_zero]
theorem cut_hi (l : List Dv) (k : Nat) : cutD l (some (k : Int)) none = l.drop k := by
  simp only [cutD, HT.sIx_nat, HT.sIx_none]
  by_cases h : k ≤ l.length
  · rw [Nat.min_eq_left h]
    exact List.take_of_length_le (by simp)
  · rw [Nat.min_eq_right (by omega)]
    simp
    omega
theorem law_near_run {S : Sto} {n : Nat} {p : Pen} {N : Nat} {qs : List Rat} (h : Chances qs) (es : S[n]? = some p.ob) (hp : penB p N) (hN : N + 10 ≤ 2 ^ 200) :
    ∃ (k : Nat) (x y : Dv) (p' : Pen), k < qs.length ∧ x ∈ odA ++ odB ∧ y ∈ odA ++ odB ∧ penB p' (N + 10) ∧
      r_law_near [.ref n, chs qs] S = .ok (.fz (((nrS (qs.getD k 0)).map (nrT qs k)) ++ nrM qs ++ [chs qs, x, y])) (S.set n p'.ob) := by
  have hm := h.many
  have nl := (List.getElem?_eq_some_iff.mp es).1
  have d := law_draw_run es hp (by omega) (m := (qs.length : Int)) (by omega) (by omega)
  have dl := draw_lt p (m := (qs.length : Int)) (by omega)
  have hb := hp.draw (qs.length : Int)
  generalize (draw p (qs.length : Int)).2 = p1 at *
  generalize (draw p (qs.length : Int)).1 = v at *
  obtain ⟨k, rfl⟩ : ∃ k : Nat, v = (k : Int) := ⟨v.toNat, by omega⟩
  have hk : k < qs.length := by omega
  have es1 : (S.set n p1.ob)[n]? = some p1.ob := List.getElem?_set_self nl
  obtain ⟨x, hx, e1⟩ := law_odd_run es1 hb (by omega)
  have hb2 := hb.draw 25
  generalize (draw p1 25).2 = p2 at *
  rw [List.set_set] at e1
  have es2 : (S.set n p2.ob)[n]? = some p2.ob := List.getElem?_set_self nl
  obtain ⟨y, hy, e2⟩ := law_odd_run es2 hb2 (by omega)
  have hb3 := hb2.draw 25
  generalize (draw p2 25).2 = p3 at *
  rw [List.set_set] at e2
  refine ⟨k, x, y, p3, hk, hx, hy, hb3.mono (by omega), ?_⟩
  have pq : Dv.plains (qs.map fr) = true := frs_plain qs
  have pod : ∀ z ∈ odA ++ odB, z.plain = true := fun z hz => by
    have : Dv.plains (odA ++ odB) = true := rfl
    rw [plains_all] at this
    exact List.all_eq_true.mp this _ hz
  have pf : ∀ q : Rat, (fr q).plain = true := fun q => rfl
  have pS : ∀ q : Rat, ∀ z ∈ nrS q, z.plain = true := fun q => by
    have : Dv.plains (nrS q) = true := rfl
    rw [plains_all] at this
    exact fun z hz => List.all_eq_true.mp this _ hz
  have pl : Dv.plain (.fz (((nrS (qs.getD k 0)).map (nrT qs k)) ++ nrM qs ++ [chs qs, x, y])) = true := by
    have pc : (chs qs).plain = true := pq
    have pT : ∀ z, z.plain = true → (nrT qs k z).plain = true := fun z hz => by
      simp only [nrT, Dv.plain]
      rw [plains_all, List.all_eq_true]
      intro w hw
      rcases List.mem_append.mp hw with hw | hw
      · rcases List.mem_append.mp hw with hw | hw
        · obtain ⟨q, _, rfl⟩ := List.mem_map.mp hw
          exact pf q
        · rw [List.mem_singleton] at hw
          subst hw
          exact hz
      · obtain ⟨q, _, rfl⟩ := List.mem_map.mp hw
        exact pf q
    have pM : ∀ z ∈ nrM qs, z.plain = true := fun z hz => by
      have all : ∀ l : List Dv, (∀ w ∈ l, (∃ q, w = fr q) ∨ w = .tup [.int 0, .int 1] ∨ w = .tup (qs.map fr)) → Dv.plains l = true := fun l hl => by
        rw [plains_all, List.all_eq_true]
        intro w hw
        rcases hl w hw with ⟨q, rfl⟩ | rfl | rfl
        · exact pf q
        · rfl
        · exact pq
      simp only [nrM, List.mem_cons, List.not_mem_nil, or_false] at hz
      rcases hz with rfl | rfl | rfl | rfl | rfl | rfl
      · simp only [Dv.plain]
        refine all _ fun w hw => ?_
        rcases List.mem_append.mp hw with hw | hw <;> (obtain ⟨q, _, rfl⟩ := List.mem_map.mp hw; exact .inl ⟨q, rfl⟩)
      · simp only [Dv.plain]
        exact all _ fun w hw => by obtain ⟨q, _, rfl⟩ := List.mem_map.mp hw; exact .inl ⟨q, rfl⟩
      · exact pq
      · simp only [Dv.plain]
        refine all _ fun w hw => ?_
        rcases List.mem_append.mp hw with hw | hw
        · obtain ⟨q, _, rfl⟩ := List.mem_map.mp hw; exact .inl ⟨q, rfl⟩
        · exact .inr (.inl (by simpa using hw))
      · simp only [Dv.plain]
        exact all _ fun w hw => .inr (.inr (by simpa using hw))
      · simp only [Dv.plain]
        refine all _ fun w hw => ?_
        obtain ⟨q, _, rfl⟩ := List.mem_map.mp (List.mem_reverse.mp hw)
        exact .inl ⟨q, rfl⟩
    simp only [Dv.plain]
    rw [plains_all, List.all_eq_true]
    intro w hw
    rcases List.mem_append.mp hw with hw | hw
    · rcases List.mem_append.mp hw with hw | hw
      · obtain ⟨z, hz, rfl⟩ := List.mem_map.mp hw
        exact pT z (pS _ z hz)
      · exact pM w hw
    · simp only [List.mem_cons, List.not_mem_nil, or_false] at hw
      rcases hw with rfl | rfl | rfl
      · exact pc
      · exact pod _ hx
      · exact pod _ hy
  refine f_upd (ρ0 := [some (.ref n), some (chs qs), none, none, none, none, none, none]) rfl ?_ (Kept.set (Kept.refl S) n rfl) pl
  have le := lim_eq
  have hq : qs.getD k 0 ∈ qs := by
    rw [List.getD_eq_getElem?_getD, List.getElem?_eq_getElem hk]
    exact List.getElem_mem hk
  have hn0 := (h.cg (s := (2 : Int))).num_le hq
  have hd0 := (h.cg (s := (2 : Int))).den_le hq
  have at1 : atI (qs.map fr) (k : Int) = some (fr (qs.getD k 0)) := by
    simp only [atI, ixN, List.length_map]
    rw [if_pos (by omega), if_pos (by omega)]
    simp [List.getD_eq_getElem?_getD, List.getElem?_eq_getElem hk]
  generalize qs.getD k 0 = q at *
  let A : List Dv := (nrS q).take 7
  let B : List Dv := (nrS q).drop 7
  have ab : A ++ B = nrS q := List.take_append_drop 7 _
  let C : List Dv := (nrS q).map (nrT qs k)
  have cs : ∀ S1 : Sto, (chs qs) = .tup (qs.map fr) := fun _ => rfl
  have lq : (qs.map fr).length = qs.length := List.length_map _
  have lc := lcV_map (it := itSeq (.fz (A ++ B))) (tg := .nm 7) (elt := eOp (opAdd false) (eOp (opAdd false) (eSl false (eVar 1) oNo (oSo (eVar 2))) (eTup (lCons (eVar 7) lNil))) (eSl false (eVar 1) (oSo (eOp (opAdd false) (eVar 2) (eC (.int 1)))) oNo))
    (ρ := [some (.ref n), some (.tup (qs.map fr)), some (.int (k : Int)), some (.int q.num), some (.int (q.den : Int)), some (.fz (A ++ B)), none, none]) (S := S.set n p1.ob) (A ++ B) (fun z => z) (nrT qs k) (goes_selfL _) (by rw [ab]; show 13 ≤ lim; omega) fun z _ => ⟨_, rfl, by
      have c1 := cut_lo (qs.map fr) (k := k) (by omega)
      have c2 := cut_hi (qs.map fr) (k + 1)
      have l1 : ((qs.map fr).take k).length + 1 ≤ lim := by rw [List.length_take]; omega
      have l2 : ((qs.map fr).take k ++ [z]).length + ((qs.map fr).drop (k + 1)).length ≤ lim := by
        rw [List.length_append, List.length_take, List.length_drop, List.length_singleton]; omega
      have kk : ((k : Int) + 1) = ((k + 1 : Nat) : Int) := by omega
      simp only [eOp, eSl, oNo, oSo, eTup, lCons, lNil, eVar, eC, List.getElem?_cons_zero, List.getElem?_cons_succ, List.set_cons_succ, List.set_cons_zero, Res.bd_ok, slD, c1, opAdd, ofO, kk, c2, List.length_cons, List.length_nil, Nat.zero_add]
      rw [if_pos (by omega)]
      simp only [Res.bd_ok]
      rw [if_pos (by simpa using l1)]
      simp only [Res.bd_ok]
      rw [if_pos (by simpa using l2)]
      simp only [nrT, List.map_take, List.map_drop]⟩
  rw [show chs qs = .tup (qs.map fr) from rfl]
  have i1 : (1 : Nat) ≤ lim := by omega
  have i2 : (2 : Nat) ≤ lim := by omega
  have i3 : (3 : Nat) ≤ lim := by omega
  have i6 : (6 : Nat) ≤ lim := by omega
  have i7 : (7 : Nat) ≤ lim := by omega
  have i13 : (7 + 6 : Nat) ≤ lim := by omega
  have m1 : mulOk 2 q.num = true := mulOk_small (by decide) (by omega)
  have m2 : mulOk 2 (q.den : Int) = true := mulOk_small (by decide) (by omega)
  have hA : A = [.tup [.int (q.num + 1), .int (q.den : Int)], .tup [.int (2 * q.num), .int (2 * (q.den : Int))], .tup [.int (0 - q.num), .int (q.den : Int)], .fz [.int q.num, .int (q.den : Int)], .tup [.int q.num, .int (q.den : Int), .int 0], .tup [.int q.num], .non] := rfl
  have hB : B = [.tup [.int q.num, .bl true], .tup [.bl false, .int 1], .int q.num, .tup [.int (q.den : Int), .int q.num], .tup [.int 0, .int 1], .tup [.int 1, .int 1]] := rfl
  unfold b_law_near
  refine seq_go (set_go (d := .int (k : Int)) (S1 := S.set n p1.ob) ?_) (seq_go (S1 := S.set n p1.ob) (ρ1 := [some (.ref n), some (.tup (qs.map fr)), some (.int (k : Int)), some (.int q.num), some (.int (q.den : Int)), none, none, none]) ?_
    (seq_go (set_go (d := .fz A) (S1 := S.set n p1.ob) ?_) (seq_go (set_go (d := .fz (A ++ B)) (S1 := S.set n p1.ob) ?_) (seq_go (set_go (d := .fz C) (S1 := S.set n p1.ob) ?_) (seq_go (set_go (d := .fz (C ++ nrM qs)) (S1 := S.set n p1.ob) ?_) (seq_rt (ret_go ?_)))))))
  · simp only [eCall, eBi, lCons, lNil, eVar, List.getElem?_cons_zero, List.getElem?_cons_succ, Res.bd_ok, len_tup, lq, ofO, List.length_cons, List.length_nil, if_true, d]
  · simp only [cAsg, eOp, eVar, List.getElem?_cons_zero, List.getElem?_cons_succ, List.set_cons_succ, List.set_cons_zero, Res.bd_ok, ix_tup, at1, ofO, toS_ok]
    rfl
  · rw [hA]
    simp only [eLst, lCons, lNil, eTup, eOp, eC, eVar, List.getElem?_cons_zero, List.getElem?_cons_succ, Res.bd_ok, opAdd, opSub, zMul m1, zMul m2, ofO, List.length_cons, List.length_nil, Nat.zero_add, Nat.reduceAdd, i1, i2, i3, i7, if_true, mk_f]
  · rw [hA, hB]
    simp only [eLst, lCons, lNil, eTup, eOp, eC, eVar, List.getElem?_cons_zero, List.getElem?_cons_succ, List.set_cons_succ, List.set_cons_zero, Res.bd_ok, ofO, List.length_cons, List.length_nil, Nat.zero_add, Nat.reduceAdd, i1, i2, i3, i6, if_true, mk_f]
    rw [add_fz, if_pos (by exact i13)]
    rfl
  · simp only [eLcV, iSeq, eVar, List.set_cons_succ, List.set_cons_zero, List.getElem?_cons_zero, List.getElem?_cons_succ, Res.bd_ok, Res.bdN_ok]
    rw [show seqOf (S.set n p1.ob) (.fz (A ++ B)) = some (A ++ B) from rfl]
    simp only [Res.bd_ok]
    rw [show wipeD [some (.ref n), some (.tup (qs.map fr)), some (.int (k : Int)), some (.int q.num), some (.int (q.den : Int)), some (.fz (A ++ B)), none, none] [7] = [some (.ref n), some (.tup (qs.map fr)), some (.int (k : Int)), some (.int q.num), some (.int (q.den : Int)), some (.fz (A ++ B)), none, none] from rfl]
    refine lc.trans ?_
    rw [ab]
  · simp only [eOp, eVar, List.set_cons_succ, List.set_cons_zero, List.getElem?_cons_zero, List.getElem?_cons_succ, Res.bd_ok]
    generalize hS : S.set n p1.ob = S1
    generalize hρ : ([some (Dv.ref n), some (Dv.tup (qs.map fr)), some (Dv.int (k : Int)), some (Dv.int q.num), some (Dv.int (q.den : Int)), some (Dv.fz (A ++ B)), some (Dv.fz C), none] : Ev) = ρ
    have v1 : eVar 1 ρ S1 = .ok (.tup (qs.map fr)) S1 := by subst hρ; rfl
    have c1 : cutD (qs.map fr) none (some (1 : Int)) = (qs.map fr).take 1 := cut_lo (qs.map fr) (k := 1) (by omega)
    have c2 : cutD (qs.map fr) (some (1 : Int)) none = (qs.map fr).drop 1 := cut_hi (qs.map fr) 1
    have f0 : eSl false (eVar 1) oNo (oSo (eC (.int 1))) ρ S1 = .ok (.tup ((qs.map fr).take 1)) S1 := by
      simp only [eSl, oNo, oSo, eC, v1, Res.bd_ok, slD, c1, ofO]
    have f1 : eOp (opAdd false) (eVar 1) (eSl false (eVar 1) oNo (oSo (eC (.int 1)))) ρ S1 = .ok (.tup (qs.map fr ++ (qs.map fr).take 1)) S1 := by
      simp only [eOp, v1, f0, Res.bd_ok, add_tt]
      rw [if_pos (by rw [List.length_take]; omega)]
      rfl
    have f2 : eSl false (eVar 1) (oSo (eC (.int 1))) oNo ρ S1 = .ok (.tup ((qs.map fr).drop 1)) S1 := by
      simp only [eSl, oNo, oSo, eC, v1, Res.bd_ok, slD, c2, ofO]
    have f3 : eBi (fList false) (lCons (eVar 1) lNil) ρ S1 = .ok (.fz (qs.map fr)) S1 := by
      simp only [eBi, lCons, lNil, v1, Res.bd_ok]
      rfl
    have f4 : eOp (opAdd false) (eVar 1) (eTup (lCons (eTup (lCons (eC (.int 0)) (lCons (eC (.int 1)) lNil))) lNil)) ρ S1 = .ok (.tup (qs.map fr ++ [.tup [.int 0, .int 1]])) S1 := by
      simp only [eOp, eTup, lCons, lNil, eC, v1, Res.bd_ok, List.length_cons, List.length_nil, Nat.zero_add, Nat.reduceAdd, i1, i2, if_true, add_tt]
      rw [if_pos (by omega)]
      rfl
    have f5 : eTup (lCons (eVar 1) lNil) ρ S1 = .ok (.tup [.tup (qs.map fr)]) S1 := by
      simp only [eTup, lCons, lNil, v1, Res.bd_ok, List.length_cons, List.length_nil, Nat.zero_add, i1, if_true]
    have f6 : eRev false (eVar 1) ρ S1 = .ok (.tup (qs.map fr).reverse) S1 := by
      simp only [eRev, v1, Res.bd_ok]
      rfl
    simp only [eLst, lCons, lNil, f1, f2, f3, f4, f5, f6, Res.bd_ok, List.length_cons, List.length_nil, Nat.zero_add, Nat.reduceAdd, i6, if_true, mk_f, add_fz]
    have cl : C.length + 6 ≤ lim := by
      show 13 + 6 ≤ lim
      omega
    rw [if_pos cl]
    simp only [nrM, List.map_take, List.map_drop]
    rfl
  · simp only [eOp, eVar, List.set_cons_succ, List.set_cons_zero, List.getElem?_cons_zero, List.getElem?_cons_succ, Res.bd_ok]
    have cl : (C ++ nrM qs).length + 3 ≤ lim := by
      rw [List.length_append]
      show 13 + 6 + 3 ≤ lim
      omega
    simp only [eLst, lCons, lNil, eCall, eVar, List.getElem?_cons_zero, List.getElem?_cons_succ, Res.bd_ok, List.length_cons, List.length_nil, Nat.zero_add, Nat.reduceAdd, if_true, e1, e2, i3, mk_f, add_fz]
    rw [if_pos cl]
    rfl
end Fc
set_option exponentiation.threshold 256
set_option maxHeartbeats 4000000
set_option maxHeartbeats 4000000
set_option exponentiation.threshold 10000
namespace Fc
open PySem L2
def pyR (q : Rat) : PyData := .tuple [.int q.num, .int q.den]
def pyRs (qs : List Rat) : PyData := .tuple (qs.map pyR)
theorem frs_flatR (qs : List Rat) : (encT fr qs).flat = some (pyRs qs) := by
  have := flats_map (f := fr) (g := pyR) qs fun x _ => rfl
  simp only [encT, Dv.flat, this, Option.map_some, pyRs]
theorem pyRs_depth (qs : List Rat) : (pyRs qs).depth ≤ 4 := by
  have := depthAll_le (c := 2) (qs.map pyR) (fun x hx => by
      obtain ⟨p, _, rfl⟩ := List.mem_map.mp hx
      simp [pyR, PyData.depth, PyData.depthAll])
  simp only [pyRs, PyData.depth]
  omega
end Fc
set_option exponentiation.threshold 256
set_option maxHeartbeats 4000000
set_option maxHeartbeats 4000000
set_option exponentiation.threshold 100000
namespace Fc
open PySem L2
local macro_rules | `(tactic| walk_at "fc") => `(tactic| try simp only [runB, cSeq, cNil, cRet, cRetN, cExpr, cIf, cSet, cAsg, cPar, cAug, cRaise, cStore, cPass, cWipe, wipeD, toS_ok, toS_exn, toS_stuck, Res.bd_ok, Res.bd_exn, Res.bd_stuck, Res.bdN_ok, Res.bdN_exn, Res.bdN_stuck,
  eVar, eC, eTup, eLst, eOp, eChain, eUn, eAnd, eOr, eNot, eIf, eRep, tTs, tAnd2, tOr2, tNot2, tTrue, eCall, eBi, eIsi, eMtL, eSl, oNo, oSo, lNil, lCons, iSeq, iRange1, iRange2, zAdd, zSub, zMul, zDiv, zMod, ofO, opInt, opIn, opNotIn, opEq, opNe, opIs, opIsnt, mk_t, mk_f,
  List.map_cons, List.map_nil, List.length_cons, List.length_nil, List.replicate, List.append_nil, List.nil_append, List.cons_append, List.getElem?_cons_zero, List.getElem?_cons_succ, List.getElem?_nil, List.set_cons_zero, List.set_cons_succ, List.set_nil, lm0, lm1, lm2, lm3, lm4, lm5, lm6, lm7, lm8, lm9, asg_nm, asg_tp, asgs_nil, asgs_cons, Option.bind_some, Option.bind_none, Option.map_some, Option.map_none,
  Nat.reduceSub, Nat.reduceAdd, Nat.zero_add, Nat.add_zero, Nat.sub_self, if_true, if_false, reduceIte, Bool.false_eq_true, Bool.true_eq_false, Bool.not_true, Bool.not_false, ix_tup, ix_fz, at0, at1, at2, eDNew, eDGet, eDGet2, eDIn, eDPop, cDPut, cAugS, cSub2, dic_ref, keyOf, reduceCtorEq])
local macro_rules | `(tactic| walk_at "fo") => `(tactic| try simp only [*, runB, cSeq, cNil, cRet, cRetN, cExpr, cIf, cSet, cAsg, cPar, cAug, cRaise, cStore, cPass, cWipe, wipeD, toS_ok, toS_exn, toS_stuck, Res.bd_ok, Res.bd_exn, Res.bd_stuck, Res.bdN_ok, Res.bdN_exn, Res.bdN_stuck,
  eVar, eC, eTup, eLst, eOp, eChain, eUn, eAnd, eOr, eNot, eIf, eRep, tTs, tAnd2, tOr2, tNot2, tTrue, eCall, eBi, eIsi, eMtL, eSl, oNo, oSo, lNil, lCons, iSeq, iRange1, iRange2, zAdd, zSub, zMul, zDiv, zMod, ofO, opInt, opIn, opNotIn, opEq, opNe, opIs, opIsnt, mk_t, mk_f,
  List.map_cons, List.map_nil, List.length_cons, List.length_nil, List.replicate, List.append_nil, List.nil_append, List.cons_append, List.getElem?_cons_zero, List.getElem?_cons_succ, List.getElem?_nil, List.set_cons_zero, List.set_cons_succ, List.set_nil, lm0, lm1, lm2, lm3, lm4, lm5, lm6, lm7, lm8, lm9, asg_nm, asg_tp, asgs_nil, asgs_cons, Option.bind_some, Option.bind_none, Option.map_some, Option.map_none,
  Nat.reduceSub, Nat.reduceAdd, Nat.zero_add, Nat.add_zero, Nat.sub_self, if_true, if_false, reduceIte, Bool.false_eq_true, Bool.true_eq_false, Bool.not_true, Bool.not_false, ix_tup, ix_fz, at0, at1, at2, eDNew, eDGet, eDGet2, eDIn, eDPop, cDPut, cAugS, cSub2, dic_ref, keyOf, reduceCtorEq, and_self, Bool.and_self, decide_true, decide_false, List.append_assoc, List.length_append, Nat.add_assoc, at_new, at_newk, add_fz, add_rf, add_tt, ix_ref, seq_ref, list_ref, seq_tup, seq_fz, list_fz, ix_tup, ix_fz, neg_int, app_ref, set_newk, set_new0, iZ, iEn, sl_tup, sl_fz, eLcV, len_tup, len_ref, len_fz, tuple_fz, tuple_ref, ty_non, ty_bl, ty_int, ty_str, ty_tup, ty_fz])
local macro_rules | `(tactic| walk_at "fg") => `(tactic| try simp only [*, runB, cSeq, cNil, cRet, cRetN, cExpr, cIf, cSet, cAsg, cPar, cAug, cRaise, cStore, cPass, cWipe, wipeD, toS_ok, toS_exn, toS_stuck, Res.bd_ok, Res.bd_exn, Res.bd_stuck, Res.bdN_ok, Res.bdN_exn, Res.bdN_stuck,
  eVar, eC, eTup, eLst, eOp, eChain, eUn, eAnd, eOr, eNot, eIf, eRep, tTs, tAnd2, tOr2, tNot2, tTrue, eCall, eBi, eIsi, eMtL, eSl, oNo, oSo, lNil, lCons, iSeq, iRange1, iRange2, zAdd, zSub, zMul, zDiv, zMod, ofO, opInt, opIn, opNotIn, opEq, opNe, opIs, opIsnt, mk_t, mk_f,
  List.map_cons, List.map_nil, List.length_cons, List.length_nil, List.replicate, List.append_nil, List.nil_append, List.cons_append, List.getElem?_cons_zero, List.getElem?_cons_succ, List.getElem?_nil, List.set_cons_zero, List.set_cons_succ, List.set_nil, lm0, lm1, lm2, lm3, lm4, lm5, lm6, lm7, lm8, lm9, asg_nm, asg_tp, asgs_nil, asgs_cons, Option.bind_some, Option.bind_none, Option.map_some, Option.map_none,
  Nat.reduceSub, Nat.reduceAdd, Nat.zero_add, Nat.add_zero, Nat.sub_self, if_true, if_false, reduceIte, Bool.false_eq_true, Bool.true_eq_false, Bool.not_true, Bool.not_false, ix_tup, ix_fz, at0, at1, at2, eDNew, eDGet, eDGet2, eDIn, eDPop, cDPut, cAugS, cSub2, dic_ref, keyOf, reduceCtorEq, and_self, Bool.and_self, decide_true, decide_false, List.append_assoc, List.length_append, Nat.add_assoc, at_new, at_newk, add_fz, add_rf, add_tt, ix_ref, seq_ref, list_ref, seq_tup, seq_fz, list_fz, ix_tup, ix_fz, neg_int, app_ref, set_newk, set_new0, iZ, iEn, sl_tup, sl_fz, eLcV, len_tup, len_ref, len_fz, tuple_fz, tuple_ref, ty_non, ty_bl, ty_int, ty_str, ty_tup, ty_fz])
local macro_rules | `(tactic| walk_at "fs") => `(tactic| try simp [runB, cSeq, cNil, cRet, cRetN, cExpr, cIf, cSet, cAsg, cPar, cAug, cRaise, cStore, cPass, cWipe, wipeD, toS_ok, toS_exn, toS_stuck, Res.bd_ok, Res.bd_exn, Res.bd_stuck, Res.bdN_ok, Res.bdN_exn, Res.bdN_stuck,
  eVar, eC, eTup, eLst, eOp, eChain, eUn, eAnd, eOr, eNot, eIf, eRep, tTs, tAnd2, tOr2, tNot2, tTrue, eCall, eBi, eIsi, eMtL, eSl, oNo, oSo, lNil, lCons, iSeq, iRange1, iRange2, zAdd, zSub, zMul, zDiv, zMod, ofO, opInt, opIn, opNotIn, opEq, opNe, opIs, opIsnt, mk_t, mk_f,
  List.map_cons, List.map_nil, List.length_cons, List.length_nil, List.replicate, List.append_nil, List.nil_append, List.cons_append, List.getElem?_cons_zero, List.getElem?_cons_succ, List.getElem?_nil, List.set_cons_zero, List.set_cons_succ, List.set_nil, lm0, lm1, lm2, lm3, lm4, lm5, lm6, lm7, lm8, lm9, asg_nm, asg_tp, asgs_nil, asgs_cons, Option.bind_some, Option.bind_none, Option.map_some, Option.map_none,
  Nat.reduceSub, Nat.reduceAdd, Nat.zero_add, Nat.add_zero, Nat.sub_self, if_true, if_false, reduceIte, Bool.false_eq_true, Bool.true_eq_false, Bool.not_true, Bool.not_false, ix_tup, ix_fz, at0, at1, at2, eDNew, eDGet, eDGet2, eDIn, eDPop, cDPut, cAugS, cSub2, dic_ref, keyOf, reduceCtorEq, and_self, Bool.and_self, decide_true, decide_false, List.append_assoc, List.length_append, Nat.add_assoc, at_new, at_newk, add_fz, add_rf, add_tt, ix_ref, seq_ref, list_ref, seq_tup, seq_fz, list_fz, ix_tup, ix_fz, neg_int, app_ref, set_newk, set_new0, iZ, iEn, sl_tup, sl_fz, eLcV, len_tup, len_ref, len_fz, tuple_fz, tuple_ref, ty_non, ty_bl, ty_int, ty_str, ty_tup, ty_fz, isT, eqD_int, at0, at1])
local macro_rules | `(tactic| walk_at "fh") => `(tactic| try simp [*, runB, cSeq, cNil, cRet, cRetN, cExpr, cIf, cSet, cAsg, cPar, cAug, cRaise, cStore, cPass, cWipe, wipeD, toS_ok, toS_exn, toS_stuck, Res.bd_ok, Res.bd_exn, Res.bd_stuck, Res.bdN_ok, Res.bdN_exn, Res.bdN_stuck,
  eVar, eC, eTup, eLst, eOp, eChain, eUn, eAnd, eOr, eNot, eIf, eRep, tTs, tAnd2, tOr2, tNot2, tTrue, eCall, eBi, eIsi, eMtL, eSl, oNo, oSo, lNil, lCons, iSeq, iRange1, iRange2, zAdd, zSub, zMul, zDiv, zMod, ofO, opInt, opIn, opNotIn, opEq, opNe, opIs, opIsnt, mk_t, mk_f,
  List.map_cons, List.map_nil, List.length_cons, List.length_nil, List.replicate, List.append_nil, List.nil_append, List.cons_append, List.getElem?_cons_zero, List.getElem?_cons_succ, List.getElem?_nil, List.set_cons_zero, List.set_cons_succ, List.set_nil, lm0, lm1, lm2, lm3, lm4, lm5, lm6, lm7, lm8, lm9, asg_nm, asg_tp, asgs_nil, asgs_cons, Option.bind_some, Option.bind_none, Option.map_some, Option.map_none,
  Nat.reduceSub, Nat.reduceAdd, Nat.zero_add, Nat.add_zero, Nat.sub_self, if_true, if_false, reduceIte, Bool.false_eq_true, Bool.true_eq_false, Bool.not_true, Bool.not_false, ix_tup, ix_fz, at0, at1, at2, eDNew, eDGet, eDGet2, eDIn, eDPop, cDPut, cAugS, cSub2, dic_ref, keyOf, reduceCtorEq, and_self, Bool.and_self, decide_true, decide_false, List.append_assoc, List.length_append, Nat.add_assoc, at_new, at_newk, add_fz, add_rf, add_tt, ix_ref, seq_ref, list_ref, seq_tup, seq_fz, list_fz, ix_tup, ix_fz, neg_int, app_ref, set_newk, set_new0, iZ, iEn, sl_tup, sl_fz, eLcV, len_tup, len_ref, len_fz, tuple_fz, tuple_ref, ty_non, ty_bl, ty_int, ty_str, ty_tup, ty_fz, isT, eqD_int, at0, at1])
structure Fine (d : Dv) : Prop where
  ok : ∀ S, okC S d = true
  shown : ∃ x, ∀ S, fReprD [d] S = some (.str x, S)
theorem fine_of {d : Dv} {p : PyData} (h : d.flat = some p) (hs : showOk p = true) (ho : ∀ S, okC S d = true) : Fine d := ⟨ho, p.shown, fun S => by
  rw [reprD_run (fun kvs e => by subst e; cases h)]
  exact repr_run (flat_py h S) hs⟩
structure Small (x : Dv) : Prop where
  ex : ∃ p, x.flat = some p ∧ tame 20 p = true ∧ p.depth ≤ 5 ∧ p.bulk ≤ 60
  ok : ∀ S, okF S x = true
theorem flats_small : ∀ {xs : List Dv}, (∀ x ∈ xs, Small x) → ∃ ps, Dv.flats xs = some ps ∧ ps.length = xs.length ∧ tames 20 ps = true ∧ (∀ p ∈ ps, p.depth ≤ 5) ∧ ∀ p ∈ ps, p.bulk ≤ 60
  | [], _ => ⟨[], rfl, rfl, rfl, by simp, by simp⟩
  | x :: xs, h => by
    obtain ⟨p, p1, p2, p3, p4⟩ := (h x List.mem_cons_self).ex
    obtain ⟨ps, q1, q2, q3, q4, q5⟩ := flats_small fun y hy => h y (List.mem_cons_of_mem _ hy)
    refine ⟨p :: ps, by simp only [Dv.flats, p1, q1], by simp [q2], by simp only [tames, p2, q3, Bool.and_self], fun z hz => ?_, fun z hz => ?_⟩
    · rcases List.mem_cons.mp hz with rfl | hz
      · exact p3
      · exact q4 z hz
    · rcases List.mem_cons.mp hz with rfl | hz
      · exact p4
      · exact q5 z hz
theorem fine_tup {xs : List Dv} (hl : xs.length ≤ 20) (h : ∀ x ∈ xs, Small x) : Fine (.tup xs) := by
  obtain ⟨ps, q1, q2, q3, q4, q5⟩ := flats_small h
  refine fine_of (p := .tuple ps) (by simp only [Dv.flat, q1, Option.map_some]) (showOk_of 20 (by simpa only [tame] using q3) (by decide) (by decide) ?_ ?_) fun S => by
    simp only [okC, List.all_eq_true]
    exact fun x hx => (h x hx).ok S
  · have := depthAll_le (c := 5) ps q4
    simp only [PyData.depth]
    omega
  · have := bulkAll_le (c := 60) ps q5
    have l := lim_eq
    have : ps.length * 61 ≤ 20 * 61 := Nat.mul_le_mul_right _ (by omega)
    simp only [PyData.bulk]
    omega
theorem fine_fz {xs : List Dv} (hl : xs.length ≤ 20) (h : ∀ x ∈ xs, Small x) : Fine (.fz xs) := by
  obtain ⟨ps, q1, q2, q3, q4, q5⟩ := flats_small h
  refine fine_of (p := .list ps) (by simp only [Dv.flat, q1, Option.map_some]) (showOk_of 20 (by simpa only [tame] using q3) (by decide) (by decide) ?_ ?_) fun S => rfl
  · have := depthAll_le (c := 5) ps q4
    simp only [PyData.depth]
    omega
  · have := bulkAll_le (c := 60) ps q5
    have l := lim_eq
    have : ps.length * 61 ≤ 20 * 61 := Nat.mul_le_mul_right _ (by omega)
    simp only [PyData.bulk]
    omega
theorem small_fr {q : Rat} (h : q.num.natAbs ≤ 1000) (h2 : q.den ≤ 1000) : Small (fr q) := by
  refine ⟨⟨pyR q, rfl, ?_, by simp [pyR, PyData.depth, PyData.depthAll], by simp [pyR, PyData.bulk, PyData.bulkAll]⟩, fun S => ?_⟩
  · simp only [pyR, tame, tames, Bool.and_true, Bool.and_eq_true, decide_eq_true_eq]
    omega
  · simp only [okF, fr, List.all_cons, List.all_nil, okN, Bool.and_true, Bool.and_eq_true, decide_eq_true_eq]
    have : (1001 : Nat) ≤ 2 ^ 600 := Nat.le_trans (by decide : 1001 ≤ 2 ^ 10) (Nat.pow_le_pow_right (by decide) (by decide))
    exact ⟨⟨rfl, by omega⟩, rfl, by omega⟩
section
variable {qs : List Rat}
theorem small_qs (h : Chances qs) {q : Rat} (hq : q ∈ qs) : q.num.natAbs ≤ 30 ∧ q.den ≤ 30 ∧ 0 ≤ q.num := by
  have h1 := (h.cg (s := (2 : Int))).num_le hq
  have h2 := Nat.le_of_dvd (lcm_pos qs) (den_dvd hq)
  have := h.bot
  omega
theorem small_of (h : Chances qs) {x : Dv} {l : List Rat} (hl : ∀ q ∈ l, q ∈ qs) (hx : x ∈ l.map fr) : Small x := by
  obtain ⟨q, hq, rfl⟩ := List.mem_map.mp hx
  have := small_qs h (hl q hq)
  exact small_fr (by omega) (by omega)
theorem small_S {q : Rat} (h : q.num.natAbs ≤ 30 ∧ q.den ≤ 30 ∧ 0 ≤ q.num) : ∀ x ∈ nrS q, Small x := by
  intro x hx
  have p : (200 : Nat) ≤ 2 ^ 600 := Nat.le_trans (by decide : 200 ≤ 2 ^ 10) (Nat.pow_le_pow_right (by decide) (by decide))
  obtain ⟨h1, h2, h3⟩ := h
  simp only [nrS, List.mem_cons, List.not_mem_nil, or_false] at hx
  rcases hx with rfl | rfl | rfl | rfl | rfl | rfl | rfl | rfl | rfl | rfl | rfl | rfl | rfl
  all_goals refine ⟨⟨_, rfl, ?_, by simp [PyData.depth, PyData.depthAll], by simp [PyData.bulk, PyData.bulkAll]⟩, fun S => ?_⟩
  all_goals first
    | rfl
    | (simp only [tame, tames, Bool.and_true, Bool.and_eq_true, decide_eq_true_eq]; omega)
    | (simp only [okF, okT, tyD, Option.isSome_some, List.all_cons, List.all_nil, okN, Bool.and_true, Bool.true_and, Bool.and_eq_true, decide_eq_true_eq]; omega)
theorem near_fine (h : Chances qs) {k : Nat} (hk : k < qs.length) : ∀ d ∈ ((nrS (qs.getD k 0)).map (nrT qs k)) ++ nrM qs ++ [chs qs], Fine d := by
  intro d hd
  have hm := h.many
  have hq : qs.getD k 0 ∈ qs := by
    rw [List.getD_eq_getElem?_getD, List.getElem?_eq_getElem hk]
    exact List.getElem_mem hk
  have s01 : Small (.tup [.int 0, .int 1]) := ⟨⟨_, rfl, rfl, by simp [PyData.depth, PyData.depthAll], by simp [PyData.bulk, PyData.bulkAll]⟩, fun S => rfl⟩
  have sub := fun (l : List Rat) (hl : ∀ q ∈ l, q ∈ qs) (x : Dv) (hx : x ∈ l.map fr) => small_of h hl hx
  have all := sub qs fun _ => id
  rcases List.mem_append.mp hd with hd | hd
  · rcases List.mem_append.mp hd with hd | hd
    · obtain ⟨z, hz, rfl⟩ := List.mem_map.mp hd
      refine fine_tup (by simp; omega) fun x hx => ?_
      rcases List.mem_append.mp hx with hx | hx
      · rcases List.mem_append.mp hx with hx | hx
        · exact sub _ (fun q hq => List.mem_of_mem_take hq) x hx
        · rw [List.mem_singleton] at hx
          subst hx
          exact small_S (small_qs h hq) _ hz
      · exact sub _ (fun q hq => List.mem_of_mem_drop hq) x hx
    · simp only [nrM, List.mem_cons, List.not_mem_nil, or_false] at hd
      rcases hd with rfl | rfl | rfl | rfl | rfl | rfl
      · refine fine_tup (by simp; omega) fun x hx => ?_
        rcases List.mem_append.mp hx with hx | hx
        · exact all x hx
        · exact sub _ (fun q hq => List.mem_of_mem_take hq) x hx
      · exact fine_tup (by simp; omega) fun x hx => sub _ (fun q hq => List.mem_of_mem_drop hq) x hx
      · exact fine_fz (by simp; omega) all
      · refine fine_tup (by simp; omega) fun x hx => ?_
        rcases List.mem_append.mp hx with hx | hx
        · exact all x hx
        · rw [List.mem_singleton] at hx
          subst hx
          exact s01
      · refine fine_tup (by simp) fun x hx => ?_
        rw [List.mem_singleton] at hx
        subst hx
        obtain ⟨ps, q1, q2, q3, q4, q5⟩ := flats_small (xs := qs.map fr) all
        have fl := frs_flatR qs
        refine ⟨⟨pyRs qs, fl, ?_, by have := pyRs_depth qs; omega, ?_⟩, fun S => ?_⟩
        · have e : Dv.flats (qs.map fr) = some (qs.map pyR) := flats_map (f := fr) (g := pyR) qs fun x _ => rfl
          rw [e] at q1
          cases q1
          simpa only [pyRs, tame] using q3
        · have := bulkAll_le (c := 2) (qs.map pyR) (fun x hx => by
            obtain ⟨p, _, rfl⟩ := List.mem_map.mp hx
            simp [pyR, PyData.bulk, PyData.bulkAll])
          rw [List.length_map] at this
          simp only [pyRs, PyData.bulk]
          omega
        · simp only [okF, List.all_eq_true, Bool.and_eq_true]
          intro x hx
          obtain ⟨q, _, rfl⟩ := List.mem_map.mp hx
          exact ⟨rfl, rfl⟩
      · exact fine_tup (by simp; omega) fun x hx => all x (List.mem_reverse.mp hx)
  · rw [List.mem_singleton] at hd
    subst hd
    exact fine_tup (by simp; omega) all
end
theorem repr_a (S : Sto) : fReprD [.dct [(.inr "a", .int 1)]] S = some (.str (PyData.dict [(.str "a", .int 1)]).shown, S) := by
  show (if (PyData.showable (.dict [(.str "a", .int 1)]) && decide ((PyData.dict [(.str "a", .int 1)]).shown.length ≤ lim) && decide ((PyData.dict [(.str "a", .int 1)]).depth ≤ 64)) = true then some (Dv.str (PyData.dict [(.str "a", .int 1)]).shown, S) else none) = _
  rw [if_pos (by decide +kernel)]
theorem fine_odd : ∀ d ∈ odA ++ odB, Fine d := by
  intro d hd
  simp only [odA, odB, List.cons_append, List.nil_append, List.mem_cons, List.not_mem_nil, or_false] at hd
  rcases hd with rfl | rfl | rfl | rfl | rfl | rfl | rfl | rfl | rfl | rfl | rfl | rfl | rfl | rfl | rfl | rfl | rfl | rfl | rfl | rfl | rfl | rfl | rfl | rfl | rfl
  all_goals first
    | exact fine_of rfl (by decide +kernel) (fun S => rfl)
    | exact fine_of rfl (by decide +kernel) (fun S => by simp [okC, okF, okT, okN, tyD])
    | exact ⟨fun S => rfl, _, repr_a⟩
    | exact ⟨fun S => rfl, _, fun S => rfl⟩
def noL : List Dv := [.non, .bl true, .int 0, .int 1, .str "1", .tup [], .fz [], .dct [], .fz [.tup [.int 1, .int 1]], .tup [.tup [.int 1, .int 2]], .tup [.tup [.int 1, .int 2], .tup [.int 1, .int 3]], .tup [.tup [.int 2, .int 2]], .tup [.tup [.int 1, .int 1], .tup [.int 0, .int 2]],
  .tup [.tup [.int 3, .int 2], .tup [.int (-1), .int 2]], .tup [.tup [.bl true, .int 1]], .tup [.tup [.int 1, .bl true]], .tup [.tup [.int 1, .int 1, .int 1]], .tup [.fz [.int 1, .int 1]], .tup [.int 1, .int 1],
  .tup [.tup [.int 1, .int 31], .tup [.int 30, .int 31]], .tup [.tup [.int 1, .int 20], .tup [.int 1, .int 30], .tup [.int 11, .int 12]],
  .tup (List.replicate 7 (.tup [.int 1, .int 7])), .tup [.tup [.int 1, .int 2], .tup [.int 1, .int 4], .tup [.int 1, .int 4], .non], .tup [.tup [.int 1, .int 0], .tup [.int 1, .int 1]], .tup [.tup [.int 1, .int (-1)], .tup [.int 2, .int 1]], .tup [.str "1"],
  .tup [.tup [.int 1, .int 5], .tup [.int 1, .int 7], .tup [.int 23, .int 35]], .tup ([.tup [.int 1, .int 1]] ++ List.replicate 6 (.tup [.int 0, .int 1])), .tup [.tup [.int 1, .int 2], .tup [.int 1, .int 2], .tup [.int 1, .int 2], .tup [.int (-1), .int 2]]]
noncomputable def b_law_no_chances : DS :=
 (cSeq (cSet 0 (eLst false (lCons (eC .non) (lCons (eC (.bl true)) (lCons (eC (.int 0)) (lCons (eC (.int 1)) (lCons (eC (.str "1")) (lCons (eTup lNil) (lCons (eLst false lNil) (lCons eDEm (lCons (eLst false (lCons (eTup (lCons (eC (.int 1)) (lCons (eC (.int 1)) lNil))) lNil)) (lCons (eTup (lCons (eTup (lCons (eC (.int 1)) (lCons (eC (.int 2)) lNil))) lNil)) (lCons (eTup (lCons (eTup (lCons (eC (.int 1)) (lCons (eC (.int 2)) lNil))) (lCons (eTup (lCons (eC (.int 1)) (lCons (eC (.int 3)) lNil))) lNil))) (lCons (eTup (lCons (eTup (lCons (eC (.int 2)) (lCons (eC (.int 2)) lNil))) lNil)) (lCons (eTup (lCons (eTup (lCons (eC (.int 1)) (lCons (eC (.int 1)) lNil))) (lCons (eTup (lCons (eC (.int 0)) (lCons (eC (.int 2)) lNil))) lNil))) lNil)))))))))))))))
 (cSeq (cSet 0 (eOp (opAdd false) (eVar 0) (eLst false (lCons (eTup (lCons (eTup (lCons (eC (.int 3)) (lCons (eC (.int 2)) lNil))) (lCons (eTup (lCons (eUn dNeg (eC (.int 1))) (lCons (eC (.int 2)) lNil))) lNil))) (lCons (eTup (lCons (eTup (lCons (eC (.bl true)) (lCons (eC (.int 1)) lNil))) lNil)) (lCons (eTup (lCons (eTup (lCons (eC (.int 1)) (lCons (eC (.bl true)) lNil))) lNil)) (lCons (eTup (lCons (eTup (lCons (eC (.int 1)) (lCons (eC (.int 1)) (lCons (eC (.int 1)) lNil)))) lNil)) (lCons (eTup (lCons (eLst false (lCons (eC (.int 1)) (lCons (eC (.int 1)) lNil))) lNil)) (lCons (eTup (lCons (eC (.int 1)) (lCons (eC (.int 1)) lNil))) lNil)))))))))
 (cSeq (cSet 0 (eOp (opAdd false) (eVar 0) (eLst false (lCons (eTup (lCons (eTup (lCons (eC (.int 1)) (lCons (eC (.int 31)) lNil))) (lCons (eTup (lCons (eC (.int 30)) (lCons (eC (.int 31)) lNil))) lNil))) (lCons (eTup (lCons (eTup (lCons (eC (.int 1)) (lCons (eC (.int 20)) lNil))) (lCons (eTup (lCons (eC (.int 1)) (lCons (eC (.int 30)) lNil))) (lCons (eTup (lCons (eC (.int 11)) (lCons (eC (.int 12)) lNil))) lNil)))) lNil)))))
 (cSeq (cSet 0 (eOp (opAdd false) (eVar 0) (eLst false (lCons (eOp (opMul false) (eTup (lCons (eTup (lCons (eC (.int 1)) (lCons (eC (.int 7)) lNil))) lNil)) (eC (.int 7))) (lCons (eTup (lCons (eTup (lCons (eC (.int 1)) (lCons (eC (.int 2)) lNil))) (lCons (eTup (lCons (eC (.int 1)) (lCons (eC (.int 4)) lNil))) (lCons (eTup (lCons (eC (.int 1)) (lCons (eC (.int 4)) lNil))) (lCons (eC .non) lNil))))) (lCons (eTup (lCons (eTup (lCons (eC (.int 1)) (lCons (eC (.int 0)) lNil))) (lCons (eTup (lCons (eC (.int 1)) (lCons (eC (.int 1)) lNil))) lNil))) (lCons (eTup (lCons (eTup (lCons (eC (.int 1)) (lCons (eUn dNeg (eC (.int 1))) lNil))) (lCons (eTup (lCons (eC (.int 2)) (lCons (eC (.int 1)) lNil))) lNil))) (lCons (eTup (lCons (eC (.str "1")) lNil)) lNil))))))))
 (cSeq (cRet (eOp (opAdd false) (eVar 0) (eLst false (lCons (eTup (lCons (eTup (lCons (eC (.int 1)) (lCons (eC (.int 5)) lNil))) (lCons (eTup (lCons (eC (.int 1)) (lCons (eC (.int 7)) lNil))) (lCons (eTup (lCons (eC (.int 23)) (lCons (eC (.int 35)) lNil))) lNil)))) (lCons (eOp (opAdd false) (eTup (lCons (eTup (lCons (eC (.int 1)) (lCons (eC (.int 1)) lNil))) lNil)) (eOp (opMul false) (eTup (lCons (eTup (lCons (eC (.int 0)) (lCons (eC (.int 1)) lNil))) lNil)) (eC (.int 6)))) (lCons (eTup (lCons (eTup (lCons (eC (.int 1)) (lCons (eC (.int 2)) lNil))) (lCons (eTup (lCons (eC (.int 1)) (lCons (eC (.int 2)) lNil))) (lCons (eTup (lCons (eC (.int 1)) (lCons (eC (.int 2)) lNil))) (lCons (eTup (lCons (eUn dNeg (eC (.int 1))) (lCons (eC (.int 2)) lNil))) lNil))))) lNil))))))
 cNil)))))
noncomputable def r_law_no_chances : Den := runF 1 b_law_no_chances
theorem no_run (S : Sto) : r_law_no_chances [] S = .ok (.fz noL) S := by
  refine f_val0 (ρ0 := [none]) (d := .fz noL) rfl ?_ rfl
  rfl
theorem ch_no {d : Dv} (l : List Rat) (e : d = chs l) (h : sumR l ≠ 1 ∨ 30 < lcmD l ∨ 6 < l.length ∨ l.length < 1 ∨ ∃ q ∈ l, q < 0) : isCh d = false := by
  rw [e]
  simp only [isCh, chs, unFrs_map]
  refine decide_eq_false fun c => ?_
  rcases h with h | h | h | h | ⟨q, h1, h2⟩
  · exact h c.one
  · exact absurd c.bot (by omega)
  · exact absurd c.many.2 (by omega)
  · exact absurd c.many.1 (by omega)
  · exact absurd (c.nn q h1) (Rat.not_le.mpr h2)
theorem frl {q : Rat} {a : Int} {b : Nat} (e : q.num = a) (e2 : q.den = b) : fr q = .tup [.int a, .int b] := by rw [fr, e, e2]
theorem noL_bad : ∀ d ∈ noL, (∀ S, okC S d = true) ∧ isCh d = false := by
  intro d hd
  simp only [noL, List.mem_cons, List.not_mem_nil, or_false] at hd
  have f (q : Rat) (a : Int) (b : Nat) (e : q.num = a) (e2 : q.den = b) : fr q = .tup [.int a, .int b] := frl e e2
  have f12 := f (1 / 2) 1 2 (by decide +kernel) (by decide +kernel)
  have f13 := f (1 / 3) 1 3 (by decide +kernel) (by decide +kernel)
  have f14 := f (1 / 4) 1 4 (by decide +kernel) (by decide +kernel)
  have f32 := f (3 / 2) 3 2 (by decide +kernel) (by decide +kernel)
  have fm := f (-1 / 2) (-1) 2 (by decide +kernel) (by decide +kernel)
  have a1 := f (1 / 31) 1 31 (by decide +kernel) (by decide +kernel)
  have a2 := f (30 / 31) 30 31 (by decide +kernel) (by decide +kernel)
  have b1 := f (1 / 20) 1 20 (by decide +kernel) (by decide +kernel)
  have b2 := f (1 / 30) 1 30 (by decide +kernel) (by decide +kernel)
  have b3 := f (11 / 12) 11 12 (by decide +kernel) (by decide +kernel)
  have c7 := f (1 / 7) 1 7 (by decide +kernel) (by decide +kernel)
  have c5 := f (1 / 5) 1 5 (by decide +kernel) (by decide +kernel)
  have c35 := f (23 / 35) 23 35 (by decide +kernel) (by decide +kernel)
  have n1 := f 1 1 1 (by decide +kernel) (by decide +kernel)
  have n0 := f 0 0 1 (by decide +kernel) (by decide +kernel)
  rcases hd with rfl | rfl | rfl | rfl | rfl | rfl | rfl | rfl | rfl | rfl | rfl | rfl | rfl | rfl | rfl | rfl | rfl | rfl | rfl | rfl | rfl | rfl | rfl | rfl | rfl | rfl | rfl | rfl | rfl
  all_goals refine ⟨fun S => by first | rfl | (simp [okC, okF, okT, okN, tyD, List.replicate]; done), ?_⟩
  case inr.inr.inr.inr.inr.inl => exact ch_no [] rfl (.inr (.inr (.inr (.inl (by decide)))))
  case inr.inr.inr.inr.inr.inr.inr.inr.inr.inl => exact ch_no [1 / 2] (by simp only [chs, List.map_cons, List.map_nil, f12]; rfl) (.inl (by decide +kernel))
  case inr.inr.inr.inr.inr.inr.inr.inr.inr.inr.inl => exact ch_no [1 / 2, 1 / 3] (by simp only [chs, List.map_cons, List.map_nil, f12, f13]; rfl) (.inl (by decide +kernel))
  case inr.inr.inr.inr.inr.inr.inr.inr.inr.inr.inr.inr.inr.inl => exact ch_no [3 / 2, -1 / 2] (by simp only [chs, List.map_cons, List.map_nil, f32, fm]; rfl) (.inr (.inr (.inr (.inr ⟨-1 / 2, by simp, by decide +kernel⟩))))
  all_goals first
    | rfl
    | (simp [isCh, unFrs, isFr, List.replicate]; done)
    | exact ch_no [1 / 31, 30 / 31] (by simp only [chs, List.map_cons, List.map_nil, a1, a2]; rfl) (.inr (.inl (by decide +kernel)))
    | exact ch_no [1 / 20, 1 / 30, 11 / 12] (by simp only [chs, List.map_cons, List.map_nil, b1, b2, b3]; rfl) (.inr (.inl (by decide +kernel)))
    | exact ch_no (List.replicate 7 (1 / 7)) (by simp only [chs, List.map_replicate, c7]; rfl) (.inr (.inr (.inl (by decide))))
    | exact ch_no [1 / 5, 1 / 7, 23 / 35] (by simp only [chs, List.map_cons, List.map_nil, c5, c7, c35]; rfl) (.inr (.inl (by decide +kernel)))
    | exact ch_no ([1] ++ List.replicate 6 0) (by simp only [chs, List.map_append, List.map_replicate, List.map_cons, List.map_nil, n1, n0]; rfl) (.inr (.inr (.inl (by decide))))
    | exact ch_no [1 / 2, 1 / 2, 1 / 2, -1 / 2] (by simp only [chs, List.map_cons, List.map_nil, f12, fm]; rfl) (.inr (.inr (.inr (.inr ⟨-1 / 2, by simp, by decide +kernel⟩))))
noncomputable def b_law_L1 : DS :=
 (cSeq (cIf (tTs (eOp opIsnt (eCall 1 r_is_chances (lCons (eVar 1) lNil)) (eC (.bl false))))
 (cSeq (cRet (eC (.bl false)))
 cNil)
 cNil)
 (cWipe [1]))
noncomputable def b_law_L2 : DS :=
 (cSeq (cSet 5 (eBi fReprD (lCons (eVar 1) lNil)))
 (cSeq (cIf (tOr2 (tNot2 (tTs (eCall 2 r_law_same (lCons (eCall 1 r_is_chances (lCons (eVar 1) lNil)) (lCons (eCall 1 r_law_are_chances (lCons (eVar 1) lNil)) lNil))))) (tTs (eOp opNe (eBi fReprD (lCons (eVar 1) lNil)) (eVar 5))))
 (cSeq (cRet (eC (.bl false)))
 cNil)
 cNil)
 (cWipe [1, 5])))
noncomputable def b_law_L3 : DS :=
 (cSeq (cFor (iSeq (eCall 2 r_law_near (lCons (eVar 3) (lCons (eCall 1 r_law_chances (lCons (eVar 3) lNil)) lNil)))) (.nm 1) b_law_L2)
 (cWipe [1, 4, 5]))
noncomputable def b_law_L4 : DS :=
 (cSeq (cSet 3 (eCall 1 r_law_pen (lCons (eCall 2 r_law_cell_at (lCons (eVar 0) (lCons (eVar 2) lNil))) lNil)))
 (cSeq (cFor (iRange1 (lCons (eC (.int 3)) lNil)) (.nm 4) b_law_L3)
 (cWipe [1, 2, 3, 4, 5])))
noncomputable def b_law : DS :=
 (cSeq (cFor (iSeq (fun _ S => r_law_no_chances [] S)) (.nm 1) b_law_L1)
 (cSeq (cFor (iRange1 (lCons (eBi fMax2 (lCons (eC (.int 1)) (lCons (eBi fMin2 (lCons (eBi fLen (lCons (eVar 0) lNil)) (lCons (eC (.int 3)) lNil))) lNil))) lNil)) (.nm 2) b_law_L4)
 (cSeq (cRet (eC (.bl true)))
 cNil)))
noncomputable def r_law : Den := runF 6 b_law
theorem show_bl (b : Bool) : showOk (.bool b) = true := by cases b <;> decide +kernel
theorem thing_lap {d : Dv} (h : Fine d) (sc k pn lp : Option Dv) (S : Sto) : b_law_L2 [sc, some d, k, pn, lp, none] S = .ok (.nx [sc, none, k, pn, lp, none]) S := by
  obtain ⟨x, hx⟩ := h.shown
  have ic := is_chances_run (h.ok S)
  have ac : r_law_are_chances [d] S = .ok (.bl (isCh d)) S := by
    have := m_law_are_chances_ok d S _ rfl
    rw [are_eq (h.ok [])] at this
    obtain ⟨z, q1, q2⟩ := this
    cases q2
    exact q1
  have sm := law_same_run (S := S) (d := .bl (isCh d)) (e := .bl (isCh d)) (p := .bool (isCh d)) (flat_py rfl S) (flat_py rfl S) (show_bl _)
  have ne : opNe (.str x) (.str x) S = some (.bl false, S) := by simp [opNe, eqD]
  unfold b_law_L2
  refine seq_go (set_go (d := .str x) (S1 := S) ?_) (seq_go (if_f (S1 := S) ?_ nil_go) rfl)
  · simp only [eBi, lCons, lNil, eVar, List.getElem?_cons_zero, List.getElem?_cons_succ, Res.bd_ok, hx, ofO]
  · simp only [tOr2, tNot2, tTs, eCall, eOp, eBi, lCons, lNil, eVar, List.set_cons_succ, List.set_cons_zero, List.getElem?_cons_zero, List.getElem?_cons_succ, Res.bd_ok, List.length_cons, List.length_nil, if_true, ic, ac, sm, hx, ofO, ne, Bool.not_true, Bool.false_eq_true, if_false]
theorem things_run (L : List Dv) (hL : ∀ d ∈ L, Fine d) (hl : L.length ≤ 1000) (sc k pn lp : Option Dv) (S : Sto) : forL (itSeq (.fz L)) (.nm 1) b_law_L2 big 0 [sc, none, k, pn, lp, none] S = .ok (.nx [sc, none, k, pn, lp, none]) S := by
  obtain ⟨o, S', e, rfl, rfl⟩ := forL_run (it := itSeq (.fz L)) (tg := .nm 1) (b := b_law_L2) (N := L.length)
    (fun i ρ S1 => ρ = [sc, none, k, pn, lp, none] ∧ S1 = S)
    (fun o S1 => o = .nx [sc, none, k, pn, lp, none] ∧ S1 = S)
    (fun i ρ S1 hi hh => by
      obtain ⟨rfl, rfl⟩ := hh
      exact ⟨L[i], _, by simp [itSeq, seqOf, listOf, List.getElem?_eq_getElem hi], rfl, _, _, thing_lap (hL _ (List.getElem_mem hi)) sc k pn lp S1, rfl, rfl⟩)
    (fun ρ S1 hh => by
      obtain ⟨rfl, rfl⟩ := hh
      exact ⟨by simp [itSeq, seqOf, listOf], rfl, rfl⟩)
    big 0 [sc, none, k, pn, lp, none] S (Nat.zero_le _) (by rw [big_eq]; omega) ⟨rfl, rfl⟩
  exact e
theorem lap_run {S : Sto} {n N : Nat} {p : Pen} (sc k lp : Option Dv) (hn : S[n]? = some p.ob) (hp : penB p N) (hN : N + 300 ≤ 2 ^ 200) :
    ∃ p' : Pen, penB p' (N + 300) ∧ b_law_L3 [sc, none, k, some (.ref n), lp, none] S = .ok (.nx [sc, none, k, some (.ref n), none, none]) (S.set n p'.ob) := by
  have e1 := law_chances_run hn hp (by omega)
  have ch := chF_chances p
  have hb := chF_pen hp
  generalize chF p = D at *
  have nl := (List.getElem?_eq_some_iff.mp hn).1
  have hn2 : (S.set n D.pen.ob)[n]? = some D.pen.ob := List.getElem?_set_self nl
  obtain ⟨kk, x, y, p', hk, hx, hy, hp', e2⟩ := law_near_run ch hn2 hb (by omega)
  rw [List.set_set] at e2
  refine ⟨p', hp'.mono (by omega), ?_⟩
  have fine : ∀ d ∈ ((nrS (D.qs.getD kk 0)).map (nrT D.qs kk)) ++ nrM D.qs ++ [chs D.qs, x, y], Fine d := by
    intro d hd
    have nf := near_fine ch hk
    rcases List.mem_append.mp hd with hd | hd
    · exact nf d (List.mem_append_left _ hd)
    · simp only [List.mem_cons, List.not_mem_nil, or_false] at hd
      rcases hd with rfl | rfl | rfl
      · exact nf _ (List.mem_append_right _ (by simp))
      · exact fine_odd _ hx
      · exact fine_odd _ hy
  have tr := things_run _ fine (by simp [nrS, nrM]) sc k (some (.ref n)) lp (S.set n p'.ob)
  generalize ((nrS (D.qs.getD kk 0)).map (nrT D.qs kk)) ++ nrM D.qs ++ [chs D.qs, x, y] = LL at *
  unfold b_law_L3
  refine seq_go (for_go (it := itSeq (.fz LL)) (S1 := S.set n p'.ob) ?_ tr) rfl
  simp only [iSeq, eCall, lCons, lNil, eVar, List.getElem?_cons_zero, List.getElem?_cons_succ, Res.bd_ok, List.length_cons, List.length_nil, if_true, e1, e2]
  rfl
theorem no_lap {d : Dv} (h : (∀ S, okC S d = true) ∧ isCh d = false) (sc k pn lp kp : Option Dv) (S : Sto) : b_law_L1 [sc, some d, k, pn, lp, kp] S = .ok (.nx [sc, none, k, pn, lp, kp]) S := by
  have ic := is_chances_run (h.1 S)
  rw [h.2] at ic
  have ne : opIsnt (.bl false) (.bl false) S = some (.bl false, S) := by simp [opIsnt, isD]
  unfold b_law_L1
  refine seq_go (if_f (S1 := S) ?_ nil_go) rfl
  simp only [tTs, eCall, eOp, eC, lCons, lNil, eVar, List.getElem?_cons_zero, List.getElem?_cons_succ, Res.bd_ok, List.length_cons, List.length_nil, if_true, ic, ne, ofO]
theorem nos_run (sc : Option Dv) (S : Sto) : forL (itSeq (.fz noL)) (.nm 1) b_law_L1 big 0 [sc, none, none, none, none, none] S = .ok (.nx [sc, none, none, none, none, none]) S := by
  obtain ⟨o, S', e, rfl, rfl⟩ := forL_run (it := itSeq (.fz noL)) (tg := .nm 1) (b := b_law_L1) (N := noL.length)
    (fun i ρ S1 => ρ = [sc, none, none, none, none, none] ∧ S1 = S)
    (fun o S1 => o = .nx [sc, none, none, none, none, none] ∧ S1 = S)
    (fun i ρ S1 hi hh => by
      obtain ⟨rfl, rfl⟩ := hh
      exact ⟨noL[i], _, by simp [itSeq, seqOf, listOf, List.getElem?_eq_getElem hi], rfl, _, _, no_lap (noL_bad _ (List.getElem_mem hi)) sc none none none none S1, rfl, rfl⟩)
    (fun ρ S1 hh => by
      obtain ⟨rfl, rfl⟩ := hh
      exact ⟨by simp [itSeq, seqOf, listOf], rfl, rfl⟩)
    big 0 [sc, none, none, none, none, none] S (Nat.zero_le _) (by rw [big_eq]; decide) ⟨rfl, rfl⟩
  exact e
theorem cell_run (S : Sto) (ns : List Int) (k : Nat) : ∃ p2 : Pen, b_law_L4 [some (.fz (ns.map Dv.int)), none, some (.int (k : Nat)), none, none, none] S = .ok (.nx [some (.fz (ns.map Dv.int)), none, none, none, none, none]) (S ++ [p2.ob]) := by
  have big2 : 2 ^ 40 ≤ 2 ^ 200 := Nat.pow_le_pow_right (by decide) (by decide)
  have key : ∃ o S', forL (itRange 0 3) (.nm 4) b_law_L3 big 0 [some (.fz (ns.map Dv.int)), none, some (.int (k : Nat)), some (.ref S.length), none, none] (S ++ [(pen0 (ns[k]?.getD 0)).ob]) = .ok o S' ∧
      ∃ p2 : Pen, o = .nx [some (.fz (ns.map Dv.int)), none, some (.int (k : Nat)), some (.ref S.length), none, none] ∧ S' = S ++ [p2.ob] := by
    refine forL_run (N := 3) (fun j ρ S1 => ∃ p, penB p (300 * j) ∧ ρ = [some (.fz (ns.map Dv.int)), none, some (.int (k : Nat)), some (.ref S.length), none, none] ∧ S1 = S ++ [p.ob]) _ ?_ ?_ big 0 _ _ (Nat.zero_le _) ?_ ?_
    · rintro j ρ S1 hj ⟨p, hp, rfl, rfl⟩
      obtain ⟨p2, hp2, e⟩ := lap_run (S := S ++ [p.ob]) (n := S.length) (N := 300 * j) (some (.fz (ns.map Dv.int))) (some (.int (k : Nat))) (some (.int (0 + (j : Nat)))) (by simp) hp (by
        have : 2 ^ 40 = 1099511627776 := by decide
        omega)
      rw [show (S ++ [p.ob]).set S.length p2.ob = S ++ [p2.ob] by simp] at e
      exact ⟨_, _, by simp only [itRange, hj, if_true], rfl, _, _, e, p2, hp2.mono (by omega), rfl, rfl⟩
    · rintro ρ S1 ⟨p, hp, rfl, rfl⟩
      exact ⟨by simp [itRange], _, rfl, rfl⟩
    · rw [big_eq]
      decide
    · exact ⟨pen0 (ns[k]?.getD 0), penB0 _, rfl, rfl⟩
  obtain ⟨o, S', e, p2, rfl, rfl⟩ := key
  refine ⟨p2, ?_⟩
  unfold b_law_L4
  refine seq_go (set_go (d := .ref S.length) (S1 := S ++ [(pen0 (ns[k]?.getD 0)).ob]) ?_) (seq_go (for_go (it := itRange 0 3) (S1 := S ++ [(pen0 (ns[k]?.getD 0)).ob]) ?_ e) rfl)
  · simp only [eCall, lCons, lNil, eVar, List.getElem?_cons_zero, List.getElem?_cons_succ, Res.bd_ok, List.length_cons, List.length_nil, if_true, cell_at_run, law_pen_run]
  · simp only [iRange1, lCons, lNil, eC, Res.bd_ok, rngB_iff.mpr (show -(2 ^ 62) ≤ (3 : Int) ∧ (3 : Int) < 2 ^ 62 by omega), if_true]
    rfl
theorem says_law : Says r_law := by
  intro ns hns _
  refine ⟨[], ?_⟩
  obtain ⟨M, h1, h3, hit⟩ := laps_run (ns := ns.map Dv.int)
  have key : ∃ o S', forL (itRange 0 M) (.nm 2) b_law_L4 big 0 [some (.fz (ns.map Dv.int)), none, none, none, none, none] [] = .ok o S' ∧ o = .nx [some (.fz (ns.map Dv.int)), none, none, none, none, none] := by
    refine forL_run (N := M) (fun j ρ S1 => ρ = [some (.fz (ns.map Dv.int)), none, none, none, none, none]) _ ?_ ?_ big 0 _ _ (Nat.zero_le _) ?_ rfl
    · rintro j ρ S1 hj rfl
      obtain ⟨p2, e⟩ := cell_run S1 ns j
      rw [← Int.zero_add (j : Int)] at e
      exact ⟨_, _, by simp only [itRange, hj, if_true], rfl, _, _, e, rfl⟩
    · rintro ρ S1 rfl
      exact ⟨by simp [itRange], rfl⟩
    · rw [big_eq]
      omega
  obtain ⟨o, S', e, rfl⟩ := key
  refine f_val (G := S') (ρ0 := [some (.fz (ns.map Dv.int)), none, none, none, none, none]) rfl ?_ rfl
  unfold b_law
  exact seq_go (for_go (it := itSeq (.fz noL)) (S1 := []) (by simp only [iSeq, no_run, Res.bd_ok]; rfl) (nos_run _ [])) (seq_go (for_go (it := itRange 0 M) (S1 := []) (hit _ _ rfl) e) (seq_rt (ret_go rfl)))
end Fc
set_option maxHeartbeats 0
namespace Fc
open PySem L2
abbrev N_law_no_chances : List Str := ["_law_found"]
theorem sc_law_no_chances : FnScope N_law_no_chances [] (defScope D_law_no_chances) := ⟨rfl, rfl, rfl, by decide +kernel, rfl, by decide +kernel, by decide +kernel⟩
abbrev N_is_integer : List Str := ["value"]
theorem sc_is_integer : FnScope N_is_integer ["value"] (defScope D_is_integer) := ⟨rfl, rfl, rfl, by decide +kernel, rfl, by decide +kernel, by decide +kernel⟩
abbrev N_greatest_divisor : List Str := ["one", "other"]
theorem sc_greatest_divisor : FnScope N_greatest_divisor ["one", "other"] (defScope D_greatest_divisor) := ⟨rfl, rfl, rfl, by decide +kernel, rfl, by decide +kernel, by decide +kernel⟩
abbrev N_is_fraction : List Str := ["value"]
theorem sc_is_fraction : FnScope N_is_fraction ["value"] (defScope D_is_fraction) := ⟨rfl, rfl, rfl, by decide +kernel, rfl, by decide +kernel, by decide +kernel⟩
abbrev N_ratio : List Str := ["top", "bottom", "divisor"]
theorem sc_ratio : FnScope N_ratio ["top", "bottom"] (defScope D_ratio) := ⟨rfl, rfl, rfl, by decide +kernel, rfl, by decide +kernel, by decide +kernel⟩
abbrev N_plus : List Str := ["one", "other"]
theorem sc_plus : FnScope N_plus ["one", "other"] (defScope D_plus) := ⟨rfl, rfl, rfl, by decide +kernel, rfl, by decide +kernel, by decide +kernel⟩
abbrev N_added : List Str := ["values", "result", "value"]
theorem sc_added : FnScope N_added ["values"] (defScope D_added) := ⟨rfl, rfl, rfl, by decide +kernel, rfl, by decide +kernel, by decide +kernel⟩
abbrev N_common_bottom : List Str := ["values", "result", "top", "bottom"]
theorem sc_common_bottom : FnScope N_common_bottom ["values"] (defScope D_common_bottom) := ⟨rfl, rfl, rfl, by decide +kernel, rfl, by decide +kernel, by decide +kernel⟩
abbrev N_is_chances : List Str := ["value", "chance"]
theorem sc_is_chances : FnScope N_is_chances ["value"] (defScope D_is_chances) := ⟨rfl, rfl, rfl, by decide +kernel, rfl, by decide +kernel, by decide +kernel⟩
abbrev N_law_cell_at : List Str := ["_law_script", "_law_k"]
theorem sc_law_cell_at : FnScope N_law_cell_at ["_law_script", "_law_k"] (defScope D_law_cell_at) := ⟨rfl, rfl, rfl, by decide +kernel, rfl, by decide +kernel, by decide +kernel⟩
abbrev N_law_pen : List Str := ["_law_cell"]
theorem sc_law_pen : FnScope N_law_pen ["_law_cell"] (defScope D_law_pen) := ⟨rfl, rfl, rfl, by decide +kernel, rfl, by decide +kernel, by decide +kernel⟩
abbrev N_law_draw : List Str := ["_law_pen_here", "_law_many", "_law_found", "_law_mixed"]
theorem sc_law_draw : FnScope N_law_draw ["_law_pen_here", "_law_many"] (defScope D_law_draw) := ⟨rfl, rfl, rfl, by decide +kernel, rfl, by decide +kernel, by decide +kernel⟩
abbrev N_law_fraction : List Str := ["_law_top", "_law_bottom", "_law_one", "_law_other"]
theorem sc_law_fraction : FnScope N_law_fraction ["_law_top", "_law_bottom"] (defScope D_law_fraction) := ⟨rfl, rfl, rfl, by decide +kernel, rfl, by decide +kernel, by decide +kernel⟩
abbrev N_law_chances : List Str := ["_law_pen_here", "_law_bottom", "_law_many", "_law_cuts", "_law_ends", "_law_lap", "_law_one", "_law_later"]
theorem sc_law_chances : FnScope N_law_chances ["_law_pen_here"] (defScope D_law_chances) := ⟨rfl, rfl, rfl, by decide +kernel, rfl, by decide +kernel, by decide +kernel⟩
abbrev N_law_pick : List Str := ["_law_pen_here", "_law_some"]
theorem sc_law_pick : FnScope N_law_pick ["_law_pen_here", "_law_some"] (defScope D_law_pick) := ⟨rfl, rfl, rfl, by decide +kernel, rfl, by decide +kernel, by decide +kernel⟩
abbrev N_law_odd : List Str := ["_law_pen_here", "_law_some"]
theorem sc_law_odd : FnScope N_law_odd ["_law_pen_here"] (defScope D_law_odd) := ⟨rfl, rfl, rfl, by decide +kernel, rfl, by decide +kernel, by decide +kernel⟩
abbrev N_law_near : List Str := ["_law_pen_here", "_law_chances_here", "_law_place", "_law_top", "_law_bottom", "_law_some", "_law_found", "_law_other"]
theorem sc_law_near : FnScope N_law_near ["_law_pen_here", "_law_chances_here"] (defScope D_law_near) := ⟨rfl, rfl, rfl, by decide +kernel, rfl, by decide +kernel, by decide +kernel⟩
abbrev N_law_is_whole : List Str := ["_law_thing"]
theorem sc_law_is_whole : FnScope N_law_is_whole ["_law_thing"] (defScope D_law_is_whole) := ⟨rfl, rfl, rfl, by decide +kernel, rfl, by decide +kernel, by decide +kernel⟩
abbrev N_law_is_fraction : List Str := ["_law_thing", "_law_part"]
theorem sc_law_is_fraction : FnScope N_law_is_fraction ["_law_thing"] (defScope D_law_is_fraction) := ⟨rfl, rfl, rfl, by decide +kernel, rfl, by decide +kernel, by decide +kernel⟩
abbrev N_law_add : List Str := ["_law_one", "_law_other"]
theorem sc_law_add : FnScope N_law_add ["_law_one", "_law_other"] (defScope D_law_add) := ⟨rfl, rfl, rfl, by decide +kernel, rfl, by decide +kernel, by decide +kernel⟩
abbrev N_law_sum : List Str := ["_law_some", "_law_found", "_law_part"]
theorem sc_law_sum : FnScope N_law_sum ["_law_some"] (defScope D_law_sum) := ⟨rfl, rfl, rfl, by decide +kernel, rfl, by decide +kernel, by decide +kernel⟩
abbrev N_law_are_chances : List Str := ["_law_thing", "_law_bottoms", "_law_fits", "_law_top", "_law_bottom", "_law_many", "_law_one"]
theorem sc_law_are_chances : FnScope N_law_are_chances ["_law_thing"] (defScope D_law_are_chances) := ⟨rfl, rfl, rfl, by decide +kernel, rfl, by decide +kernel, by decide +kernel⟩
abbrev N_law_same : List Str := ["_law_found", "_law_due"]
theorem sc_law_same : FnScope N_law_same ["_law_found", "_law_due"] (defScope D_law_same) := ⟨rfl, rfl, rfl, by decide +kernel, rfl, by decide +kernel, by decide +kernel⟩
abbrev N_law : List Str := ["_law_script", "_law_thing", "_law_k", "_law_pen_here", "_law_lap", "_law_kept"]
theorem sc_law : FnScope N_law ["_law_script"] (defScope D_law) := ⟨rfl, rfl, rfl, by decide +kernel, rfl, by decide +kernel, by decide +kernel⟩
structure Txt (K : PySem.W.Frag) (mg : Str → Option Value) (C : Nat → Addr) : Prop where
  n_abs : mg "abs" = none
  n_all : mg "all" = none
  n_bool : mg "bool" = none
  n_int : mg "int" = none
  n_isinstance : mg "isinstance" = none
  n_len : mg "len" = none
  n_list : mg "list" = none
  n_max : mg "max" = none
  n_min : mg "min" = none
  n_range : mg "range" = none
  n_repr : mg "repr" = none
  n_sorted : mg "sorted" = none
  n_tuple : mg "tuple" = none
  n_zip : mg "zip" = none
  g_MOST_BOTTOM : GC K mg "MOST_BOTTOM" (.int 30)
  g_MOST_OUTCOMES : GC K mg "MOST_OUTCOMES" (.int 6)
  g_ONE : GC K mg "ONE" (.tup [.int 1, .int 1])
  g_ZERO : GC K mg "ZERO" (.tup [.int 0, .int 1])
  d_law_no_chances : Fact K mg "_law_no_chances" D_law_no_chances
  d_is_integer : Fact K mg "is_integer" D_is_integer
  d_greatest_divisor : Fact K mg "greatest_divisor" D_greatest_divisor
  d_is_fraction : Fact K mg "is_fraction" D_is_fraction
  d_ratio : Fact K mg "ratio" D_ratio
  d_plus : Fact K mg "plus" D_plus
  d_added : Fact K mg "added" D_added
  d_common_bottom : Fact K mg "common_bottom" D_common_bottom
  d_is_chances : Fact K mg "is_chances" D_is_chances
  d_law_cell_at : Fact K mg "_law_cell_at" D_law_cell_at
  d_law_pen : Fact K mg "_law_pen" D_law_pen
  d_law_draw : Fact K mg "_law_draw" D_law_draw
  d_law_fraction : Fact K mg "_law_fraction" D_law_fraction
  d_law_chances : Fact K mg "_law_chances" D_law_chances
  d_law_pick : Fact K mg "_law_pick" D_law_pick
  d_law_odd : Fact K mg "_law_odd" D_law_odd
  d_law_near : Fact K mg "_law_near" D_law_near
  d_law_is_whole : Fact K mg "_law_is_whole" D_law_is_whole
  d_law_is_fraction : Fact K mg "_law_is_fraction" D_law_is_fraction
  d_law_add : Fact K mg "_law_add" D_law_add
  d_law_sum : Fact K mg "_law_sum" D_law_sum
  d_law_are_chances : Fact K mg "_law_are_chances" D_law_are_chances
  d_law_same : Fact K mg "_law_same" D_law_same
  d_law : Fact K mg "law" D_law
section
variable {P : Program} {w : World} {K : PySem.W.Frag} {mg : Str → Option Value} {base : Heap} {C : Nat → Addr}
theorem ok_law_no_chances (T : Txt K mg C)  : Df P w K mg base C "_law_no_chances" 0 1 r_law_no_chances :=
 (df_of (k := 0) T.d_law_no_chances sc_law_no_chances (fun _ _ _ _ _ _ us hl => match us, hl with | [], _ => rfl) fun f cdv A outer s H E c =>
 (ss_cons (ss_set 0 c.nd (se_lst false (sl_cons se_non (sl_cons se_bl (sl_cons se_int (sl_cons se_int (sl_cons se_str (sl_cons (se_tup sl_nil) (sl_cons (se_lst false sl_nil) (sl_cons se_dem (sl_cons (se_lst false (sl_cons (se_tup (sl_cons se_int (sl_cons se_int sl_nil))) sl_nil)) (sl_cons (se_tup (sl_cons (se_tup (sl_cons se_int (sl_cons se_int sl_nil))) sl_nil)) (sl_cons (se_tup (sl_cons (se_tup (sl_cons se_int (sl_cons se_int sl_nil))) (sl_cons (se_tup (sl_cons se_int (sl_cons se_int sl_nil))) sl_nil))) (sl_cons (se_tup (sl_cons (se_tup (sl_cons se_int (sl_cons se_int sl_nil))) sl_nil)) (sl_cons (se_tup (sl_cons (se_tup (sl_cons se_int (sl_cons se_int sl_nil))) (sl_cons (se_tup (sl_cons se_int (sl_cons se_int sl_nil))) sl_nil))) sl_nil)))))))))))))))
 (ss_cons (ss_set 0 c.nd (se_op (ops_add false) (se_name 0) (se_lst false (sl_cons (se_tup (sl_cons (se_tup (sl_cons se_int (sl_cons se_int sl_nil))) (sl_cons (se_tup (sl_cons (se_neg2 se_int) (sl_cons se_int sl_nil))) sl_nil))) (sl_cons (se_tup (sl_cons (se_tup (sl_cons se_bl (sl_cons se_int sl_nil))) sl_nil)) (sl_cons (se_tup (sl_cons (se_tup (sl_cons se_int (sl_cons se_bl sl_nil))) sl_nil)) (sl_cons (se_tup (sl_cons (se_tup (sl_cons se_int (sl_cons se_int (sl_cons se_int sl_nil)))) sl_nil)) (sl_cons (se_tup (sl_cons (se_lst false (sl_cons se_int (sl_cons se_int sl_nil))) sl_nil)) (sl_cons (se_tup (sl_cons se_int (sl_cons se_int sl_nil))) sl_nil)))))))))
 (ss_cons (ss_set 0 c.nd (se_op (ops_add false) (se_name 0) (se_lst false (sl_cons (se_tup (sl_cons (se_tup (sl_cons se_int (sl_cons se_int sl_nil))) (sl_cons (se_tup (sl_cons se_int (sl_cons se_int sl_nil))) sl_nil))) (sl_cons (se_tup (sl_cons (se_tup (sl_cons se_int (sl_cons se_int sl_nil))) (sl_cons (se_tup (sl_cons se_int (sl_cons se_int sl_nil))) (sl_cons (se_tup (sl_cons se_int (sl_cons se_int sl_nil))) sl_nil)))) sl_nil)))))
 (ss_cons (ss_set 0 c.nd (se_op (ops_add false) (se_name 0) (se_lst false (sl_cons (se_op (ops_mul false) (se_tup (sl_cons (se_tup (sl_cons se_int (sl_cons se_int sl_nil))) sl_nil)) se_int) (sl_cons (se_tup (sl_cons (se_tup (sl_cons se_int (sl_cons se_int sl_nil))) (sl_cons (se_tup (sl_cons se_int (sl_cons se_int sl_nil))) (sl_cons (se_tup (sl_cons se_int (sl_cons se_int sl_nil))) (sl_cons se_non sl_nil))))) (sl_cons (se_tup (sl_cons (se_tup (sl_cons se_int (sl_cons se_int sl_nil))) (sl_cons (se_tup (sl_cons se_int (sl_cons se_int sl_nil))) sl_nil))) (sl_cons (se_tup (sl_cons (se_tup (sl_cons se_int (sl_cons (se_neg2 se_int) sl_nil))) (sl_cons (se_tup (sl_cons se_int (sl_cons se_int sl_nil))) sl_nil))) (sl_cons (se_tup (sl_cons se_str sl_nil)) sl_nil))))))))
 (ss_cons (ss_ret (se_op (ops_add false) (se_name 0) (se_lst false (sl_cons (se_tup (sl_cons (se_tup (sl_cons se_int (sl_cons se_int sl_nil))) (sl_cons (se_tup (sl_cons se_int (sl_cons se_int sl_nil))) (sl_cons (se_tup (sl_cons se_int (sl_cons se_int sl_nil))) sl_nil)))) (sl_cons (se_op (ops_add false) (se_tup (sl_cons (se_tup (sl_cons se_int (sl_cons se_int sl_nil))) sl_nil)) (se_op (ops_mul false) (se_tup (sl_cons (se_tup (sl_cons se_int (sl_cons se_int sl_nil))) sl_nil)) se_int)) (sl_cons (se_tup (sl_cons (se_tup (sl_cons se_int (sl_cons se_int sl_nil))) (sl_cons (se_tup (sl_cons se_int (sl_cons se_int sl_nil))) (sl_cons (se_tup (sl_cons se_int (sl_cons se_int sl_nil))) (sl_cons (se_tup (sl_cons (se_neg2 se_int) (sl_cons se_int sl_nil))) sl_nil))))) sl_nil))))))
 ss_nil)))))).tidy
theorem ok_is_integer (T : Txt K mg C)  : Df P w K mg base C "is_integer" 1 1 r_is_integer :=
 (df_of (k := 0) T.d_is_integer sc_is_integer (fun _ _ _ _ _ _ us hl => match us, hl with | [_], _ => rfl) fun f cdv A outer s H E c =>
 (ss_cons (ss_ret (se_and (se_isi .int (se_name 0) T.n_isinstance T.n_int) (se_one (se_not (se_isi .bl (se_name 0) T.n_isinstance T.n_bool)))))
 ss_nil)).tidy
theorem ok_greatest_divisor (T : Txt K mg C)  : Df P w K mg base C "greatest_divisor" 2 1 r_greatest_divisor :=
 (df_of (k := 0) T.d_greatest_divisor sc_greatest_divisor (fun _ _ _ _ _ _ us hl => match us, hl with | [_, _], _ => rfl) fun f cdv A outer s H E c =>
 (ss_cons (ss_par 0 1 c.calm c.nd (sl_cons (se_bi cas_abs T.n_abs PyProof.Rows.boot_abs (sl_cons (se_name 0) sl_nil)) (sl_cons (se_bi cas_abs T.n_abs PyProof.Rows.boot_abs (sl_cons (se_name 1) sl_nil)) sl_nil)))
 (ss_cons (ss_while (cb := b_greatest_divisor_L1) c (st_cmp ops_gt (se_name 1) se_int)
 (ss_cons (ss_par 0 1 c.calm c.nd (sl_cons (se_name 1) (sl_cons (se_op ops_mod (se_name 0) (se_name 1)) sl_nil)))
 ss_nil))
 (ss_cons (ss_ret (se_name 0))
 ss_nil)))).tidy
theorem ok_is_fraction (T : Txt K mg C) (G_is_integer : Df P w K mg base C "is_integer" 1 1 r_is_integer) (G_greatest_divisor : Df P w K mg base C "greatest_divisor" 2 1 r_greatest_divisor) : Df P w K mg base C "is_fraction" 1 2 r_is_fraction :=
 (df_of (k := 1) T.d_is_fraction sc_is_fraction (fun _ _ _ _ _ _ us hl => match us, hl with | [_], _ => rfl) fun f cdv A outer s H E c =>
 (ss_cons (ss_if (st_of (sw_or (st_not (st_val (se_isi .tup (se_name 0) T.n_isinstance T.n_tuple))) (sw_or1 (st_cmp (ops_ne c.h64) (se_bi cas_len T.n_len PySem.boot_len (sl_cons (se_name 0) sl_nil)) se_int))))
 (ss_cons (ss_ret se_bl)
 ss_nil)
 ss_nil)
 (ss_cons (ss_if (st_of (sw_or (st_not (st_val (se_call c G_is_integer (sl_cons (se_ix (se_name 0) se_int) sl_nil)))) (sw_or (st_not (st_val (se_call c G_is_integer (sl_cons (se_ix (se_name 0) se_int) sl_nil)))) (sw_or1 (st_cmp ops_lt (se_ix (se_name 0) se_int) se_int)))))
 (ss_cons (ss_ret se_bl)
 ss_nil)
 ss_nil)
 (ss_cons (ss_ret (se_cmp (ops_eq c.h64) (se_call c G_greatest_divisor (sl_cons (se_ix (se_name 0) se_int) (sl_cons (se_ix (se_name 0) se_int) sl_nil))) se_int))
 ss_nil)))).tidy
theorem ok_ratio (T : Txt K mg C) (G_greatest_divisor : Df P w K mg base C "greatest_divisor" 2 1 r_greatest_divisor) : Df P w K mg base C "ratio" 2 2 r_ratio :=
 (df_of (k := 1) T.d_ratio sc_ratio (fun _ _ _ _ _ _ us hl => match us, hl with | [_, _], _ => rfl) fun f cdv A outer s H E c =>
 (ss_cons (ss_set 2 c.nd (se_call c G_greatest_divisor (sl_cons (se_name 0) (sl_cons (se_name 1) sl_nil))))
 (ss_cons (ss_ret (se_tup (sl_cons (se_op ops_div (se_name 0) (se_name 2)) (sl_cons (se_op ops_div (se_name 1) (se_name 2)) sl_nil))))
 ss_nil))).tidy
theorem ok_plus (T : Txt K mg C) (G_ratio : Df P w K mg base C "ratio" 2 2 r_ratio) : Df P w K mg base C "plus" 2 3 r_plus :=
 (df_of (k := 2) T.d_plus sc_plus (fun _ _ _ _ _ _ us hl => match us, hl with | [_, _], _ => rfl) fun f cdv A outer s H E c =>
 (ss_cons (ss_ret (se_call c G_ratio (sl_cons (se_op (ops_add false) (se_op (ops_mul false) (se_ix (se_name 0) se_int) (se_ix (se_name 1) se_int)) (se_op (ops_mul false) (se_ix (se_name 1) se_int) (se_ix (se_name 0) se_int))) (sl_cons (se_op (ops_mul false) (se_ix (se_name 0) se_int) (se_ix (se_name 1) se_int)) sl_nil))))
 ss_nil)).tidy
theorem ok_added (T : Txt K mg C) (G_plus : Df P w K mg base C "plus" 2 3 r_plus) : Df P w K mg base C "added" 1 4 r_added :=
 (df_of (k := 3) T.d_added sc_added (fun _ _ _ _ _ _ us hl => match us, hl with | [_], _ => rfl) fun f cdv A outer s H E c =>
 (ss_cons (ss_set 1 c.nd (se_glob T.g_ZERO))
 (ss_cons (ss_for (cb := b_added_L1) c (si_seq (se_name 0)) (sg_name 2 c.nd)
 (ss_cons (ss_set 1 c.nd (se_call c G_plus (sl_cons (se_name 1) (sl_cons (se_name 2) sl_nil))))
 (ss_wipe [2])))
 (ss_cons (ss_ret (se_name 1))
 ss_nil)))).tidy
theorem ok_common_bottom (T : Txt K mg C) (G_greatest_divisor : Df P w K mg base C "greatest_divisor" 2 1 r_greatest_divisor) : Df P w K mg base C "common_bottom" 1 2 r_common_bottom :=
 (df_of (k := 1) T.d_common_bottom sc_common_bottom (fun _ _ _ _ _ _ us hl => match us, hl with | [_], _ => rfl) fun f cdv A outer s H E c =>
 (ss_cons (ss_set 1 c.nd se_int)
 (ss_cons (ss_for (cb := b_common_bottom_L1) c (si_seq (se_name 0)) (sg_tup c.calm (sgs_cons (sg_name 2 c.nd) (sgs_cons (sg_name 3 c.nd) sgs_nil)))
 (ss_cons (ss_set 1 c.nd (se_op ops_div (se_op (ops_mul false) (se_name 1) (se_name 3)) (se_call c G_greatest_divisor (sl_cons (se_name 1) (sl_cons (se_name 3) sl_nil)))))
 (ss_wipe [2, 3])))
 (ss_cons (ss_ret (se_name 1))
 ss_nil)))).tidy
theorem ok_is_chances (T : Txt K mg C) (G_is_fraction : Df P w K mg base C "is_fraction" 1 2 r_is_fraction) (G_added : Df P w K mg base C "added" 1 4 r_added) (G_common_bottom : Df P w K mg base C "common_bottom" 1 2 r_common_bottom) : Df P w K mg base C "is_chances" 1 5 r_is_chances :=
 (df_of (k := 4) T.d_is_chances sc_is_chances (fun _ _ _ _ _ _ us hl => match us, hl with | [_], _ => rfl) fun f cdv A outer s H E c =>
 (ss_cons (ss_if (st_of (sw_or (st_not (st_val (se_isi .tup (se_name 0) T.n_isinstance T.n_tuple))) (sw_or1 (st_not (st_chain ops_le ops_le se_int (se_bi cas_len T.n_len PySem.boot_len (sl_cons (se_name 0) sl_nil)) (se_glob T.g_MOST_OUTCOMES))))))
 (ss_cons (ss_ret se_bl)
 ss_nil)
 ss_nil)
 (ss_cons (ss_if (st_not (st_val (se_bi (cas_all c.calm) T.n_all PyProof.Rows.boot_all (sl_cons (se_lcV c (si_seq (se_name 0)) (blkOk_by (own := [("chance", 1)]) (N := N_is_chances) (sc := defScope D_is_chances) (by decide +kernel)) (by decide) (fun _ _ _ _ _ => (sg_name 1 (c.blk).nd)) (fun _ _ _ _ _ => sts_nil) (fun _ _ _ _ _ => (se_and (se_call (c.blk) G_is_fraction (sl_cons (se_name 1) sl_nil)) (se_one (se_cmp ops_ge (se_ix (se_name 1) se_int) se_int))))) sl_nil))))
 (ss_cons (ss_ret se_bl)
 ss_nil)
 ss_nil)
 (ss_cons (ss_ret (se_and (se_cmp (ops_eq c.h64) (se_call c G_added (sl_cons (se_name 0) sl_nil)) (se_glob T.g_ONE)) (se_one (se_cmp ops_le (se_call c G_common_bottom (sl_cons (se_name 0) sl_nil)) (se_glob T.g_MOST_BOTTOM)))))
 ss_nil)))).tidy
theorem ok_law_cell_at (T : Txt K mg C)  : Df P w K mg base C "_law_cell_at" 2 1 r_law_cell_at :=
 (df_of (k := 0) T.d_law_cell_at sc_law_cell_at (fun _ _ _ _ _ _ us hl => match us, hl with | [_, _], _ => rfl) fun f cdv A outer s H E c =>
 (ss_cons (ss_if (st_cmp ops_lt (se_name 1) (se_bi cas_len T.n_len PySem.boot_len (sl_cons (se_name 0) sl_nil)))
 (ss_cons (ss_ret (se_ix (se_name 0) (se_name 1)))
 ss_nil)
 ss_nil)
 (ss_cons (ss_ret se_int)
 ss_nil))).tidy
theorem ok_law_pen (T : Txt K mg C)  : Df P w K mg base C "_law_pen" 1 1 r_law_pen :=
 (df_of (k := 0) T.d_law_pen sc_law_pen (fun _ _ _ _ _ _ us hl => match us, hl with | [_], _ => rfl) fun f cdv A outer s H E c =>
 (ss_cons (ss_ret (se_lst true (sl_cons (se_bi (cas_max2 c.calm) T.n_max PyProof.Rows.boot_max (sl_cons se_int (sl_cons (se_op ops_sub (se_name 0) (se_op ops_pow se_int se_int)) sl_nil))) (sl_cons (se_op (ops_add false) (se_op ops_mod (se_name 0) se_int) se_int) (sl_cons se_int sl_nil)))))
 ss_nil))
theorem ok_law_draw (T : Txt K mg C)  : Df P w K mg base C "_law_draw" 2 1 r_law_draw :=
 (df_of (k := 0) T.d_law_draw sc_law_draw (fun _ _ _ _ _ _ us hl => match us, hl with | [_, _], _ => rfl) fun f cdv A outer s H E c =>
 (ss_cons (ss_if (st_cmp ops_gt (se_ix (se_name 0) se_int) se_int)
 (ss_cons (ss_set 2 c.nd (se_op ops_mod (se_ix (se_name 0) se_int) (se_name 1)))
 (ss_cons (ss_store (se_op ops_div (se_ix (se_name 0) se_int) (se_name 1)) (se_name 0) se_int)
 (ss_cons (ss_ret (se_name 2))
 ss_nil)))
 ss_nil)
 (ss_cons (ss_store (se_op (ops_add false) (se_ix (se_name 0) se_int) se_int) (se_name 0) se_int)
 (ss_cons (ss_store (se_op ops_mod (se_op (ops_add false) (se_op (ops_add false) (se_op (ops_mul false) (se_ix (se_name 0) se_int) se_int) (se_op (ops_mul false) se_int (se_ix (se_name 0) se_int))) se_int) se_int) (se_name 0) se_int)
 (ss_cons (ss_set 3 c.nd (se_op ops_mod (se_op (ops_add false) (se_op (ops_add false) (se_op (ops_mul false) (se_ix (se_name 0) se_int) (se_ix (se_name 0) se_int)) (se_op (ops_mul false) se_int (se_ix (se_name 0) se_int))) se_int) se_int))
 (ss_cons (ss_set 3 c.nd (se_op ops_mod (se_op (ops_add false) (se_op (ops_mul false) (se_name 3) (se_name 3)) (se_op (ops_mul false) se_int (se_name 3))) se_int))
 (ss_cons (ss_ret (se_op ops_mod (se_op ops_div (se_name 3) se_int) (se_name 1)))
 ss_nil))))))).tidy
theorem ok_law_fraction (T : Txt K mg C)  : Df P w K mg base C "_law_fraction" 2 1 r_law_fraction :=
 (df_of (k := 0) T.d_law_fraction sc_law_fraction (fun _ _ _ _ _ _ us hl => match us, hl with | [_, _], _ => rfl) fun f cdv A outer s H E c =>
 (ss_cons (ss_par 2 3 c.calm c.nd (sl_cons (se_bi cas_abs T.n_abs PyProof.Rows.boot_abs (sl_cons (se_name 0) sl_nil)) (sl_cons (se_name 1) sl_nil)))
 (ss_cons (ss_while (cb := b_law_fraction_L1) c (st_cmp ops_gt (se_name 3) se_int)
 (ss_cons (ss_par 2 3 c.calm c.nd (sl_cons (se_name 3) (sl_cons (se_op ops_mod (se_name 2) (se_name 3)) sl_nil)))
 ss_nil))
 (ss_cons (ss_ret (se_tup (sl_cons (se_op ops_div (se_name 0) (se_name 2)) (sl_cons (se_op ops_div (se_name 1) (se_name 2)) sl_nil))))
 ss_nil)))).tidy
theorem ok_law_chances (T : Txt K mg C) (G_law_draw : Df P w K mg base C "_law_draw" 2 1 r_law_draw) (G_law_fraction : Df P w K mg base C "_law_fraction" 2 1 r_law_fraction) : Df P w K mg base C "_law_chances" 1 2 r_law_chances :=
 (df_of (k := 1) T.d_law_chances sc_law_chances (fun _ _ _ _ _ _ us hl => match us, hl with | [_], _ => rfl) fun f cdv A outer s H E c =>
 (ss_cons (ss_set 1 c.nd (se_op (ops_add false) se_int (se_call c G_law_draw (sl_cons (se_name 0) (sl_cons se_int sl_nil)))))
 (ss_cons (ss_set 2 c.nd (se_op (ops_add false) se_int (se_call c G_law_draw (sl_cons (se_name 0) (sl_cons se_int sl_nil)))))
 (ss_cons (ss_set 3 c.nd (se_bi (cas_sorted false) T.n_sorted PyProof.Rows.boot_sorted (sl_cons (se_lcV c (si_range1 T.n_range (sl_cons (se_op ops_sub (se_name 2) se_int) sl_nil)) (blkOk_by (own := [("_law_lap", 5)]) (N := N_law_chances) (sc := defScope D_law_chances) (by decide +kernel)) (by decide) (fun _ _ _ _ _ => (sg_name 5 (c.blk).nd)) (fun _ _ _ _ _ => sts_nil) (fun _ _ _ _ _ => (se_call (c.blk) G_law_draw (sl_cons (se_name 0) (sl_cons (se_op (ops_add false) (se_name 1) se_int) sl_nil))))) sl_nil)))
 (ss_cons (ss_set 4 c.nd (se_op (ops_add false) (se_op (ops_add false) (se_lst false (sl_cons se_int sl_nil)) (se_name 3)) (se_lst false (sl_cons (se_name 1) sl_nil))))
 (ss_cons (ss_ret (se_ty cas_tuple T.n_tuple (by decide +kernel) (sl_cons (se_lcV c (si_z T.n_zip (sl_cons (se_name 4) (sl_cons (se_sl false (se_name 4) (so_so se_int) so_no) sl_nil))) (blkOk_by (own := [("_law_one", 6), ("_law_later", 7)]) (N := N_law_chances) (sc := defScope D_law_chances) (by decide +kernel)) (by decide) (fun _ _ _ _ _ => (sg_tup (c.blk).calm (sgs_cons (sg_name 6 (c.blk).nd) (sgs_cons (sg_name 7 (c.blk).nd) sgs_nil)))) (fun _ _ _ _ _ => sts_nil) (fun _ _ _ _ _ => (se_call (c.blk) G_law_fraction (sl_cons (se_op ops_sub (se_name 7) (se_name 6)) (sl_cons (se_name 1) sl_nil))))) sl_nil)))
 ss_nil)))))).tidy
theorem ok_law_pick (T : Txt K mg C) (G_law_draw : Df P w K mg base C "_law_draw" 2 1 r_law_draw) : Df P w K mg base C "_law_pick" 2 2 r_law_pick :=
 (df_of (k := 1) T.d_law_pick sc_law_pick (fun _ _ _ _ _ _ us hl => match us, hl with | [_, _], _ => rfl) fun f cdv A outer s H E c =>
 (ss_cons (ss_ret (se_ix (se_name 1) (se_call c G_law_draw (sl_cons (se_name 0) (sl_cons (se_bi cas_len T.n_len PySem.boot_len (sl_cons (se_name 1) sl_nil)) sl_nil)))))
 ss_nil)).tidy
theorem ok_law_odd (T : Txt K mg C) (G_law_pick : Df P w K mg base C "_law_pick" 2 2 r_law_pick) : Df P w K mg base C "_law_odd" 1 3 r_law_odd :=
 (df_of (k := 2) T.d_law_odd sc_law_odd (fun _ _ _ _ _ _ us hl => match us, hl with | [_], _ => rfl) fun f cdv A outer s H E c =>
 (ss_cons (ss_set 1 c.nd (se_lst false (sl_cons se_non (sl_cons se_bl (sl_cons se_bl (sl_cons (se_neg2 se_int) (sl_cons se_int (sl_cons se_int (sl_cons se_int (sl_cons (se_op ops_pow se_int se_int) (sl_cons se_str (sl_cons se_str (sl_cons (se_tup sl_nil) (sl_cons (se_lst false sl_nil) (sl_cons se_dem (sl_cons (se_tup (sl_cons se_int sl_nil)) (sl_cons (se_lst false (sl_cons se_int sl_nil)) (sl_cons (se_tup (sl_cons se_int (sl_cons se_int sl_nil))) (sl_cons (se_tup (sl_cons (se_tup (sl_cons se_int (sl_cons se_int sl_nil))) sl_nil)) (sl_cons (se_tup (sl_cons se_int (sl_cons se_int sl_nil))) sl_nil))))))))))))))))))))
 (ss_cons (ss_ret (se_call c G_law_pick (sl_cons (se_name 0) (sl_cons (se_op (ops_add false) (se_name 1) (se_lst false (sl_cons (se_tup (sl_cons (se_tup (sl_cons se_int (sl_cons se_int sl_nil))) (sl_cons (se_tup (sl_cons se_int (sl_cons se_int sl_nil))) sl_nil))) (sl_cons se_str (sl_cons (se_tup (sl_cons se_non sl_nil)) (sl_cons (se_d1v se_str se_int) (sl_cons (se_tup (sl_cons (se_tup (sl_cons se_int (sl_cons se_int sl_nil))) sl_nil)) (sl_cons (se_tup (sl_cons (se_tup (sl_cons (se_tup (sl_cons se_int (sl_cons se_int sl_nil))) sl_nil)) sl_nil)) (sl_cons se_int sl_nil))))))))) sl_nil))))
 ss_nil))).tidy
theorem ok_law_near (T : Txt K mg C) (G_law_draw : Df P w K mg base C "_law_draw" 2 1 r_law_draw) (G_law_odd : Df P w K mg base C "_law_odd" 1 3 r_law_odd) : Df P w K mg base C "_law_near" 2 4 r_law_near :=
 (df_of (k := 3) T.d_law_near sc_law_near (fun _ _ _ _ _ _ us hl => match us, hl with | [_, _], _ => rfl) fun f cdv A outer s H E c =>
 (ss_cons (ss_set 2 c.nd (se_call c G_law_draw (sl_cons (se_name 0) (sl_cons (se_bi cas_len T.n_len PySem.boot_len (sl_cons (se_name 1) sl_nil)) sl_nil))))
 (ss_cons (ss_asg (se_ix (se_name 1) (se_name 2)) (sg_tup c.calm (sgs_cons (sg_name 3 c.nd) (sgs_cons (sg_name 4 c.nd) sgs_nil))))
 (ss_cons (ss_set 5 c.nd (se_lst false (sl_cons (se_tup (sl_cons (se_op (ops_add false) (se_name 3) se_int) (sl_cons (se_name 4) sl_nil))) (sl_cons (se_tup (sl_cons (se_op (ops_mul false) se_int (se_name 3)) (sl_cons (se_op (ops_mul false) se_int (se_name 4)) sl_nil))) (sl_cons (se_tup (sl_cons (se_op ops_sub se_int (se_name 3)) (sl_cons (se_name 4) sl_nil))) (sl_cons (se_lst false (sl_cons (se_name 3) (sl_cons (se_name 4) sl_nil))) (sl_cons (se_tup (sl_cons (se_name 3) (sl_cons (se_name 4) (sl_cons se_int sl_nil)))) (sl_cons (se_tup (sl_cons (se_name 3) sl_nil)) (sl_cons se_non sl_nil)))))))))
 (ss_cons (ss_set 5 c.nd (se_op (ops_add false) (se_name 5) (se_lst false (sl_cons (se_tup (sl_cons (se_name 3) (sl_cons se_bl sl_nil))) (sl_cons (se_tup (sl_cons se_bl (sl_cons se_int sl_nil))) (sl_cons (se_name 3) (sl_cons (se_tup (sl_cons (se_name 4) (sl_cons (se_name 3) sl_nil))) (sl_cons (se_tup (sl_cons se_int (sl_cons se_int sl_nil))) (sl_cons (se_tup (sl_cons se_int (sl_cons se_int sl_nil))) sl_nil)))))))))
 (ss_cons (ss_setLcV 6 c (si_seq (se_name 5)) (blkOk_by (own := [("_law_other", 7)]) (N := N_law_near) (sc := defScope D_law_near) (by decide +kernel)) (by decide) (fun _ _ _ _ _ => (sg_name 7 (c.blk).nd)) (fun _ _ _ _ _ => sts_nil) (fun _ _ _ _ _ => (se_op (ops_add false) (se_op (ops_add false) (se_sl false (se_name 1) so_no (so_so (se_name 2))) (se_tup (sl_cons (se_name 7) sl_nil))) (se_sl false (se_name 1) (so_so (se_op (ops_add false) (se_name 2) se_int)) so_no))) (sw_true rfl rfl rfl (by decide +kernel)))
 (ss_cons (ss_set 6 c.nd (se_op (ops_add false) (se_name 6) (se_lst false (sl_cons (se_op (ops_add false) (se_name 1) (se_sl false (se_name 1) so_no (so_so se_int))) (sl_cons (se_sl false (se_name 1) (so_so se_int) so_no) (sl_cons (se_ty (cas_list false) T.n_list (by decide +kernel) (sl_cons (se_name 1) sl_nil)) (sl_cons (se_op (ops_add false) (se_name 1) (se_tup (sl_cons (se_tup (sl_cons se_int (sl_cons se_int sl_nil))) sl_nil))) (sl_cons (se_tup (sl_cons (se_name 1) sl_nil)) (sl_cons (se_rev false (se_name 1)) sl_nil)))))))))
 (ss_cons (ss_ret (se_op (ops_add false) (se_name 6) (se_lst false (sl_cons (se_name 1) (sl_cons (se_call c G_law_odd (sl_cons (se_name 0) sl_nil)) (sl_cons (se_call c G_law_odd (sl_cons (se_name 0) sl_nil)) sl_nil))))))
 ss_nil)))))))).tidy
theorem ok_law_is_whole (T : Txt K mg C)  : Df P w K mg base C "_law_is_whole" 1 1 r_law_is_whole :=
 (df_of (k := 0) T.d_law_is_whole sc_law_is_whole (fun _ _ _ _ _ _ us hl => match us, hl with | [_], _ => rfl) fun f cdv A outer s H E c =>
 (ss_cons (ss_ret (se_and (se_isi .int (se_name 0) T.n_isinstance T.n_int) (se_one (se_not (se_isi .bl (se_name 0) T.n_isinstance T.n_bool)))))
 ss_nil)).tidy
theorem ok_law_is_fraction (T : Txt K mg C) (G_law_is_whole : Df P w K mg base C "_law_is_whole" 1 1 r_law_is_whole) (G_law_fraction : Df P w K mg base C "_law_fraction" 2 1 r_law_fraction) : Df P w K mg base C "_law_is_fraction" 1 2 r_law_is_fraction :=
 (df_of (k := 1) T.d_law_is_fraction sc_law_is_fraction (fun _ _ _ _ _ _ us hl => match us, hl with | [_], _ => rfl) fun f cdv A outer s H E c =>
 (ss_cons (ss_if (st_of (sw_or (st_not (st_val (se_isi .tup (se_name 0) T.n_isinstance T.n_tuple))) (sw_or (st_cmp (ops_ne c.h64) (se_bi cas_len T.n_len PySem.boot_len (sl_cons (se_name 0) sl_nil)) se_int) (sw_or1 (st_not (st_val (se_bi (cas_all c.calm) T.n_all PyProof.Rows.boot_all (sl_cons (se_lcV c (si_seq (se_name 0)) (blkOk_by (own := [("_law_part", 1)]) (N := N_law_is_fraction) (sc := defScope D_law_is_fraction) (by decide +kernel)) (by decide) (fun _ _ _ _ _ => (sg_name 1 (c.blk).nd)) (fun _ _ _ _ _ => sts_nil) (fun _ _ _ _ _ => (se_call (c.blk) G_law_is_whole (sl_cons (se_name 1) sl_nil)))) sl_nil))))))))
 (ss_cons (ss_ret se_bl)
 ss_nil)
 ss_nil)
 (ss_cons (ss_ret (se_and (se_cmp ops_gt (se_ix (se_name 0) se_int) se_int) (se_one (se_cmp (ops_eq c.h64) (se_call c G_law_fraction (sl_cons (se_ix (se_name 0) se_int) (sl_cons (se_ix (se_name 0) se_int) sl_nil))) (se_name 0)))))
 ss_nil))).tidy
theorem ok_law_add (T : Txt K mg C) (G_law_fraction : Df P w K mg base C "_law_fraction" 2 1 r_law_fraction) : Df P w K mg base C "_law_add" 2 2 r_law_add :=
 (df_of (k := 1) T.d_law_add sc_law_add (fun _ _ _ _ _ _ us hl => match us, hl with | [_, _], _ => rfl) fun f cdv A outer s H E c =>
 (ss_cons (ss_ret (se_call c G_law_fraction (sl_cons (se_op (ops_add false) (se_op (ops_mul false) (se_ix (se_name 0) se_int) (se_ix (se_name 1) se_int)) (se_op (ops_mul false) (se_ix (se_name 1) se_int) (se_ix (se_name 0) se_int))) (sl_cons (se_op (ops_mul false) (se_ix (se_name 0) se_int) (se_ix (se_name 1) se_int)) sl_nil))))
 ss_nil)).tidy
theorem ok_law_sum (T : Txt K mg C) (G_law_add : Df P w K mg base C "_law_add" 2 2 r_law_add) : Df P w K mg base C "_law_sum" 1 3 r_law_sum :=
 (df_of (k := 2) T.d_law_sum sc_law_sum (fun _ _ _ _ _ _ us hl => match us, hl with | [_], _ => rfl) fun f cdv A outer s H E c =>
 (ss_cons (ss_set 1 c.nd (se_tup (sl_cons se_int (sl_cons se_int sl_nil))))
 (ss_cons (ss_for (cb := b_law_sum_L1) c (si_seq (se_name 0)) (sg_name 2 c.nd)
 (ss_cons (ss_set 1 c.nd (se_call c G_law_add (sl_cons (se_name 1) (sl_cons (se_name 2) sl_nil))))
 (ss_wipe [2])))
 (ss_cons (ss_ret (se_name 1))
 ss_nil)))).tidy
theorem ok_law_are_chances (T : Txt K mg C) (G_law_is_fraction : Df P w K mg base C "_law_is_fraction" 1 2 r_law_is_fraction) (G_law_sum : Df P w K mg base C "_law_sum" 1 3 r_law_sum) : Df P w K mg base C "_law_are_chances" 1 4 r_law_are_chances :=
 (df_of (k := 3) T.d_law_are_chances sc_law_are_chances (fun _ _ _ _ _ _ us hl => match us, hl with | [_], _ => rfl) fun f cdv A outer s H E c =>
 (ss_cons (ss_if (st_of (sw_or (st_not (st_val (se_isi .tup (se_name 0) T.n_isinstance T.n_tuple))) (sw_or1 (st_not (st_chain ops_le ops_le se_int (se_bi cas_len T.n_len PySem.boot_len (sl_cons (se_name 0) sl_nil)) se_int)))))
 (ss_cons (ss_ret se_bl)
 ss_nil)
 ss_nil)
 (ss_cons (ss_if (st_of (sw_or (st_cmp (ops_ne c.h64) (se_lcV c (si_seq (se_name 0)) (blkOk_by (own := [("_law_one", 6)]) (N := N_law_are_chances) (sc := defScope D_law_are_chances) (by decide +kernel)) (by decide) (fun _ _ _ _ _ => (sg_name 6 (c.blk).nd)) (fun _ _ _ _ _ => (sts_one (st_of (sw_or (st_not (st_val (se_call (c.blk) G_law_is_fraction (sl_cons (se_name 6) sl_nil)))) (sw_or1 (st_cmp ops_lt (se_ix (se_name 6) se_int) se_int)))))) (fun _ _ _ _ _ => se_int)) (se_lst false sl_nil)) (sw_or1 (st_cmp (ops_ne c.h64) (se_call c G_law_sum (sl_cons (se_name 0) sl_nil)) (se_tup (sl_cons se_int (sl_cons se_int sl_nil)))))))
 (ss_cons (ss_ret se_bl)
 ss_nil)
 ss_nil)
 (ss_cons (ss_set 1 c.nd (se_lcV c (si_seq (se_name 0)) (blkOk_by (own := [("_law_top", 3), ("_law_bottom", 4)]) (N := N_law_are_chances) (sc := defScope D_law_are_chances) (by decide +kernel)) (by decide) (fun _ _ _ _ _ => (sg_tup (c.blk).calm (sgs_cons (sg_name 3 (c.blk).nd) (sgs_cons (sg_name 4 (c.blk).nd) sgs_nil)))) (fun _ _ _ _ _ => sts_nil) (fun _ _ _ _ _ => (se_name 4))))
 (ss_cons (ss_setLcV 2 c (si_range2 T.n_range (sl_cons se_int (sl_cons se_int sl_nil))) (blkOk_by (own := [("_law_many", 5)]) (N := N_law_are_chances) (sc := defScope D_law_are_chances) (by decide +kernel)) (by decide) (fun _ _ _ _ _ => (sg_name 5 (c.blk).nd)) (fun _ _ _ _ _ => (sts_one (st_cmp (ops_eq (c.blk).h64) (se_lcV (c.blk) (si_seq (se_name 1)) (blkOk_by (own := [("_law_bottom", 4)]) (by rfl)) (by decide) (fun _ _ _ _ _ => (sg_name 4 ((c.blk).blk).nd)) (fun _ _ _ _ _ => (sts_one (st_cmp (ops_ne ((c.blk).blk).h64) (se_op ops_mod (se_name 5) (se_name 4)) se_int))) (fun _ _ _ _ _ => se_int)) (se_lst false sl_nil)))) (fun _ _ _ _ _ => (se_name 5)) (sw_true rfl rfl rfl (by decide +kernel)))
 (ss_cons (ss_ret (se_cmp (ops_ne c.h64) (se_name 2) (se_lst false sl_nil)))
 ss_nil)))))).tidy
theorem ok_law_same (T : Txt K mg C)  : Df P w K mg base C "_law_same" 2 1 r_law_same :=
 (df_of (k := 0) T.d_law_same sc_law_same (fun _ _ _ _ _ _ us hl => match us, hl with | [_, _], _ => rfl) fun f cdv A outer s H E c =>
 (ss_cons (ss_ret (se_cmp (ops_eq c.h64) (se_bi (cas_repr c.gd c.h100) T.n_repr PyProof.Rows.boot_repr (sl_cons (se_name 0) sl_nil)) (se_bi (cas_repr c.gd c.h100) T.n_repr PyProof.Rows.boot_repr (sl_cons (se_name 1) sl_nil))))
 ss_nil)).tidy
theorem ok_law (T : Txt K mg C) (G_law_no_chances : Df P w K mg base C "_law_no_chances" 0 1 r_law_no_chances) (G_is_chances : Df P w K mg base C "is_chances" 1 5 r_is_chances) (G_law_cell_at : Df P w K mg base C "_law_cell_at" 2 1 r_law_cell_at) (G_law_pen : Df P w K mg base C "_law_pen" 1 1 r_law_pen) (G_law_chances : Df P w K mg base C "_law_chances" 1 2 r_law_chances) (G_law_near : Df P w K mg base C "_law_near" 2 4 r_law_near) (G_law_are_chances : Df P w K mg base C "_law_are_chances" 1 4 r_law_are_chances) (G_law_same : Df P w K mg base C "_law_same" 2 1 r_law_same) : Df P w K mg base C "law" 1 6 r_law :=
 (df_of (k := 5) T.d_law sc_law (fun _ _ _ _ _ _ us hl => match us, hl with | [_], _ => rfl) fun f cdv A outer s H E c =>
 (ss_cons (ss_for (cb := b_law_L1) c (si_seq (se_call0 c G_law_no_chances)) (sg_name 1 c.nd)
 (ss_cons (ss_if (st_cmp ops_isnt (se_call c G_is_chances (sl_cons (se_name 1) sl_nil)) se_bl)
 (ss_cons (ss_ret se_bl)
 ss_nil)
 ss_nil)
 (ss_wipe [1])))
 (ss_cons (ss_for (cb := b_law_L4) c (si_range1 T.n_range (sl_cons (se_bi (cas_max2 c.calm) T.n_max PyProof.Rows.boot_max (sl_cons se_int (sl_cons (se_bi (cas_min2 c.calm) T.n_min (by decide +kernel) (sl_cons (se_bi cas_len T.n_len PySem.boot_len (sl_cons (se_name 0) sl_nil)) (sl_cons se_int sl_nil))) sl_nil))) sl_nil)) (sg_name 2 c.nd)
 (ss_cons (ss_set 3 c.nd (se_call c G_law_pen (sl_cons (se_call c G_law_cell_at (sl_cons (se_name 0) (sl_cons (se_name 2) sl_nil))) sl_nil)))
 (ss_cons (ss_for (cb := b_law_L3) c (si_range1 T.n_range (sl_cons se_int sl_nil)) (sg_name 4 c.nd)
 (ss_cons (ss_for (cb := b_law_L2) c (si_seq (se_call c G_law_near (sl_cons (se_name 3) (sl_cons (se_call c G_law_chances (sl_cons (se_name 3) sl_nil)) sl_nil)))) (sg_name 1 c.nd)
 (ss_cons (ss_set 5 c.nd (se_bi (cas_reprD c.gd c.h100) T.n_repr PyProof.Rows.boot_repr (sl_cons (se_name 1) sl_nil)))
 (ss_cons (ss_if (st_of (sw_or (st_not (st_val (se_call c G_law_same (sl_cons (se_call c G_is_chances (sl_cons (se_name 1) sl_nil)) (sl_cons (se_call c G_law_are_chances (sl_cons (se_name 1) sl_nil)) sl_nil))))) (sw_or1 (st_cmp (ops_ne c.h64) (se_bi (cas_reprD c.gd c.h100) T.n_repr PyProof.Rows.boot_repr (sl_cons (se_name 1) sl_nil)) (se_name 5)))))
 (ss_cons (ss_ret se_bl)
 ss_nil)
 ss_nil)
 (ss_wipe [1, 5]))))
 (ss_wipe [1, 4, 5])))
 (ss_wipe [1, 2, 3, 4, 5]))))
 (ss_cons (ss_ret se_bl)
 ss_nil)))).tidy
end
theorem all_ok {P : Program} {w : World} {mg : Str → Option Value} {h : Heap} {K : PySem.W.Frag} (X : K.In h) (G : h.Ns mainGlobals mg) (c : SaysX fas fns K) :
    ∃ C, ∀ base : Heap, K.In base → base.Ns mainGlobals mg → Df P w K mg base C "law" 1 6 r_law := by
  obtain ⟨fd_law_no_chances, F_law_no_chances⟩ := c.def_ 0 (d := dx_law_no_chances) rfl
  obtain ⟨fd_is_integer, F_is_integer⟩ := c.def_ 1 (d := dx_is_integer) rfl
  obtain ⟨fd_greatest_divisor, F_greatest_divisor⟩ := c.def_ 2 (d := dx_greatest_divisor) rfl
  obtain ⟨fd_is_fraction, F_is_fraction⟩ := c.def_ 3 (d := dx_is_fraction) rfl
  obtain ⟨fd_ratio, F_ratio⟩ := c.def_ 4 (d := dx_ratio) rfl
  obtain ⟨fd_plus, F_plus⟩ := c.def_ 5 (d := dx_plus) rfl
  obtain ⟨fd_added, F_added⟩ := c.def_ 6 (d := dx_added) rfl
  obtain ⟨fd_common_bottom, F_common_bottom⟩ := c.def_ 7 (d := dx_common_bottom) rfl
  obtain ⟨fd_is_chances, F_is_chances⟩ := c.def_ 8 (d := dx_is_chances) rfl
  obtain ⟨fd_law_cell_at, F_law_cell_at⟩ := c.def_ 9 (d := dx_law_cell_at) rfl
  obtain ⟨fd_law_pen, F_law_pen⟩ := c.def_ 10 (d := dx_law_pen) rfl
  obtain ⟨fd_law_draw, F_law_draw⟩ := c.def_ 11 (d := dx_law_draw) rfl
  obtain ⟨fd_law_fraction, F_law_fraction⟩ := c.def_ 12 (d := dx_law_fraction) rfl
  obtain ⟨fd_law_chances, F_law_chances⟩ := c.def_ 13 (d := dx_law_chances) rfl
  obtain ⟨fd_law_pick, F_law_pick⟩ := c.def_ 14 (d := dx_law_pick) rfl
  obtain ⟨fd_law_odd, F_law_odd⟩ := c.def_ 15 (d := dx_law_odd) rfl
  obtain ⟨fd_law_near, F_law_near⟩ := c.def_ 16 (d := dx_law_near) rfl
  obtain ⟨fd_law_is_whole, F_law_is_whole⟩ := c.def_ 17 (d := dx_law_is_whole) rfl
  obtain ⟨fd_law_is_fraction, F_law_is_fraction⟩ := c.def_ 18 (d := dx_law_is_fraction) rfl
  obtain ⟨fd_law_add, F_law_add⟩ := c.def_ 19 (d := dx_law_add) rfl
  obtain ⟨fd_law_sum, F_law_sum⟩ := c.def_ 20 (d := dx_law_sum) rfl
  obtain ⟨fd_law_are_chances, F_law_are_chances⟩ := c.def_ 21 (d := dx_law_are_chances) rfl
  obtain ⟨fd_law_same, F_law_same⟩ := c.def_ 22 (d := dx_law_same) rfl
  obtain ⟨fd_law, F_law⟩ := c.def_ 23 (d := dx_law) rfl
  have T : Txt K mg (excA K) := ⟨He.free_ok X G (c.fact 0 (f := faA (.free "abs")) rfl),
    He.free_ok X G (c.fact 1 (f := faA (.free "all")) rfl),
    He.free_ok X G (c.fact 2 (f := faA (.free "bool")) rfl),
    He.free_ok X G (c.fact 3 (f := faA (.free "int")) rfl),
    He.free_ok X G (c.fact 4 (f := faA (.free "isinstance")) rfl),
    He.free_ok X G (c.fact 5 (f := faA (.free "len")) rfl),
    He.free_ok X G (c.fact 6 (f := faA (.free "list")) rfl),
    He.free_ok X G (c.fact 7 (f := faA (.free "max")) rfl),
    He.free_ok X G (c.fact 8 (f := faA (.free "min")) rfl),
    He.free_ok X G (c.fact 9 (f := faA (.free "range")) rfl),
    He.free_ok X G (c.fact 10 (f := faA (.free "repr")) rfl),
    He.free_ok X G (c.fact 11 (f := faA (.free "sorted")) rfl),
    He.free_ok X G (c.fact 12 (f := faA (.free "tuple")) rfl),
    He.free_ok X G (c.fact 13 (f := faA (.free "zip")) rfl),
    int_ok' X G (c.fact 14 (f := faA (.int "MOST_BOTTOM" 30)) rfl),
    int_ok' X G (c.fact 15 (f := faA (.int "MOST_OUTCOMES" 6)) rfl),
    tup_ok X G (c.fact 16 (f := faTup "ONE" 1 1) rfl),
    tup_ok X G (c.fact 17 (f := faTup "ZERO" 0 1) rfl),
    ⟨_, fd_law_no_chances, He.glo_ok X G (c.fact 18 (f := faA (.glo "_law_no_chances")) rfl), F_law_no_chances⟩,
    ⟨_, fd_is_integer, He.glo_ok X G (c.fact 19 (f := faA (.glo "is_integer")) rfl), F_is_integer⟩,
    ⟨_, fd_greatest_divisor, He.glo_ok X G (c.fact 20 (f := faA (.glo "greatest_divisor")) rfl), F_greatest_divisor⟩,
    ⟨_, fd_is_fraction, He.glo_ok X G (c.fact 21 (f := faA (.glo "is_fraction")) rfl), F_is_fraction⟩,
    ⟨_, fd_ratio, He.glo_ok X G (c.fact 22 (f := faA (.glo "ratio")) rfl), F_ratio⟩,
    ⟨_, fd_plus, He.glo_ok X G (c.fact 23 (f := faA (.glo "plus")) rfl), F_plus⟩,
    ⟨_, fd_added, He.glo_ok X G (c.fact 24 (f := faA (.glo "added")) rfl), F_added⟩,
    ⟨_, fd_common_bottom, He.glo_ok X G (c.fact 25 (f := faA (.glo "common_bottom")) rfl), F_common_bottom⟩,
    ⟨_, fd_is_chances, He.glo_ok X G (c.fact 26 (f := faA (.glo "is_chances")) rfl), F_is_chances⟩,
    ⟨_, fd_law_cell_at, He.glo_ok X G (c.fact 27 (f := faA (.glo "_law_cell_at")) rfl), F_law_cell_at⟩,
    ⟨_, fd_law_pen, He.glo_ok X G (c.fact 28 (f := faA (.glo "_law_pen")) rfl), F_law_pen⟩,
    ⟨_, fd_law_draw, He.glo_ok X G (c.fact 29 (f := faA (.glo "_law_draw")) rfl), F_law_draw⟩,
    ⟨_, fd_law_fraction, He.glo_ok X G (c.fact 30 (f := faA (.glo "_law_fraction")) rfl), F_law_fraction⟩,
    ⟨_, fd_law_chances, He.glo_ok X G (c.fact 31 (f := faA (.glo "_law_chances")) rfl), F_law_chances⟩,
    ⟨_, fd_law_pick, He.glo_ok X G (c.fact 32 (f := faA (.glo "_law_pick")) rfl), F_law_pick⟩,
    ⟨_, fd_law_odd, He.glo_ok X G (c.fact 33 (f := faA (.glo "_law_odd")) rfl), F_law_odd⟩,
    ⟨_, fd_law_near, He.glo_ok X G (c.fact 34 (f := faA (.glo "_law_near")) rfl), F_law_near⟩,
    ⟨_, fd_law_is_whole, He.glo_ok X G (c.fact 35 (f := faA (.glo "_law_is_whole")) rfl), F_law_is_whole⟩,
    ⟨_, fd_law_is_fraction, He.glo_ok X G (c.fact 36 (f := faA (.glo "_law_is_fraction")) rfl), F_law_is_fraction⟩,
    ⟨_, fd_law_add, He.glo_ok X G (c.fact 37 (f := faA (.glo "_law_add")) rfl), F_law_add⟩,
    ⟨_, fd_law_sum, He.glo_ok X G (c.fact 38 (f := faA (.glo "_law_sum")) rfl), F_law_sum⟩,
    ⟨_, fd_law_are_chances, He.glo_ok X G (c.fact 39 (f := faA (.glo "_law_are_chances")) rfl), F_law_are_chances⟩,
    ⟨_, fd_law_same, He.glo_ok X G (c.fact 40 (f := faA (.glo "_law_same")) rfl), F_law_same⟩,
    ⟨_, fd_law, He.glo_ok X G (c.fact 41 (f := faA (.glo "law")) rfl), F_law⟩⟩
  refine ⟨excA K, fun base _ _ => ?_⟩
  have G_law_no_chances := ok_law_no_chances (P := P) (w := w) (base := base) T
  have G_is_integer := ok_is_integer (P := P) (w := w) (base := base) T
  have G_greatest_divisor := ok_greatest_divisor (P := P) (w := w) (base := base) T
  have G_is_fraction := ok_is_fraction (P := P) (w := w) (base := base) T G_is_integer G_greatest_divisor
  have G_ratio := ok_ratio (P := P) (w := w) (base := base) T G_greatest_divisor
  have G_plus := ok_plus (P := P) (w := w) (base := base) T G_ratio
  have G_added := ok_added (P := P) (w := w) (base := base) T G_plus
  have G_common_bottom := ok_common_bottom (P := P) (w := w) (base := base) T G_greatest_divisor
  have G_is_chances := ok_is_chances (P := P) (w := w) (base := base) T G_is_fraction G_added G_common_bottom
  have G_law_cell_at := ok_law_cell_at (P := P) (w := w) (base := base) T
  have G_law_pen := ok_law_pen (P := P) (w := w) (base := base) T
  have G_law_draw := ok_law_draw (P := P) (w := w) (base := base) T
  have G_law_fraction := ok_law_fraction (P := P) (w := w) (base := base) T
  have G_law_chances := ok_law_chances (P := P) (w := w) (base := base) T G_law_draw G_law_fraction
  have G_law_pick := ok_law_pick (P := P) (w := w) (base := base) T G_law_draw
  have G_law_odd := ok_law_odd (P := P) (w := w) (base := base) T G_law_pick
  have G_law_near := ok_law_near (P := P) (w := w) (base := base) T G_law_draw G_law_odd
  have G_law_is_whole := ok_law_is_whole (P := P) (w := w) (base := base) T
  have G_law_is_fraction := ok_law_is_fraction (P := P) (w := w) (base := base) T G_law_is_whole G_law_fraction
  have G_law_add := ok_law_add (P := P) (w := w) (base := base) T G_law_fraction
  have G_law_sum := ok_law_sum (P := P) (w := w) (base := base) T G_law_add
  have G_law_are_chances := ok_law_are_chances (P := P) (w := w) (base := base) T G_law_is_fraction G_law_sum
  have G_law_same := ok_law_same (P := P) (w := w) (base := base) T
  have G_law := ok_law (P := P) (w := w) (base := base) T G_law_no_chances G_is_chances G_law_cell_at G_law_pen G_law_chances G_law_near G_law_are_chances G_law_same
  exact G_law
end Fc
open PySem PySem.W PySem.Calls PyProof.Rows
theorem PySem.Challenge.cw_flipchoice_k01_chances_known_holds : PySem.Challenge.rw_flipchoice_k01_chances_known.Holds := by
  w_on; o_law
  refine HandSHeadRun.head_any (r := OpenLaw.row PySem.Challenge.rw_flipchoice_k01_chances_known) (q := view (OpenLaw.row PySem.Challenge.rw_flipchoice_k01_chances_known).prog [30]) (H := Fc.hkX) (ob := Fc.obX) (M := 40000) (loose := Fc.nms) (d := HandSHeadRun.topDef (OpenLaw.row PySem.Challenge.rw_flipchoice_k01_chances_known).prog 30) (kwd := []) Fc.obX_eq
    (by kernel_rfl) (fun s => by kernel_rfl) Fc.runX (by kernel_rfl) (by kernel_rfl) (by kernel_rfl) (by rfl) (by first | assumption | decide +kernel) (by decide +kernel) ⟨rfl, rfl, rfl, rfl, rfl, by decide +kernel⟩ ?hw ?hc
  case hw => w_witness2
  case hc =>
    refine Fc.walk_denX (l := PySem.Challenge.rw_flipchoice_k01_chances_known) (k := 6) (den := Fc.r_law) (fa := Fc.fas) (fn := Fc.fns) rfl rfl rfl ⟨rfl, by decide, by decide⟩ ?F Fc.says_law
    intro w mg h K KX G c
    exact Fc.all_ok KX G c

