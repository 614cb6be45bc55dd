import PyProof.Rows.All
import Wide.All
import OpenK.AllK
import Wide.FinOn
import HandS.ForMost
import HandS.ForExc
import HandS.Conv
import HandS.Wide
import HandS.WideBits
import HandS.Gcd
import HandS.IsInst
import HandS.Style
import HandS.TupAny
import HandS.Defaults
import HandS.CallSlots
import HandS.HeadHook1
import HandS.HeadHook2
import KE.KTupSum
import Lean
import KE.KStateDown
import HandS.Head0
import HandS.Head1
import HandS.Head2
import HandS.Head3
import HandS.HeadEnd
import PySem.Challenge.RW_carriedstakes_k59_graphs_passed
set_option Elab.async false
set_option linter.all false
set_option maxRecDepth 100000
set_option maxHeartbeats 4000000
set_option autoImplicit false
/-! AL1: abstract values, environments, the relation to the heap, judgements. -/
namespace AL
open PySem PySem.Spec PyProof.Rows L2

/-- an abstract value: tuples and lists that nobody writes any more are trees -/
inductive A where
  | non
  | bl (b : Bool)
  | int (i : Int)
  | str (s : Str)
  | tup (xs : List A)
  | lst (xs : List A)
  | scr (ns : List Int)

mutual
def VR (K : PySem.W.Frag) (W : Hp) : A → V → Prop
  | .non, v => v = .non
  | .bl b, v => v = .bl b
  | .int i, v => v = .int i
  | .str s, v => v = .str s
  | .tup xs, v => ∃ a vs, v = .ref a ∧ SqT K W a vs ∧ VRs K W xs vs
  | .lst xs, v => ∃ a vs, v = .ref a ∧ W a = some (.lst vs) ∧ VRs K W xs vs
  | .scr ns, v => ∃ a, v = .ref a ∧ SqL K W a (ns.map V.int)
def VRs (K : PySem.W.Frag) (W : Hp) : List A → List V → Prop
  | [], vs => vs = []
  | x :: xs, vs => ∃ v r, vs = v :: r ∧ VR K W x v ∧ VRs K W xs r
end

section
variable {K : PySem.W.Frag} {W W' H H' : Hp}
theorem SqT.mono {a : Addr} {vs : List V} (s : Same W W') (h : SqT K W a vs) : SqT K W' a vs := by
  rcases h with (h | ⟨o, h⟩) | h
  · exact .inl (.inl (s _ _ h))
  · exact .inl (.inr ⟨o, s _ _ h⟩)
  · exact .inr h
mutual
theorem VR.mono (s : Same W W') : ∀ (a : A) {v : V}, VR K W a v → VR K W' a v
  | .non, _, h => h
  | .bl _, _, h => h
  | .int _, _, h => h
  | .str _, _, h => h
  | .tup xs, _, h => by
    obtain ⟨a, vs, e, q, r⟩ := h
    exact ⟨a, vs, e, SqT.mono s q, VRs.mono s xs r⟩
  | .lst xs, _, h => by
    obtain ⟨a, vs, e, q, r⟩ := h
    exact ⟨a, vs, e, s _ _ q, VRs.mono s xs r⟩
  | .scr ns, _, h => by
    obtain ⟨a, e, q⟩ := h
    exact ⟨a, e, s.seq q⟩
theorem VRs.mono (s : Same W W') : ∀ (xs : List A) {vs : List V}, VRs K W xs vs → VRs K W' xs vs
  | [], _, h => h
  | x :: xs, _, h => by
    obtain ⟨v, r, e, h1, h2⟩ := h
    exact ⟨v, r, e, VR.mono s x h1, VRs.mono s xs h2⟩
end
theorem VRs.length : ∀ {xs : List A} {vs : List V}, VRs K W xs vs → vs.length = xs.length
  | [], _, h => by rw [show _ = [] from h]; rfl
  | x :: xs, _, h => by
    obtain ⟨v, r, rfl, _, h2⟩ := h
    rw [List.length_cons, List.length_cons, VRs.length h2]
theorem VRs.get : ∀ {xs : List A} {vs : List V} {i : Nat} {a : A}, VRs K W xs vs → xs[i]? = some a → ∃ v, vs[i]? = some v ∧ VR K W a v
  | [], _, _, _, _, e => by simp at e
  | x :: xs, _, 0, a, h, e => by
    obtain ⟨v, r, rfl, h1, h2⟩ := h
    simp at e; subst e
    exact ⟨v, rfl, h1⟩
  | x :: xs, _, i + 1, a, h, e => by
    obtain ⟨v, r, rfl, h1, h2⟩ := h
    obtain ⟨w, e1, e2⟩ := VRs.get (i := i) h2 (by simpa using e)
    exact ⟨w, by simpa using e1, e2⟩
theorem VRs.nil : VRs K W [] [] := rfl
theorem VRs.cons {x : A} {xs : List A} {v : V} {vs : List V} (h : VR K W x v) (t : VRs K W xs vs) : VRs K W (x :: xs) (v :: vs) := ⟨v, vs, rfl, h, t⟩
theorem VRs.append : ∀ {xs ys : List A} {vs ws : List V}, VRs K W xs vs → VRs K W ys ws → VRs K W (xs ++ ys) (vs ++ ws)
  | [], ys, _, ws, h, t => by rw [show _ = [] from h]; exact t
  | x :: xs, ys, _, ws, h, t => by
    obtain ⟨v, r, rfl, h1, h2⟩ := h
    exact VRs.cons h1 (VRs.append h2 t)
theorem VRs.take : ∀ {xs : List A} {vs : List V} (n : Nat), VRs K W xs vs → VRs K W (xs.take n) (vs.take n)
  | _, _, 0, _ => by simp only [List.take_zero]; exact VRs.nil
  | [], _, n + 1, h => by rw [show _ = [] from h]; exact VRs.nil
  | x :: xs, _, n + 1, h => by
    obtain ⟨v, r, rfl, h1, h2⟩ := h
    exact VRs.cons h1 (VRs.take n h2)
theorem VRs.drop : ∀ {xs : List A} {vs : List V} (n : Nat), VRs K W xs vs → VRs K W (xs.drop n) (vs.drop n)
  | _, _, 0, h => h
  | [], _, n + 1, h => by rw [show _ = [] from h]; exact VRs.nil
  | x :: xs, _, n + 1, h => by
    obtain ⟨v, r, rfl, h1, h2⟩ := h
    exact VRs.drop n h2
theorem VRs.set : ∀ {xs : List A} {vs : List V} (n : Nat) {a : A} {v : V}, VRs K W xs vs → VR K W a v → VRs K W (xs.set n a) (vs.set n v)
  | [], _, n, a, v, h, q => by rw [show _ = [] from h]; exact VRs.nil
  | x :: xs, _, 0, a, v, h, q => by
    obtain ⟨v, r, rfl, h1, h2⟩ := h
    exact VRs.cons q h2
  | x :: xs, _, n + 1, a, v, h, q => by
    obtain ⟨v, r, rfl, h1, h2⟩ := h
    exact VRs.cons h1 (VRs.set n h2 q)
theorem VRs.erase : ∀ {xs : List A} {vs : List V} (n : Nat), VRs K W xs vs → VRs K W (xs.eraseIdx n) (vs.eraseIdx n)
  | [], _, n, h => by rw [show _ = [] from h]; exact VRs.nil
  | x :: xs, _, 0, h => by
    obtain ⟨v, r, rfl, h1, h2⟩ := h
    exact h2
  | x :: xs, _, n + 1, h => by
    obtain ⟨v, r, rfl, h1, h2⟩ := h
    exact VRs.cons h1 (VRs.erase n h2)
theorem VRs.ints : ∀ {ns : List Int} {vs : List V}, VRs K W (ns.map A.int) vs → vs = ns.map V.int
  | [], _, h => h
  | n :: ns, _, h => by
    obtain ⟨v, r, rfl, h1, h2⟩ := h
    rw [show v = .int n from h1, VRs.ints h2]; rfl
theorem VRs.of_ints : ∀ (ns : List Int), VRs K W (ns.map A.int) (ns.map V.int)
  | [] => rfl
  | n :: ns => VRs.cons rfl (VRs.of_ints ns)
theorem VRs.bls : ∀ {ns : List Bool} {vs : List V}, VRs K W (ns.map A.bl) vs → vs = ns.map V.bl
  | [], _, h => h
  | n :: ns, _, h => by
    obtain ⟨v, r, rfl, h1, h2⟩ := h
    rw [show v = .bl n from h1, VRs.bls h2]; rfl
end

/-! ### slots, environments -/
inductive Slot where
  | no
  | sh (a : A)
  | ow (pin : Bool) (xs : List A)
abbrev Ev := List Slot
def gt : Ev → Nat → Slot
  | [], _ => .no
  | s :: _, 0 => s
  | _ :: r, i + 1 => gt r i
def pt : Ev → Nat → Slot → Ev
  | [], _, _ => []
  | _ :: r, 0, x => x :: r
  | s :: r, i + 1, x => s :: pt r i x
theorem pt_length : ∀ (e : Ev) (i : Nat) (x : Slot), (pt e i x).length = e.length
  | [], _, _ => rfl
  | _ :: _, 0, _ => rfl
  | _ :: r, i + 1, x => congrArg Nat.succ (pt_length r i x)
theorem gt_pt_same : ∀ {e : Ev} {i : Nat} {x : Slot}, i < e.length → gt (pt e i x) i = x
  | [], _, _, h => absurd h (Nat.not_lt_zero _)
  | _ :: _, 0, _, _ => rfl
  | _ :: r, i + 1, x, h => gt_pt_same (e := r) (i := i) (x := x) (Nat.lt_of_succ_lt_succ h)
theorem gt_pt_ne : ∀ {e : Ev} {i j : Nat} {x : Slot}, i ≠ j → gt (pt e i x) j = gt e j
  | [], _, _, _, _ => rfl
  | _ :: _, 0, 0, _, h => absurd rfl h
  | _ :: _, 0, _ + 1, _, _ => rfl
  | _ :: _, _ + 1, 0, _, _ => rfl
  | _ :: r, i + 1, j + 1, x, h => gt_pt_ne (e := r) fun q => h (congrArg Nat.succ q)
theorem gt_lt : ∀ {e : Ev} {i : Nat}, gt e i ≠ .no → i < e.length
  | [], _, h => absurd rfl h
  | _ :: _, 0, _ => Nat.succ_pos _
  | _ :: r, i + 1, h => Nat.succ_lt_succ (gt_lt (e := r) h)

/-- an exception: its class's name, its one field -/
structure Ex where
  cls : Str
  arg : Option (Str × A) := none
def XR (K : PySem.W.Frag) (W : Hp) (x : Ex) (cls : Value) (d : Option Addr) (H : Hp) : Prop :=
  cls = .ref (He.ga K x.cls) ∧ (match x.arg with
    | none => True
    | some (f, a) => ∃ da v, d = some da ∧ H da = some (.xd [(f, v)]) ∧ VR K W a v)

/-- what stays fixed through a body: the entry's heap, the frozen part then, the borrowed addresses by slots -/
structure Fx where
  H0 : Hp
  W0 : Hp
  pin : Nat → Option Addr

def SlotR (K : PySem.W.Frag) (S : Fx) (W H : Hp) (σ : L2.St) (i : Nat) : Slot → Prop
  | .no => True
  | .sh a => ∃ v, σ[i]? = some (some v) ∧ VR K W a v
  | .ow pin xs => ∃ p vs, σ[i]? = some (some (.ref p)) ∧ H p = some (.lst vs) ∧ VRs K W xs vs ∧ W p = none ∧ (if pin = true then S.pin i = some p else S.H0 p = none)

structure Rel (K : PySem.W.Frag) (S : Fx) (W : Hp) (e : Ev) (σ : L2.St) (H : Hp) : Prop where
  len : e.length = σ.length
  sub : Same W H
  old : ∀ p o, S.H0 p = some o → (∀ i, S.pin i ≠ some p) → H p = some o
  there : ∀ p, S.H0 p ≠ none → H p ≠ none
  fro : ∀ p o, S.H0 p = some o → W p = S.W0 p
  w0 : Same S.W0 S.H0
  pinH : ∀ i p, S.pin i = some p → S.H0 p ≠ none ∧ S.W0 p = none
  slot : ∀ i, SlotR K S W H σ i (gt e i)
  inj : ∀ i j b xs c ys p, i ≠ j → gt e i = .ow b xs → gt e j = .ow c ys → σ[i]? = some (some (.ref p)) → σ[j]? ≠ some (some (.ref p))

/-- the heap grows by one new object that is frozen at once, or not at all -/
def Ext (W H W' H' : Hp) : Prop := (W' = W ∧ H' = H) ∨ ∃ p o, H p = none ∧ H' = upd H p o ∧ W' = upd W p o
theorem Ext.refl {W H : Hp} : Ext W H W H := .inl ⟨rfl, rfl⟩
theorem same_upd {H : Hp} {p : Addr} {o : HO} (h : H p = none) : Same H (upd H p o) := fun b x e => by
  rw [upd_ne (ne_of_none e h)]
  exact e

section
variable {K : PySem.W.Frag} {S : Fx} {W W' H H' : Hp} {e : Ev} {σ : L2.St}
theorem sub_none (s : Same W H) {p : Addr} (h : H p = none) : W p = none := s.free h
theorem Ext.same (s : Same W H) (x : Ext W H W' H') : Same W W' := by
  rcases x with ⟨rfl, rfl⟩ | ⟨p, o, hp, rfl, rfl⟩
  · exact Same.refl _
  · exact same_upd (sub_none s hp)
theorem Ext.sameH (x : Ext W H W' H') : Same H H' := by
  rcases x with ⟨rfl, rfl⟩ | ⟨p, o, hp, rfl, rfl⟩
  · exact Same.refl _
  · exact same_upd hp
theorem SlotR.mono {i : Nat} {s : Slot} (hW : Same W W') (hH : ∀ p vs, H p = some (.lst vs) → W p = none → H' p = some (.lst vs) ∧ W' p = none) (h : SlotR K S W H σ i s) : SlotR K S W' H' σ i s := by
  cases s with
  | no => trivial
  | sh a => obtain ⟨v, e, r⟩ := h; exact ⟨v, e, VR.mono hW a r⟩
  | ow pin xs =>
    obtain ⟨p, vs, e, h1, h2, h3, h4⟩ := h
    obtain ⟨a1, a2⟩ := hH p vs h1 h3
    exact ⟨p, vs, e, a1, VRs.mono hW xs h2, a2, h4⟩
theorem Rel.ext (R : Rel K S W e σ H) (x : Ext W H W' H') : Rel K S W' e σ H' := by
  have hs := x.same R.sub
  rcases x with ⟨rfl, rfl⟩ | ⟨p, o, hp, rfl, rfl⟩
  · exact R
  · have h0 : S.H0 p = none := by
      cases q : S.H0 p with
      | none => rfl
      | some u => exact absurd hp (R.there p (by rw [q]; simp))
    refine ⟨R.len, fun b u q => ?_, fun b u q n => ?_, fun b q => ?_, fun b u q => ?_, R.w0, R.pinH, fun i => ?_, R.inj⟩
    · by_cases hb : b = p
      · subst hb; rw [upd_same] at q ⊢; exact q
      · rw [upd_ne hb] at q ⊢; exact R.sub b u q
    · rw [upd_ne (ne_of_none q h0)]; exact R.old b u q n
    · by_cases hb : b = p
      · subst hb; rw [upd_same]; simp
      · rw [upd_ne hb]; exact R.there b q
    · rw [upd_ne (ne_of_none q h0)]; exact R.fro b u q
    · refine SlotR.mono hs (fun b vs q w => ?_) (R.slot i)
      have hb : b ≠ p := ne_of_none q hp
      exact ⟨by rw [upd_ne hb]; exact q, by rw [upd_ne hb]; exact w⟩
/-- a slot forgotten, or a plain value stored there -/
theorem Rel.drop (R : Rel K S W e σ H) (i : Nat) : Rel K S W (pt e i .no) σ H := by
  refine ⟨by rw [pt_length]; exact R.len, R.sub, R.old, R.there, R.fro, R.w0, R.pinH, fun j => ?_, fun j k b xs c ys p hjk h1 h2 => ?_⟩
  · by_cases hj : i = j
    · subst hj
      by_cases hl : i < e.length
      · rw [gt_pt_same hl]; trivial
      · have : gt (pt e i .no) i = .no := by
          cases q : gt (pt e i .no) i with
          | no => rfl
          | sh a => exact absurd (gt_lt (e := pt e i .no) (i := i) (by rw [q]; simp)) (by rw [pt_length]; exact hl)
          | ow b xs => exact absurd (gt_lt (e := pt e i .no) (i := i) (by rw [q]; simp)) (by rw [pt_length]; exact hl)
        rw [this]; trivial
    · rw [gt_pt_ne hj]; exact R.slot j
  · have n1 : i ≠ j := fun q => by
      subst q
      rw [gt_pt_same (by have := gt_lt (e := pt e i .no) (i := i) (by rw [h1]; simp); rwa [pt_length] at this)] at h1
      cases h1
    have n2 : i ≠ k := fun q => by
      subst q
      rw [gt_pt_same (by have := gt_lt (e := pt e i .no) (i := i) (by rw [h2]; simp); rwa [pt_length] at this)] at h2
      cases h2
    rw [gt_pt_ne n1] at h1
    rw [gt_pt_ne n2] at h2
    exact R.inj j k b xs c ys p hjk h1 h2
theorem getset_same {σ : L2.St} {i : Nat} {v : V} (h : i < σ.length) : (σ.set i (some v))[i]? = some (some v) := by
  rw [List.getElem?_set_self h]
theorem getset_ne {σ : L2.St} {i j : Nat} {v : Option V} (h : i ≠ j) : (σ.set i v)[j]? = σ[j]? := List.getElem?_set_ne h
/-- a value is stored in slot i -/
theorem Rel.setSh (R : Rel K S W e σ H) {i : Nat} {a : A} {v : V} (hi : i < e.length) (r : VR K W a v) : Rel K S W (pt e i (.sh a)) (σ.set i (some v)) H := by
  refine ⟨by rw [pt_length, List.length_set]; exact R.len, R.sub, R.old, R.there, R.fro, R.w0, R.pinH, fun j => ?_, fun j k b xs c ys p hjk h1 h2 => ?_⟩
  · by_cases hj : i = j
    · subst hj
      rw [gt_pt_same hi]
      exact ⟨v, getset_same (by rw [← R.len]; exact hi), r⟩
    · rw [gt_pt_ne hj]
      have := R.slot j
      cases q : gt e j with
      | no => trivial
      | sh a =>
        rw [q] at this
        obtain ⟨w, e1, e2⟩ := this
        exact ⟨w, by rw [getset_ne hj]; exact e1, e2⟩
      | ow pin xs =>
        rw [q] at this
        obtain ⟨p, vs, e1, e2⟩ := this
        exact ⟨p, vs, by rw [getset_ne hj]; exact e1, e2⟩
  · have n1 : i ≠ j := fun q => by
      subst q
      rw [gt_pt_same hi] at h1; cases h1
    have n2 : i ≠ k := fun q => by
      subst q
      rw [gt_pt_same hi] at h2; cases h2
    rw [gt_pt_ne n1] at h1
    rw [gt_pt_ne n2] at h2
    rw [getset_ne n1, getset_ne n2]
    exact R.inj j k b xs c ys p hjk h1 h2
/-- a new list of one's own is stored in slot i -/
theorem Rel.setOw (R : Rel K S W e σ H) {i : Nat} {xs : List A} {vs : List V} {p : Addr} (hi : i < e.length) (hp : H p = some (.lst vs)) (r : VRs K W xs vs) (hw : W p = none) (h0 : S.H0 p = none)
    (hn : ∀ j b ys, gt e j = .ow b ys → σ[j]? ≠ some (some (.ref p))) : Rel K S W (pt e i (.ow false xs)) (σ.set i (some (.ref p))) H := by
  refine ⟨by rw [pt_length, List.length_set]; exact R.len, R.sub, R.old, R.there, R.fro, R.w0, R.pinH, fun j => ?_, fun j k b xs' c ys q hjk h1 h2 => ?_⟩
  · by_cases hj : i = j
    · subst hj
      rw [gt_pt_same hi]
      exact ⟨p, vs, getset_same (by rw [← R.len]; exact hi), hp, r, hw, by simpa using h0⟩
    · rw [gt_pt_ne hj]
      have := R.slot j
      cases q : gt e j with
      | no => trivial
      | sh a =>
        rw [q] at this
        obtain ⟨w, e1, e2⟩ := this
        exact ⟨w, by rw [getset_ne hj]; exact e1, e2⟩
      | ow pin xs =>
        rw [q] at this
        obtain ⟨p, vs, e1, e2⟩ := this
        exact ⟨p, vs, by rw [getset_ne hj]; exact e1, e2⟩
  · by_cases n1 : i = j
    · subst n1
      rw [gt_pt_ne hjk] at h2
      rw [getset_same (by rw [← R.len]; exact hi), getset_ne hjk]
      intro z
      cases z
      exact hn k c ys h2
    · by_cases n2 : i = k
      · subst n2
        rw [gt_pt_ne n1] at h1
        rw [getset_ne n1, getset_same (by rw [← R.len]; exact hi)]
        intro z z2
        cases z2
        exact hn j b xs' h1 z
      · rw [gt_pt_ne n1] at h1
        rw [gt_pt_ne n2] at h2
        rw [getset_ne n1, getset_ne n2]
        exact R.inj j k b xs' c ys q hjk h1 h2
/-- slot i's own list is frozen -/
theorem Rel.freeze (R : Rel K S W e σ H) {i : Nat} {xs : List A} (hi : gt e i = .ow false xs) :
    ∃ p vs, σ[i]? = some (some (.ref p)) ∧ H p = some (.lst vs) ∧ VRs K W xs vs ∧ W p = none ∧ Same W (upd W p (.lst vs)) ∧ Rel K S (upd W p (.lst vs)) (pt e i (.sh (.lst xs))) σ H ∧ VR K (upd W p (.lst vs)) (.lst xs) (.ref p) := by
  have h := R.slot i
  rw [hi] at h
  obtain ⟨p, vs, e1, h1, h2, h3, h4⟩ := h
  have h4 : S.H0 p = none := by simpa using h4
  have hs : Same W (upd W p (.lst vs)) := same_upd h3
  have hv : VR K (upd W p (.lst vs)) (.lst xs) (.ref p) := ⟨p, vs, rfl, upd_same, VRs.mono hs xs h2⟩
  have hl : i < e.length := gt_lt (by rw [hi]; simp)
  refine ⟨p, vs, e1, h1, h2, h3, hs, ⟨by rw [pt_length]; exact R.len, fun b u q => ?_, R.old, R.there, fun b u q => ?_, R.w0, R.pinH, fun j => ?_, fun j k b xs' c ys q hjk k1 k2 => ?_⟩, hv⟩
  · by_cases hb : b = p
    · subst hb; rw [upd_same] at q; cases q; exact h1
    · rw [upd_ne hb] at q; exact R.sub b u q
  · rw [upd_ne (ne_of_none q h4)]; exact R.fro b u q
  · by_cases hj : i = j
    · subst hj
      rw [gt_pt_same hl]
      exact ⟨_, e1, hv⟩
    · rw [gt_pt_ne hj]
      have := R.slot j
      cases q : gt e j with
      | no => trivial
      | sh a =>
        rw [q] at this
        obtain ⟨w, e1, e2⟩ := this
        exact ⟨w, e1, VR.mono hs a e2⟩
      | ow pin ys =>
        rw [q] at this
        obtain ⟨p', vs', f1, f2, f3, f4, f5⟩ := this
        have ne : p' ≠ p := fun z => by
          subst z
          exact R.inj i j false xs pin ys p' hj hi q e1 f1
        exact ⟨p', vs', f1, f2, VRs.mono hs ys f3, by rw [upd_ne ne]; exact f4, f5⟩
  · have n1 : i ≠ j := fun z => by
      subst z
      rw [gt_pt_same hl] at k1; cases k1
    have n2 : i ≠ k := fun z => by
      subst z
      rw [gt_pt_same hl] at k2; cases k2
    rw [gt_pt_ne n1] at k1
    rw [gt_pt_ne n2] at k2
    exact R.inj j k b xs' c ys q hjk k1 k2
/-- slot i's list is written -/
theorem Rel.write (R : Rel K S W e σ H) {i : Nat} {pn : Bool} {xs ns : List A} {ws : List V} {p : Addr} (hi : gt e i = .ow pn xs) (hp : σ[i]? = some (some (.ref p))) (r : VRs K W ns ws) :
    Rel K S W (pt e i (.ow pn ns)) σ (upd H p (.lst ws)) := by
  have h := R.slot i
  rw [hi] at h
  obtain ⟨p', vs, e1, h1, h2, h3, h4⟩ := h
  rw [hp] at e1; cases e1
  have hl : i < e.length := gt_lt (by rw [hi]; simp)
  refine ⟨by rw [pt_length]; exact R.len, fun b u q => ?_, fun b u q n => ?_, fun b q => ?_, R.fro, R.w0, R.pinH, fun j => ?_, fun j k b xs' c ys q hjk k1 k2 => ?_⟩
  · have hb : b ≠ p := fun z => by subst z; rw [h3] at q; cases q
    rw [upd_ne hb]; exact R.sub b u q
  · have hb : b ≠ p := fun z => by
      subst z
      cases pn with
      | true => exact n i (by simpa using h4)
      | false => rw [show S.H0 b = none by simpa using h4] at q; cases q
    rw [upd_ne hb]; exact R.old b u q n
  · by_cases hb : b = p
    · subst hb; rw [upd_same]; simp
    · rw [upd_ne hb]; exact R.there b q
  · by_cases hj : i = j
    · subst hj
      rw [gt_pt_same hl]
      exact ⟨p, ws, hp, upd_same, r, h3, h4⟩
    · rw [gt_pt_ne hj]
      have := R.slot j
      cases q : gt e j with
      | no => trivial
      | sh a => rw [q] at this; exact this
      | ow pin zs =>
        rw [q] at this
        obtain ⟨p', vs', f1, f2, f3, f4, f5⟩ := this
        have ne : p' ≠ p := fun z => by
          subst z
          exact R.inj i j _ xs pin zs p' hj hi q hp f1
        exact ⟨p', vs', f1, by rw [upd_ne ne]; exact f2, f3, f4, f5⟩
  · have g : ∀ l c' (zs : List A), gt (pt e i (.ow pn ns)) l = .ow c' zs → ∃ zs', ∃ c'', gt e l = .ow c'' zs' := fun l c' zs hl' => by
      by_cases hq : i = l
      · subst hq; exact ⟨_, _, hi⟩
      · rw [gt_pt_ne hq] at hl'; exact ⟨_, _, hl'⟩
    obtain ⟨z1, c1, g1⟩ := g j b xs' k1
    obtain ⟨z2, c2, g2⟩ := g k c ys k2
    exact R.inj j k c1 z1 c2 z2 q hjk g1 g2
end
end AL
/-! AL2: denotations, judgements, expressions. -/
namespace AL
open PySem PySem.Spec PyProof.Rows L2

abbrev XQ := Ex → Ev → Prop
abbrev DE := Ev → (A → Ev → Prop) → XQ → Prop
abbrev DT := Ev → (Bool → Ev → Prop) → XQ → Prop
inductive Arg where
  | v (a : A)
  | bor (i : Nat)
abbrev DA := Ev → (List Arg → Ev → Prop) → XQ → Prop
inductive Res where
  | sh (a : A)
  | ow (xs : List A)
abbrev DR := Ev → (Res → Ev → Prop) → XQ → Prop

/-- the same, or an owned list as it stands now -/
def PR (K : PySem.W.Frag) (W H : Hp) (a : A) (v : V) : Prop := VR K W a v ∨ ∃ xs p vs, a = .lst xs ∧ v = .ref p ∧ H p = some (.lst vs) ∧ VRs K W xs vs

def XOk (K : PySem.W.Frag) (S : Fx) (Wx : WX) (W : Hp) (σ : L2.St) (EQ : XQ) : Prop :=
  ∀ x e' W' cls d H', Same W W' → Rel K S W' e' σ H' → XR K W' x cls d H' → EQ x e' → Wx cls d σ H'
def SimE (K : PySem.W.Frag) (Wx : WX) (t : TE) (c : DE) : Prop := ∀ (S : Fx) (W : Hp) (e : Ev) (σ : L2.St) (H : Hp) (Q : A → Ev → Prop) (EQ : XQ) (Qv : VK), Rel K S W e σ H → c e Q EQ →
  (∀ a e' W' v H', Same W W' → Rel K S W' e' σ H' → VR K W' a v → Q a e' → Qv v H') → XOk K S Wx W σ EQ → t σ H Qv
def SimP (K : PySem.W.Frag) (Wx : WX) (t : TE) (c : DE) : Prop := ∀ (S : Fx) (W : Hp) (e : Ev) (σ : L2.St) (H : Hp) (Q : A → Ev → Prop) (EQ : XQ) (Qv : VK), Rel K S W e σ H → c e Q EQ →
  (∀ a e' W' v H', Same W W' → Rel K S W' e' σ H' → PR K W' H' a v → Q a e' → Qv v H') → XOk K S Wx W σ EQ → t σ H Qv
def SimT (K : PySem.W.Frag) (Wx : WX) (t : TT) (c : DT) : Prop := ∀ (S : Fx) (W : Hp) (e : Ev) (σ : L2.St) (H : Hp) (Q : Bool → Ev → Prop) (EQ : XQ) (Qv : Bool → Hp → Prop), Rel K S W e σ H → c e Q EQ →
  (∀ b e' W' H', Same W W' → Rel K S W' e' σ H' → Q b e' → Qv b H') → XOk K S Wx W σ EQ → t σ H Qv
/-- several values, from the left -/
def evL : List DE → Ev → (List A → Ev → Prop) → XQ → Prop
  | [], e, Q, _ => Q [] e
  | c :: cs, e, Q, EQ => c e (fun a e1 => evL cs e1 (fun xs e2 => Q (a :: xs) e2) EQ) EQ
def SimL (K : PySem.W.Frag) (Wx : WX) (t : TA) (cs : List DE) : Prop := ∀ (S : Fx) (W : Hp) (e : Ev) (σ : L2.St) (H : Hp) (Q : List A → Ev → Prop) (EQ : XQ) (Qv : List V → Hp → Prop), Rel K S W e σ H → evL cs e Q EQ →
  (∀ xs e' W' vs H', Same W W' → Rel K S W' e' σ H' → VRs K W' xs vs → xs.length = cs.length → Q xs e' → Qv vs H') → XOk K S Wx W σ EQ → t σ H Qv
/-- an argument as it was handed over -/
def ArgV (K : PySem.W.Frag) (W : Hp) (σ : L2.St) : Arg → V → Prop
  | .v a, v => VR K W a v
  | .bor i, v => σ[i]? = some (some v)
def ArgVs (K : PySem.W.Frag) (W : Hp) (σ : L2.St) : List Arg → List V → Prop
  | [], vs => vs = []
  | x :: xs, vs => ∃ v r, vs = v :: r ∧ ArgV K W σ x v ∧ ArgVs K W σ xs r
def SimA (K : PySem.W.Frag) (Wx : WX) (t : TA) (c : DA) : Prop := ∀ (S : Fx) (W : Hp) (e : Ev) (σ : L2.St) (H : Hp) (Q : List Arg → Ev → Prop) (EQ : XQ) (Qv : List V → Hp → Prop), Rel K S W e σ H → c e Q EQ →
  (∀ xs e' W' vs H', Same W W' → Rel K S W' e' σ H' → ArgVs K W' σ xs vs → Q xs e' → Qv vs H') → XOk K S Wx W σ EQ → t σ H Qv
/-- a result: a frozen value, or a new list that nobody else has -/
def ResR (K : PySem.W.Frag) (S : Fx) (W : Hp) (e : Ev) (σ : L2.St) (H : Hp) : Res → V → Prop
  | .sh a, v => VR K W a v
  | .ow xs, v => ∃ p vs, v = .ref p ∧ H p = some (.lst vs) ∧ VRs K W xs vs ∧ W p = none ∧ S.H0 p = none ∧ ∀ j b ys, gt e j = .ow b ys → σ[j]? ≠ some (some (.ref p))
def SimR (K : PySem.W.Frag) (Wx : WX) (t : TE) (c : DR) : Prop := ∀ (S : Fx) (W : Hp) (e : Ev) (σ : L2.St) (H : Hp) (Q : Res → Ev → Prop) (EQ : XQ) (Qv : VK), Rel K S W e σ H → c e Q EQ →
  (∀ r e' W' v H', Same W W' → Rel K S W' e' σ H' → ResR K S W' e' σ H' r v → Q r e' → Qv v H') → XOk K S Wx W σ EQ → t σ H Qv

structure CV (X : Cx) (Wx : WX) (ex : Expr) (t : TE) (c : DE) : Prop where
  pe : PE X ex t
  sim : SimE X.K Wx t c
structure CP (X : Cx) (Wx : WX) (ex : Expr) (t : TE) (c : DE) : Prop where
  pe : PE X ex t
  sim : SimP X.K Wx t c
structure CT (X : Cx) (Wx : WX) (ex : Expr) (t : TT) (c : DT) : Prop where
  pt : PT X ex t
  sim : SimT X.K Wx t c
structure CW (X : Cx) (Wx : WX) (ex : Expr) (t : TT) (c : DT) : Prop where
  pw : PW X ex t
  sim : SimT X.K Wx t c
structure CL (X : Cx) (Wx : WX) (es : List Expr) (t : TA) (cs : List DE) : Prop where
  pa : PA X es t
  sim : SimL X.K Wx t cs
structure CA (X : Cx) (Wx : WX) (es : List Expr) (t : TA) (c : DA) : Prop where
  pa : PA X es t
  sim : SimA X.K Wx t c
structure CRs (X : Cx) (Wx : WX) (ex : Expr) (t : TE) (c : DR) : Prop where
  pe : PE X ex t
  sim : SimR X.K Wx t c

section
variable {K : PySem.W.Frag} {S : Fx} {Wx : WX} {W W' H H' : Hp} {e : Ev} {σ : L2.St}
theorem XOk.mono {EQ : XQ} (x : XOk K S Wx W σ EQ) (s : Same W W') : XOk K S Wx W' σ EQ := fun y e' W2 cls d H' s2 R r q => x y e' W2 cls d H' (s.trans s2) R r q
theorem PR.of {a : A} {v : V} (h : VR K W a v) : PR K W H a v := .inl h
theorem PR.int {i : Int} {v : V} (h : PR K W H (.int i) v) : v = .int i := by
  rcases h with h | ⟨_, _, _, h, _⟩
  · exact h
  · cases h
theorem PR.bl {i : Bool} {v : V} (h : PR K W H (.bl i) v) : v = .bl i := by
  rcases h with h | ⟨_, _, _, h, _⟩
  · exact h
  · cases h
theorem PR.str {i : Str} {v : V} (h : PR K W H (.str i) v) : v = .str i := by
  rcases h with h | ⟨_, _, _, h, _⟩
  · exact h
  · cases h
theorem PR.tup {xs : List A} {v : V} (h : PR K W H (.tup xs) v) : VR K W (.tup xs) v := by
  rcases h with h | ⟨_, _, _, h, _⟩
  · exact h
  · cases h
theorem PR.lst {xs : List A} {v : V} (s : Same W H) (h : PR K W H (.lst xs) v) : ∃ p vs, v = .ref p ∧ H p = some (.lst vs) ∧ VRs K W xs vs := by
  rcases h with ⟨p, vs, e1, e2, e3⟩ | ⟨_, p, vs, h, e1, e2, e3⟩
  · exact ⟨p, vs, e1, s _ _ e2, e3⟩
  · cases h; exact ⟨p, vs, e1, e2, e3⟩
theorem SimE.p {t : TE} {c : DE} (h : SimE K Wx t c) : SimP K Wx t c := fun S W e σ H Q EQ Qv R hc q x => h S W e σ H Q EQ Qv R hc (fun a e' W' v H' s R' r z => q a e' W' v H' s R' (.inl r) z) x
end
theorem CV.p {X : Cx} {Wx : WX} {ex : Expr} {t : TE} {c : DE} (h : CV X Wx ex t c) : CP X Wx ex t c := ⟨h.pe, h.sim.p⟩
theorem CW.t {X : Cx} {Wx : WX} {ex : Expr} {t : TT} {c : DT} (h : CW X Wx ex t c) : CT X Wx ex t c := ⟨h.pw.pt, h.sim⟩

/-! ### names, constants -/
def cK (a : A) : DE := fun e Q _ => Q a e
/-- a name as a value: an owned list is frozen from then on -/
def cVar (i : Nat) : DE := fun e Q _ => match gt e i with
  | .sh a => Q a e
  | .ow false xs => Q (.lst xs) (pt e i (.sh (.lst xs)))
  | _ => False
/-- a name's list looked at -/
def cPeek (i : Nat) : DE := fun e Q _ => match gt e i with
  | .sh a => Q a e
  | .ow _ xs => Q (.lst xs) e
  | .no => False
section
variable {K : PySem.W.Frag} {Wx : WX}
theorem sim_var (i : Nat) : SimE K Wx (tVar i) (cVar i) := by
  intro S W e σ H Q EQ Qv R h q x
  unfold cVar at h
  have r := R.slot i
  cases g : gt e i with
  | no => rw [g] at h; exact h.elim
  | sh a =>
    rw [g] at h r
    obtain ⟨v, e1, r⟩ := r
    exact ⟨v, e1, q a e W v H (Same.refl _) R r h⟩
  | ow b xs =>
    rw [g] at h
    cases b with
    | true => exact h.elim
    | false =>
      obtain ⟨p, vs, e1, h1, h2, h3, s, R', rv⟩ := R.freeze g
      exact ⟨_, e1, q _ _ _ _ H s R' rv h⟩
theorem sim_peek (i : Nat) : SimP K Wx (tVar i) (cPeek i) := by
  intro S W e σ H Q EQ Qv R h q x
  unfold cPeek at h
  have r := R.slot i
  cases g : gt e i with
  | no => rw [g] at h; exact h.elim
  | sh a =>
    rw [g] at h r
    obtain ⟨v, e1, r⟩ := r
    exact ⟨v, e1, q a e W v H (Same.refl _) R (.inl r) h⟩
  | ow b xs =>
    rw [g] at h r
    obtain ⟨p, vs, e1, h1, h2, h3, h4⟩ := r
    exact ⟨_, e1, q _ _ W _ H (Same.refl _) R (.inr ⟨xs, p, vs, rfl, rfl, h1, h2⟩) h⟩
theorem sim_k {a : A} {v : V} (r : ∀ W, VR K W a v) : SimE K Wx (tC v) (cK a) := fun S W e σ H Q EQ Qv R h q x => q a e W v H (Same.refl _) R (r W) h
end
section
variable {X : Cx} {Wx : WX} {pos : Pos}
theorem cv_var (i : Nat) {x : Str} (hN : X.N[i]? = some x := by rfl) (hv : Vis X.env.scope x := by first | exact Or.inl rfl | exact Or.inr (Or.inl rfl) | exact Or.inr (Or.inr rfl)) (hd : (x == ("__debug__" : Str)) = false := by decide)
    (hcd : (x == ("__classdict__" : Str)) = false := by decide) : CV X Wx (.Name x pos) (tVar i) (cVar i) := ⟨pe_var hN hv hd hcd, sim_var i⟩
theorem cp_var (i : Nat) {x : Str} (hN : X.N[i]? = some x := by rfl) (hv : Vis X.env.scope x := by first | exact Or.inl rfl | exact Or.inr (Or.inl rfl) | exact Or.inr (Or.inr rfl)) (hd : (x == ("__debug__" : Str)) = false := by decide)
    (hcd : (x == ("__classdict__" : Str)) = false := by decide) : CP X Wx (.Name x pos) (tVar i) (cPeek i) := ⟨pe_var hN hv hd hcd, sim_peek i⟩
theorem cv_int {i : Int} {j} : CV X Wx (.Constant (.int i) j pos) (tC (.int i)) (cK (.int i)) := ⟨pe_int, sim_k fun _ => rfl⟩
theorem cv_bl {i : Bool} {j} : CV X Wx (.Constant (.bool i) j pos) (tC (.bl i)) (cK (.bl i)) := ⟨pe_bl, sim_k fun _ => rfl⟩
theorem cv_str {i : Str} {j} : CV X Wx (.Constant (.str i) j pos) (tC (.str i)) (cK (.str i)) := ⟨pe_str, sim_k fun _ => rfl⟩
theorem cv_non {j} : CV X Wx (.Constant .none j pos) (tC .non) (cK .non) := ⟨pe_non, sim_k fun _ => rfl⟩
/-- a module's constant -/
theorem cv_glob {x : Str} {v : V} {u : Value} {a : A} (hm : X.mg x = some u) (r : RelV v u) (ra : ∀ W, VR X.K W a v) (hg : Gl X x := by rfl) (hd : (x == ("__debug__" : Str)) = false := by decide) : CV X Wx (.Name x pos) (tC v) (cK a) :=
  ⟨pe_glob hg hm r hd, sim_k ra⟩
end

/-! ### operators -/
/-- what an operator makes of two values (the second may be an owned list, looked at) -/
def SimOp (K : PySem.W.Frag) (r : R2) (f : A → A → (A → Prop) → Prop) : Prop := ∀ (W H : Hp) (a b : A) (v w : V) (P : A → Prop) (Qv : VK), Same W H → VR K W a v → PR K W H b w → f a b P →
  (∀ z W' u H', Ext W H W' H' → VR K W' z u → P z → Qv u H') → r v w H Qv
def SimUn (K : PySem.W.Frag) (r : V → Hp → VK → Prop) (f : A → (A → Prop) → Prop) : Prop := ∀ (W H : Hp) (a : A) (v : V) (P : A → Prop) (Qv : VK), Same W H → PR K W H a v → f a P →
  (∀ z W' u H', Ext W H W' H' → VR K W' z u → P z → Qv u H') → r v H Qv
def cOp (f : A → A → (A → Prop) → Prop) (ca cb : DE) : DE := fun e Q EQ => ca e (fun a e1 => cb e1 (fun b e2 => f a b fun z => Q z e2) EQ) EQ
def cUn (f : A → (A → Prop) → Prop) (ca : DE) : DE := fun e Q EQ => ca e (fun a e1 => f a fun z => Q z e1) EQ
section
variable {K : PySem.W.Frag} {Wx : WX} {ta tb : TE} {ca cb : DE}
theorem sim_op {r : R2} {f : A → A → (A → Prop) → Prop} (hf : SimOp K r f) (ha : SimE K Wx ta ca) (hb : SimP K Wx tb cb) : SimE K Wx (tOp r ta tb) (cOp f ca cb) := by
  intro S W e σ H Q EQ Qv R h q x
  refine ha S W e σ H _ EQ _ R h (fun a e1 W1 v H1 s1 R1 r1 h1 => ?_) x
  refine hb S W1 e1 σ H1 _ EQ _ R1 h1 (fun b e2 W2 w H2 s2 R2 r2 h2 => ?_) (x.mono s1)
  exact hf W2 H2 a b v w _ _ R2.sub (VR.mono s2 a r1) r2 h2 fun z W3 u H3 ex rz pz => q z e2 W3 u H3 (s1.trans (s2.trans (ex.same R2.sub))) (R2.ext ex) rz pz
theorem sim_un {r : V → Hp → VK → Prop} {f : A → (A → Prop) → Prop} (hf : SimUn K r f) (ha : SimP K Wx ta ca) : SimE K Wx (tUn r ta) (cUn f ca) := by
  intro S W e σ H Q EQ Qv R h q x
  refine ha S W e σ H _ EQ _ R h (fun a e1 W1 v H1 s1 R1 r1 h1 => ?_) x
  exact hf W1 H1 a v _ _ R1.sub r1 h1 fun z W3 u H3 ex rz pz => q z e1 W3 u H3 (s1.trans (ex.same R1.sub)) (R1.ext ex) rz pz
end
section
variable {X : Cx} {Wx : WX} {pos : Pos} {a b : Expr} {ta tb : TE} {ca cb : DE}
theorem cv_bin {op : Operator} {r : R2} {f : A → A → (A → Prop) → Prop} (ho : OpR X (binaryOp op) r) (hf : SimOp X.K r f) (ha : CV X Wx a ta ca) (hb : CP X Wx b tb cb) : CV X Wx (.BinOp a op b pos) (tOp r ta tb) (cOp f ca cb) :=
  ⟨pe_op ho ha.pe hb.pe, sim_op hf ha.sim hb.sim⟩
theorem cv_unop {op : UnaryOp} {r : V → Hp → VK → Prop} {f : A → (A → Prop) → Prop} (ho : UnR X (unaryOp op) r) (hf : SimUn X.K r f) (ha : CP X Wx a ta ca) : CV X Wx (.UnaryOp op a pos) (tUn r ta) (cUn f ca) :=
  ⟨pe_un ho ha.pe, sim_un hf ha.sim⟩
theorem cv_cmp {op : CmpOp} {r : R2} {f : A → A → (A → Prop) → Prop} (ho : OpR X (compareOp op) r) (hf : SimOp X.K r f) (ha : CV X Wx a ta ca) (hb : CP X Wx b tb cb) (hm : behindInMarks op b = false := by first | exact nobehind _ (by decide) (by decide) | rfl) :
    CV X Wx (.Compare a [op] [b] pos) (tOp r ta tb) (cOp f ca cb) := ⟨pe_cmpR ho ha.pe hb.pe hm, sim_op hf ha.sim hb.sim⟩
/-- a value that is a bool, as a test -/
def cB (c : DE) : DT := fun e Q EQ => c e (fun a e1 => match a with
  | .bl b => Q b e1
  | _ => False) EQ
theorem sim_b {K : PySem.W.Frag} {t : TE} {c : DE} (h : SimP K Wx t c) : SimT K Wx (tB t) (cB c) := by
  intro S W e σ H Q EQ Qv R hc q x
  refine h S W e σ H _ EQ _ R hc (fun a e1 W1 v H1 s1 R1 r1 h1 => ?_) x
  cases a with
  | bl b =>
    rw [PR.bl r1]
    exact ⟨b, rfl, q b e1 W1 H1 s1 R1 h1⟩
  | _ => exact h1.elim
theorem ct_cmp {op : CmpOp} {r : R2} {f : A → A → (A → Prop) → Prop} (ho : OpR X (compareOp op) r) (hf : SimOp X.K r f) (ha : CV X Wx a ta ca) (hb : CP X Wx b tb cb) (hm : behindInMarks op b = false := by first | exact nobehind _ (by decide) (by decide) | rfl) :
    CT X Wx (.Compare a [op] [b] pos) (tTest (tOp r ta tb)) (cB (cOp f ca cb)) := ⟨pt_cmpR ho ha.pe hb.pe hm, sim_b (sim_op hf ha.sim hb.sim).p⟩
theorem ct_val {t : TE} {c : DE} (h : CP X Wx a t c) (he : ∀ whole, isTrue a X.env whole = (do let v ← whole; standAt a.pos; holding [v] (truthy v)) := by intro _; rfl) : CT X Wx a (tB t) (cB c) := ⟨pt_val h.pe he, sim_b h.sim⟩
end
end AL
/-! AL3: operators' instances, and / or / not, a if t else b, displays, subscripts. -/
namespace AL
open PySem PySem.Spec PyProof.Rows L2

/-! ### ints -/
def fI (C : Int → Int → Prop) (g : Int → Int → A) (a b : A) (P : A → Prop) : Prop := match a, b with
  | .int i, .int j => C i j ∧ P (g i j)
  | _, _ => False
def fI0 (g : Int → Int → A) (a b : A) (P : A → Prop) : Prop := match a, b with
  | .int i, .int j => P (g i j)
  | _, _ => False
section
variable {K : PySem.W.Frag}
theorem so_I {C : Int → Int → Prop} {g : Int → Int → V} {g' : Int → Int → A} (hg : ∀ i j W, VR K W (g' i j) (g i j)) : SimOp K (rI C g) (fI C g') := by
  intro W H a b v w P Qv s ra rb h q
  cases a with
  | int i =>
    cases b with
    | int j =>
      obtain ⟨hc, h⟩ := h
      exact ⟨i, j, ra, PR.int rb, hc, q _ W _ H Ext.refl (hg i j W) h⟩
    | _ => exact h.elim
  | _ => cases b <;> exact h.elim
theorem so_I0 {g : Int → Int → V} {g' : Int → Int → A} (hg : ∀ i j W, VR K W (g' i j) (g i j)) : SimOp K (rI0 g) (fI0 g') := by
  intro W H a b v w P Qv s ra rb h q
  cases a with
  | int i =>
    cases b with
    | int j => exact ⟨i, j, ra, PR.int rb, q _ W _ H Ext.refl (hg i j W) h⟩
    | _ => exact h.elim
  | _ => cases b <;> exact h.elim
theorem SimOp.or1 {r r' : R2} {f : A → A → (A → Prop) → Prop} (h : SimOp K r f) : SimOp K (fun x y H Q => r x y H Q ∨ r' x y H Q) f := fun W H a b v w P Qv s ra rb hf q => .inl (h W H a b v w P Qv s ra rb hf q)
end
def cSub (ca cb : DE) : DE := cOp (fI0 fun i j => .int (i - j)) ca cb
/-- what * asks: one factor below 2^64, or together below a million bits -/
def MulOk (i j : Int) : Prop := CMul i j ∨ CMulW i j
def rMulA : R2 := fun x y H Q => rI CMul (fun i j => .int (i * j)) x y H Q ∨ rI CMulW (fun i j => .int (i * j)) x y H Q
theorem op_mulA {X : Cx} : OpR X (binaryOp .Mult) rMulA := op_mul.or op_mulW
theorem so_mul {K : PySem.W.Frag} : SimOp K rMulA (fI MulOk fun i j => .int (i * j)) := by
  intro W H a b v w P Qv s ra rb h q
  cases a with
  | int i =>
    cases b with
    | int j =>
      obtain ⟨hc | hc, h⟩ := h
      · exact .inl ⟨i, j, ra, PR.int rb, hc, q (.int (i * j)) W _ H Ext.refl rfl h⟩
      · exact .inr ⟨i, j, ra, PR.int rb, hc, q (.int (i * j)) W _ H Ext.refl rfl h⟩
    | _ => exact h.elim
  | _ => cases b <;> exact h.elim
/-! ### + : ints, tuples, lists -/
def fAdd (a b : A) (P : A → Prop) : Prop := match a, b with
  | .int i, .int j => P (.int (i + j))
  | .tup xs, .tup ys => xs.length + ys.length ≤ sizeLine ∧ P (.tup (xs ++ ys))
  | .lst xs, .lst ys => xs.length + ys.length ≤ sizeLine ∧ P (.lst (xs ++ ys))
  | _, _ => False
def rAddA (K : PySem.W.Frag) : R2 := fun x y H Q => rI0 (fun i j => .int (i + j)) x y H Q ∨ (fun x y H Q => rCatA K x y H Q ∨ rCat x y H Q) x y H Q
theorem op_addA {X : Cx} : OpR X (binaryOp .Add) (rAddA X.K) := op_add.or (op_catA.or op_cat)
theorem so_add {K : PySem.W.Frag} : SimOp K (rAddA K) fAdd := by
  intro W H a b v w P Qv s ra rb h q
  cases a with
  | int i =>
    cases b with
    | int j => exact .inl ⟨i, j, ra, PR.int rb, q (.int (i + j)) W _ H Ext.refl rfl h⟩
    | _ => exact h.elim
  | tup xs =>
    cases b with
    | tup ys =>
      obtain ⟨hl, h⟩ := h
      obtain ⟨p, vs, rfl, h1, h2⟩ := ra
      obtain ⟨p', ws, rfl, h3, h4⟩ := PR.tup rb
      refine .inr (.inl ⟨p, p', vs, ws, rfl, rfl, SqT.mono s h1, SqT.mono s h3, by rw [h2.length, h4.length]; exact hl, fun e => ?_, fun e1 e2 => ?_, fun e1 e2 z hz => ?_⟩)
      · have e' : xs = [] := by
          have := h2.length
          rw [e] at this
          exact List.length_eq_zero_iff.mp this.symm
        subst e'
        exact q (.tup ([] ++ ys)) W _ H Ext.refl ⟨p', ws, rfl, h3, h4⟩ h
      · have e' : ys = [] := by
          have := h4.length
          rw [e2] at this
          exact List.length_eq_zero_iff.mp this.symm
        subst e'
        rw [List.append_nil] at h
        exact q (.tup xs) W _ H Ext.refl ⟨p, vs, rfl, h1, h2⟩ h
      · have hs := same_upd (o := .tup (vs ++ ws)) (sub_none s hz)
        exact q (.tup (xs ++ ys)) (upd W z (.tup (vs ++ ws))) _ _ (.inr ⟨z, _, hz, rfl, rfl⟩) ⟨z, _, rfl, .inl (.inl upd_same), (VRs.mono hs xs h2).append (VRs.mono hs ys h4)⟩ h
    | _ => exact h.elim
  | lst xs =>
    cases b with
    | lst ys =>
      obtain ⟨hl, h⟩ := h
      obtain ⟨p, vs, rfl, h1, h2⟩ := ra
      obtain ⟨p', ws, rfl, h3, h4⟩ := PR.lst s rb
      refine .inr (.inr ⟨p, p', vs, ws, rfl, rfl, s _ _ h1, h3, by rw [h2.length, h4.length]; exact hl, fun z hz => ?_⟩)
      have hs := same_upd (o := .lst (vs ++ ws)) (sub_none s hz)
      exact q (.lst (xs ++ ys)) (upd W z (.lst (vs ++ ws))) _ _ (.inr ⟨z, _, hz, rfl, rfl⟩) ⟨z, _, rfl, upd_same, (VRs.mono hs xs h2).append (VRs.mono hs ys h4)⟩ h
    | _ => exact h.elim
  | _ => cases b <;> exact h.elim
/-! ### - x -/
def fNeg (a : A) (P : A → Prop) : Prop := match a with
  | .int i => P (.int (-i))
  | _ => False
theorem su_neg {K : PySem.W.Frag} : SimUn K (rU fun i => .int (-i)) fNeg := by
  intro W H a v P Qv s ra h q
  cases a with
  | int i => exact ⟨i, PR.int ra, q (.int (-i)) W _ H Ext.refl rfl h⟩
  | _ => exact h.elim
/-! ### == -/
mutual
def dat : A → PyData
  | .non => .none
  | .bl b => .bool b
  | .int i => .int i
  | .str s => .str s
  | .tup xs => .tuple (dats xs)
  | .lst xs => .list (dats xs)
  | .scr _ => .none
def dats : List A → List PyData
  | [] => []
  | x :: xs => dat x :: dats xs
end
mutual
/-- no script within -/
def noScr : A → Bool
  | .scr _ => false
  | .tup xs => noScrs xs
  | .lst xs => noScrs xs
  | .non => true
  | .bl _ => true
  | .int _ => true
  | .str _ => true
def noScrs : List A → Bool
  | [] => true
  | x :: xs => noScr x && noScrs xs
end
section
variable {K : PySem.W.Frag} {W H : Hp}
mutual
theorem dp_of (s : Same W H) : ∀ (a : A) {v : V}, noScr a = true → VR K W a v → Dp K H v (dat a)
  | .non, _, _, h => by rw [show _ = V.non from h]; exact .non
  | .bl b, _, _, h => by rw [show _ = V.bl b from h]; exact .bl b
  | .int i, _, _, h => by rw [show _ = V.int i from h]; exact .int i
  | .str i, _, _, h => by rw [show _ = V.str i from h]; exact .str i
  | .tup xs, _, n, h => by
    obtain ⟨p, vs, rfl, h1, h2⟩ := h
    exact .tup (SqT.mono s h1) (dps_of s xs (by simpa [noScr] using n) h2)
  | .lst xs, _, n, h => by
    obtain ⟨p, vs, rfl, h1, h2⟩ := h
    exact .lst (.inl (.inl (s _ _ h1))) (dps_of s xs (by simpa [noScr] using n) h2)
  | .scr _, _, n, _ => by simp [noScr] at n
theorem dps_of (s : Same W H) : ∀ (xs : List A) {vs : List V}, noScrs xs = true → VRs K W xs vs → DpAll K H vs (dats xs)
  | [], _, _, h => by rw [show _ = [] from h]; exact .nil
  | x :: xs, _, n, h => by
    obtain ⟨v, r, rfl, h1, h2⟩ := h
    have n' : noScr x = true ∧ noScrs xs = true := by simpa [noScrs] using n
    exact .cons (dp_of s x n'.1 h1) (dps_of s xs n'.2 h2)
end
theorem dpP_of (s : Same W H) {a : A} {v : V} (n : noScr a = true) (h : PR K W H a v) : Dp K H v (dat a) := by
  rcases h with h | ⟨xs, p, vs, rfl, rfl, h1, h2⟩
  · exact dp_of s a n h
  · exact .lst (.inl (.inl h1)) (dps_of s xs (by simpa [noScr] using n) h2)
end
/-- what == asks -/
def EqOk (a : A) : Prop := noScr a = true ∧ SeqAt.shaped (dat a) = true
def eqA (a b : A) : Bool := PyData.eqv (dat a) (dat b)
def fEq (a b : A) (P : A → Prop) : Prop := EqOk a ∧ EqOk b ∧ P (.bl (eqA a b))
def fNe (a b : A) (P : A → Prop) : Prop := EqOk a ∧ EqOk b ∧ P (.bl (!eqA a b))
theorem so_eq {K : PySem.W.Frag} : SimOp K (rEqD K) fEq := fun W H a b v w P Qv s ra rb h q =>
  ⟨_, _, dp_of s a h.1.1 ra, dpP_of s h.2.1.1 rb, h.1.2, h.2.1.2, q (.bl (eqA a b)) W _ H Ext.refl rfl h.2.2⟩
theorem so_ne {K : PySem.W.Frag} : SimOp K (rNeD K) fNe := fun W H a b v w P Qv s ra rb h q =>
  ⟨_, _, dp_of s a h.1.1 ra, dpP_of s h.2.1.1 rb, h.1.2, h.2.1.2, q (.bl (!eqA a b)) W _ H Ext.refl rfl h.2.2⟩
/-! ### is, is not of bools -/
def fIs (a b : A) (P : A → Prop) : Prop := match a, b with
  | .bl i, .bl j => P (.bl (decide (i = j)))
  | _, _ => False
def fIsN (a b : A) (P : A → Prop) : Prop := match a, b with
  | .bl i, .bl j => P (.bl (!decide (i = j)))
  | _, _ => False
theorem so_is {K : PySem.W.Frag} : SimOp K rIsB fIs := by
  intro W H a b v w P Qv s ra rb h q
  cases a with
  | bl i =>
    cases b with
    | bl j => exact ⟨i, j, ra, PR.bl rb, q (.bl (decide (i = j))) W _ H Ext.refl rfl h⟩
    | _ => exact h.elim
  | _ => cases b <;> exact h.elim
theorem so_isN {K : PySem.W.Frag} : SimOp K rNotB fIsN := by
  intro W H a b v w P Qv s ra rb h q
  cases a with
  | bl i =>
    cases b with
    | bl j => exact ⟨i, j, ra, PR.bl rb, q (.bl (!decide (i = j))) W _ H Ext.refl rfl h⟩
    | _ => exact h.elim
  | _ => cases b <;> exact h.elim
/-! ### in, not in: flat items -/
def flA : A → Bool
  | .non => true
  | .bl _ => true
  | .int _ => true
  | .str _ => true
  | _ => false
def eqF : A → A → Bool
  | .non, .non => true
  | .bl a, .bl b => a == b
  | .int a, .int b => a == b
  | .str a, .str b => a == b
  | .bl a, .int b => (if a then 1 else 0) == b
  | .int a, .bl b => a == (if b then 1 else 0)
  | _, _ => false
section
variable {K : PySem.W.Frag} {W H : Hp}
theorem fl_V {a : A} {v : V} (h : VR K W a v) (f : flA a = true) : flatV v = true := by
  cases a with
  | non => rw [show v = .non from h]; rfl
  | bl b => rw [show v = .bl b from h]; rfl
  | int b => rw [show v = .int b from h]; rfl
  | str b => rw [show v = .str b from h]; rfl
  | _ => cases f
def fv : A → V
  | .non => .non
  | .bl b => .bl b
  | .int b => .int b
  | .str b => .str b
  | _ => .non
theorem fv_of {a : A} {v : V} (h : VR K W a v) (f : flA a = true) : v = fv a := by
  cases a with
  | non => exact h
  | bl b => exact h
  | int b => exact h
  | str b => exact h
  | tup _ => exact absurd f Bool.false_ne_true
  | lst _ => exact absurd f Bool.false_ne_true
  | scr _ => exact absurd f Bool.false_ne_true
theorem eqF_fv {a b : A} (f : flA a = true) (f' : flA b = true) : eqV (fv a) (fv b) = eqF a b := by
  cases a <;> cases b <;> first | rfl | exact absurd f Bool.false_ne_true | exact absurd f' Bool.false_ne_true
theorem eqF_V {a b : A} {v w : V} (h : VR K W a v) (f : flA a = true) (h' : VR K W b w) (f' : flA b = true) : eqV v w = eqF a b := by
  rw [fv_of h f, fv_of h' f']; exact eqF_fv f f'
def inA (x : A) (xs : List A) : Bool := xs.any fun y => eqF y x
theorem all_fl : ∀ {xs : List A} {vs : List V}, VRs K W xs vs → xs.all flA = true → vs.all flatV = true
  | [], _, h, _ => by rw [show _ = [] from h]; rfl
  | x :: xs, _, h, f => by
    obtain ⟨v, r, rfl, h1, h2⟩ := h
    rw [List.all_cons, Bool.and_eq_true] at f ⊢
    exact ⟨fl_V h1 f.1, all_fl h2 f.2⟩
theorem inA_V {x : A} {v : V} (h : VR K W x v) (f : flA x = true) : ∀ {xs : List A} {vs : List V}, VRs K W xs vs → xs.all flA = true → inV v vs = inA x xs
  | [], _, h, _ => by rw [show _ = [] from h]; rfl
  | y :: xs, _, h', f' => by
    obtain ⟨w, r, rfl, h1, h2⟩ := h'
    rw [List.all_cons, Bool.and_eq_true] at f'
    have ih := inA_V h f h2 f'.2
    unfold inV inA at ih ⊢
    rw [List.any_cons, List.any_cons, ih, eqF_V h1 f'.1 h f]
end
def fIn (a b : A) (P : A → Prop) : Prop := match b with
  | .tup ys => flA a = true ∧ ys.all flA = true ∧ P (.bl (inA a ys))
  | .lst ys => flA a = true ∧ ys.all flA = true ∧ P (.bl (inA a ys))
  | _ => False
def fNotIn (a b : A) (P : A → Prop) : Prop := match b with
  | .tup ys => flA a = true ∧ ys.all flA = true ∧ P (.bl (!inA a ys))
  | .lst ys => flA a = true ∧ ys.all flA = true ∧ P (.bl (!inA a ys))
  | _ => False
theorem so_in {K : PySem.W.Frag} : SimOp K (rIn K false) fIn := by
  intro W H a b v w P Qv s ra rb h q
  cases b with
  | tup ys =>
    obtain ⟨f1, f2, h⟩ := h
    obtain ⟨p, vs, rfl, h1, h2⟩ := PR.tup rb
    refine ⟨p, vs, rfl, .inr (SqT.mono s h1), fl_V ra f1, all_fl h2 f2, ?_⟩
    rw [if_neg Bool.false_ne_true, inA_V ra f1 h2 f2]
    exact q (.bl (inA a ys)) W _ H Ext.refl rfl h
  | lst ys =>
    obtain ⟨f1, f2, h⟩ := h
    obtain ⟨p, vs, rfl, h1, h2⟩ := PR.lst s rb
    refine ⟨p, vs, rfl, .inl (.inl (.inl h1)), fl_V ra f1, all_fl h2 f2, ?_⟩
    rw [if_neg Bool.false_ne_true, inA_V ra f1 h2 f2]
    exact q (.bl (inA a ys)) W _ H Ext.refl rfl h
  | _ => exact h.elim
theorem so_notIn {K : PySem.W.Frag} : SimOp K (rIn K true) fNotIn := by
  intro W H a b v w P Qv s ra rb h q
  cases b with
  | tup ys =>
    obtain ⟨f1, f2, h⟩ := h
    obtain ⟨p, vs, rfl, h1, h2⟩ := PR.tup rb
    refine ⟨p, vs, rfl, .inr (SqT.mono s h1), fl_V ra f1, all_fl h2 f2, ?_⟩
    rw [if_pos rfl, inA_V ra f1 h2 f2]
    exact q (.bl (!inA a ys)) W _ H Ext.refl rfl h
  | lst ys =>
    obtain ⟨f1, f2, h⟩ := h
    obtain ⟨p, vs, rfl, h1, h2⟩ := PR.lst s rb
    refine ⟨p, vs, rfl, .inl (.inl (.inl h1)), fl_V ra f1, all_fl h2 f2, ?_⟩
    rw [if_pos rfl, inA_V ra f1 h2 f2]
    exact q (.bl (!inA a ys)) W _ H Ext.refl rfl h
  | _ => exact h.elim

/-! ### and, or, not, a if t else b -/
def cAndT (ca cb : DT) : DT := fun e Q EQ => ca e (fun a e1 => if a = true then cb e1 Q EQ else Q false e1) EQ
def cOrT (ca cb : DT) : DT := fun e Q EQ => ca e (fun a e1 => if a = true then Q true e1 else cb e1 Q EQ) EQ
def cNotT (ca : DT) : DT := fun e Q EQ => ca e (fun a e1 => Q (!a) e1) EQ
def cAndV (ca cb : DE) : DE := fun e Q EQ => ca e (fun a e1 => match a with
  | .bl b => if b = true then cb e1 Q EQ else Q (.bl false) e1
  | _ => False) EQ
def cOrV (ca cb : DE) : DE := fun e Q EQ => ca e (fun a e1 => match a with
  | .bl b => if b = true then Q (.bl true) e1 else cb e1 Q EQ
  | _ => False) EQ
def cNotV (ca : DE) : DE := fun e Q EQ => ca e (fun a e1 => match a with
  | .bl b => Q (.bl (!b)) e1
  | _ => False) EQ
def cIfE (ct : DT) (ca cb : DE) : DE := fun e Q EQ => ct e (fun a e1 => if a = true then ca e1 Q EQ else cb e1 Q EQ) EQ
section
variable {K : PySem.W.Frag} {Wx : WX} {ta tb : TE} {ca cb : DE} {tA tB' : TT} {cA cB' : DT}
theorem sim_andT (ha : SimT K Wx tA cA) (hb : SimT K Wx tB' cB') : SimT K Wx (tAnd tA tB') (cAndT cA cB') := by
  intro S W e σ H Q EQ Qv R h q x
  refine ha S W e σ H _ EQ _ R h (fun a e1 W1 H1 s1 R1 h1 => ?_) x
  cases a with
  | true => exact hb S W1 e1 σ H1 Q EQ Qv R1 h1 (fun b e2 W2 H2 s2 R2 h2 => q b e2 W2 H2 (s1.trans s2) R2 h2) (x.mono s1)
  | false => exact q false e1 W1 H1 s1 R1 h1
theorem sim_orT (ha : SimT K Wx tA cA) (hb : SimT K Wx tB' cB') : SimT K Wx (tOr tA tB') (cOrT cA cB') := by
  intro S W e σ H Q EQ Qv R h q x
  refine ha S W e σ H _ EQ _ R h (fun a e1 W1 H1 s1 R1 h1 => ?_) x
  cases a with
  | true => exact q true e1 W1 H1 s1 R1 h1
  | false => exact hb S W1 e1 σ H1 Q EQ Qv R1 h1 (fun b e2 W2 H2 s2 R2 h2 => q b e2 W2 H2 (s1.trans s2) R2 h2) (x.mono s1)
theorem sim_notT (ha : SimT K Wx tA cA) : SimT K Wx (tNot tA) (cNotT cA) := by
  intro S W e σ H Q EQ Qv R h q x
  exact ha S W e σ H _ EQ _ R h (fun a e1 W1 H1 s1 R1 h1 => q (!a) e1 W1 H1 s1 R1 h1) x
theorem sim_andV (ha : SimE K Wx ta ca) (hb : SimE K Wx tb cb) : SimE K Wx (tAndV ta tb) (cAndV ca cb) := by
  intro S W e σ H Q EQ Qv R h q x
  refine ha S W e σ H _ EQ _ R h (fun a e1 W1 v H1 s1 R1 r1 h1 => ?_) x
  cases a with
  | bl b =>
    refine ⟨b, r1, ?_⟩
    cases b with
    | true => exact hb S W1 e1 σ H1 Q EQ Qv R1 h1 (fun b e2 W2 v H2 s2 R2 r2 h2 => q b e2 W2 v H2 (s1.trans s2) R2 r2 h2) (x.mono s1)
    | false => exact q (.bl false) e1 W1 _ H1 s1 R1 rfl h1
  | _ => exact h1.elim
theorem sim_orV (ha : SimE K Wx ta ca) (hb : SimE K Wx tb cb) : SimE K Wx (tOrV ta tb) (cOrV ca cb) := by
  intro S W e σ H Q EQ Qv R h q x
  refine ha S W e σ H _ EQ _ R h (fun a e1 W1 v H1 s1 R1 r1 h1 => ?_) x
  cases a with
  | bl b =>
    refine ⟨b, r1, ?_⟩
    cases b with
    | true => exact q (.bl true) e1 W1 _ H1 s1 R1 rfl h1
    | false => exact hb S W1 e1 σ H1 Q EQ Qv R1 h1 (fun b e2 W2 v H2 s2 R2 r2 h2 => q b e2 W2 v H2 (s1.trans s2) R2 r2 h2) (x.mono s1)
  | _ => exact h1.elim
theorem sim_notV (ha : SimE K Wx ta ca) : SimE K Wx (tNotV ta) (cNotV ca) := by
  intro S W e σ H Q EQ Qv R h q x
  refine ha S W e σ H _ EQ _ R h (fun a e1 W1 v H1 s1 R1 r1 h1 => ?_) x
  cases a with
  | bl b => exact ⟨b, r1, q (.bl (!b)) e1 W1 _ H1 s1 R1 rfl h1⟩
  | _ => exact h1.elim
theorem sim_ifE (ht : SimT K Wx tA cA) (ha : SimE K Wx ta ca) (hb : SimE K Wx tb cb) : SimE K Wx (tIf tA ta tb) (cIfE cA ca cb) := by
  intro S W e σ H Q EQ Qv R h q x
  refine ht S W e σ H _ EQ _ R h (fun a e1 W1 H1 s1 R1 h1 => ?_) x
  cases a with
  | true => exact ha S W1 e1 σ H1 Q EQ Qv R1 h1 (fun b e2 W2 v H2 s2 R2 r2 h2 => q b e2 W2 v H2 (s1.trans s2) R2 r2 h2) (x.mono s1)
  | false => exact hb S W1 e1 σ H1 Q EQ Qv R1 h1 (fun b e2 W2 v H2 s2 R2 r2 h2 => q b e2 W2 v H2 (s1.trans s2) R2 r2 h2) (x.mono s1)
end
section
variable {X : Cx} {Wx : WX} {pos : Pos} {a b c : Expr} {rest : List Expr} {ta tb : TE} {ca cb : DE} {tA tB' : TT} {cA cB' : DT}
theorem cw_and1 (ha : CT X Wx a tA cA) : CW X Wx (.BoolOp .And [a] pos) tA cA := ⟨pw_and1 ha.pt, ha.sim⟩
theorem cw_or1 (ha : CT X Wx a tA cA) : CW X Wx (.BoolOp .Or [a] pos) tA cA := ⟨pw_or1 ha.pt, ha.sim⟩
theorem cw_and (ha : CT X Wx a tA cA) (hb : CW X Wx (.BoolOp .And (b :: rest) pos) tB' cB') : CW X Wx (.BoolOp .And (a :: b :: rest) pos) (tAnd tA tB') (cAndT cA cB') := ⟨pw_and ha.pt hb.pw, sim_andT ha.sim hb.sim⟩
theorem cw_or (ha : CT X Wx a tA cA) (hb : CW X Wx (.BoolOp .Or (b :: rest) pos) tB' cB') : CW X Wx (.BoolOp .Or (a :: b :: rest) pos) (tOr tA tB') (cOrT cA cB') := ⟨pw_or ha.pt hb.pw, sim_orT ha.sim hb.sim⟩
theorem ct_not (ha : CT X Wx a tA cA) : CT X Wx (.UnaryOp .Not a pos) (tNot tA) (cNotT cA) := ⟨pt_not ha.pt, sim_notT ha.sim⟩
theorem cv_one {op} {t : TE} {cc : DE} (h : CV X Wx a t cc) : CV X Wx (.BoolOp op [a] pos) t cc := ⟨pe_one h.pe, h.sim⟩
theorem cv_and (ha : CV X Wx a ta ca) (hb : CV X Wx (.BoolOp .And (b :: rest) pos) tb cb) : CV X Wx (.BoolOp .And (a :: b :: rest) pos) (tAndV ta tb) (cAndV ca cb) := ⟨pe_and ha.pe hb.pe, sim_andV ha.sim hb.sim⟩
theorem cv_or (ha : CV X Wx a ta ca) (hb : CV X Wx (.BoolOp .Or (b :: rest) pos) tb cb) : CV X Wx (.BoolOp .Or (a :: b :: rest) pos) (tOrV ta tb) (cOrV ca cb) := ⟨pe_or ha.pe hb.pe, sim_orV ha.sim hb.sim⟩
theorem cv_not (ha : CV X Wx a ta ca) : CV X Wx (.UnaryOp .Not a pos) (tNotV ta) (cNotV ca) := ⟨pe_not ha.pe, sim_notV ha.sim⟩
theorem cv_ifE (ht : CT X Wx c tA cA) (ha : CV X Wx a ta ca) (hb : CV X Wx b tb cb) : CV X Wx (.IfExp c a b pos) (tIf tA ta tb) (cIfE cA ca cb) := ⟨pe_ifExp ht.pt ha.pe hb.pe, sim_ifE ht.sim ha.sim hb.sim⟩
end

/-! ### a <= b <= c -/
def cChain (f f' : A → A → (A → Prop) → Prop) (ca cb cc : DE) : DE := fun e Q EQ => ca e (fun a e1 => cb e1 (fun b e2 => f a b fun z => match z with
  | .bl k => if k = true then cc e2 (fun c e3 => f' b c fun y => Q y e3) EQ else Q (.bl false) e2
  | _ => False) EQ) EQ
section
variable {K : PySem.W.Frag} {Wx : WX} {ta tb tc : TE} {ca cb cc : DE}
theorem sim_chain {r r' : R2} {f f' : A → A → (A → Prop) → Prop} (hf : SimOp K r f) (hf' : SimOp K r' f') (ha : SimE K Wx ta ca) (hb : SimE K Wx tb cb) (hc : SimE K Wx tc cc) : SimE K Wx (tChain r r' ta tb tc) (cChain f f' ca cb cc) := by
  intro S W e σ H Q EQ Qv R h q x
  refine ha S W e σ H _ EQ _ R h (fun a e1 W1 v H1 s1 R1 r1 h1 => ?_) x
  refine hb S W1 e1 σ H1 _ EQ _ R1 h1 (fun b e2 W2 w H2 s2 R2 r2 h2 => ?_) (x.mono s1)
  refine hf W2 H2 a b v w _ _ R2.sub (VR.mono s2 a r1) (.inl r2) h2 fun z W3 u H3 ex rz pz => ?_
  have s3 := s1.trans (s2.trans (ex.same R2.sub))
  cases z with
  | bl k =>
    refine ⟨k, rz, ?_⟩
    cases k with
    | true =>
      rw [if_pos rfl]
      refine hc S W3 e2 σ H3 _ EQ _ (R2.ext ex) pz (fun c e4 W4 y H4 s4 R4 r4 h4 => ?_) (x.mono s3)
      exact hf' W4 H4 b c w y _ _ R4.sub (VR.mono ((ex.same R2.sub).trans s4) b r2) (.inl r4) h4 fun z W5 u H5 ex5 rz5 pz5 => q z e4 W5 u H5 (s3.trans (s4.trans (ex5.same R4.sub))) (R4.ext ex5) rz5 pz5
    | false =>
      rw [if_neg Bool.false_ne_true]
      exact q (.bl false) e2 W3 _ H3 s3 (R2.ext ex) rfl pz
  | _ => exact pz.elim
end
section
variable {X : Cx} {Wx : WX} {pos : Pos} {a b c : Expr} {ta tb tc : TE} {ca cb cc : DE}
theorem cv_chain {op op' : CmpOp} {r r' : R2} {f f' : A → A → (A → Prop) → Prop} (ho : OpR X (compareOp op) r) (ho' : OpR X (compareOp op') r') (hf : SimOp X.K r f) (hf' : SimOp X.K r' f') (ha : CV X Wx a ta ca) (hb : CV X Wx b tb cb) (hc : CV X Wx c tc cc) 
    (hm : lastMarks [op, op'] [b, c] = false := by with_unfolding_all rfl) : CV X Wx (.Compare a [op, op'] [b, c] pos) (tChain r r' ta tb tc) (cChain f f' ca cb cc) := ⟨pe_chain ho ho' ha.pe hb.pe hc.pe hm, sim_chain hf hf' ha.sim hb.sim hc.sim⟩
theorem ct_chain {op op' : CmpOp} {r r' : R2} {f f' : A → A → (A → Prop) → Prop} (ho : OpR X (compareOp op) r) (ho' : OpR X (compareOp op') r') (hf : SimOp X.K r f) (hf' : SimOp X.K r' f') (ha : CV X Wx a ta ca) (hb : CV X Wx b tb cb) (hc : CV X Wx c tc cc) 
    (hm : lastMarks [op, op'] [b, c] = false := by with_unfolding_all rfl) : CT X Wx (.Compare a [op, op'] [b, c] pos) (tTest (tChain r r' ta tb tc)) (cB (cChain f f' ca cb cc)) := ⟨pt_chain ho ho' ha.pe hb.pe hc.pe hm, sim_b (sim_chain hf hf' ha.sim hb.sim hc.sim).p⟩
end
end AL
/-! AL4: displays, subscripts, slices, built-ins, calls. -/
namespace AL
open PySem PySem.Spec PyProof.Rows L2

/-! ### lists of values -/
section
variable {X : Cx} {Wx : WX} {ex : Expr} {es : List Expr} {pos : Pos} {te : TE} {t : TA} {c : DE} {cs : List DE}
theorem cl_nil : CL X Wx [] tNil [] := ⟨pa_nil, fun S W e σ H Q EQ Qv R h q x => q [] e W [] H (Same.refl _) R rfl rfl h⟩
theorem cl_cons (ha : CV X Wx ex te c) (hr : CL X Wx es t cs) (hs : starEach (ex :: es) X.env = (false, eval ex X.env) :: starEach es X.env := by rfl) : CL X Wx (ex :: es) (tCons te t) (c :: cs) := by
  refine ⟨pa_cons ha.pe hr.pa hs, fun S W e σ H Q EQ Qv R h q x => ?_⟩
  refine ha.sim S W e σ H _ EQ _ R h (fun a e1 W1 v H1 s1 R1 r1 h1 => ?_) x
  refine hr.sim S W1 e1 σ H1 _ EQ _ R1 h1 (fun xs e2 W2 vs H2 s2 R2 r2 l2 h2 => ?_) (x.mono s1)
  exact q (a :: xs) e2 W2 (v :: vs) H2 (s1.trans s2) R2 (VRs.cons (VR.mono s2 a r1) r2) (by rw [List.length_cons, List.length_cons, l2]) h2
/-- (a, b, ..) -/
def cTup (cs : List DE) : DE := fun e Q EQ => evL cs e (fun xs e1 => Q (.tup xs) e1) EQ
theorem line_of {n : Nat} (h : Nat.ble n 1000 = true) : n ≤ sizeLine := Nat.le_trans (Nat.le_of_ble_eq_true h) (by decide)
theorem cv_tup {k : Nat} (h : CL X Wx es t cs) (hl : Nat.ble cs.length 1000 = true := by rfl) : CV X Wx (.Tuple es k pos) (tTup t) (cTup cs) := by
  refine ⟨pe_tup h.pa, fun S W e σ H Q EQ Qv R hc q x => ?_⟩
  refine h.sim S W e σ H _ EQ _ R hc (fun xs e1 W1 vs H1 s1 R1 r1 l1 h1 => ?_) x
  refine ⟨by rw [r1.length, l1]; exact line_of hl, fun p hp => ?_⟩
  have ex : Ext W1 H1 (upd W1 p (.tup vs)) (upd H1 p (.tup vs)) := .inr ⟨p, _, hp, rfl, rfl⟩
  exact q (.tup xs) e1 _ _ _ (s1.trans (ex.same R1.sub)) (R1.ext ex) ⟨p, vs, rfl, .inl (.inl upd_same), VRs.mono (ex.same R1.sub) xs r1⟩ h1
/-- [a, b, ..]: a new list -/
def cLst (cs : List DE) : DR := fun e Q EQ => evL cs e (fun xs e1 => Q (.ow xs) e1) EQ
end
/-- a new list beside what stands -/
theorem res_new {K : PySem.W.Frag} {S : Fx} {W H : Hp} {e : Ev} {σ : L2.St} {p : Addr} {xs : List A} {vs : List V} (R : Rel K S W e σ H) (hp : H p = none) (r : VRs K W xs vs) :
    Rel K S W e σ (upd H p (.lst vs)) ∧ ResR K S W e σ (upd H p (.lst vs)) (.ow xs) (.ref p) := by
  have hw : W p = none := sub_none R.sub hp
  have h0 : S.H0 p = none := by
    cases q : S.H0 p with
    | none => rfl
    | some u => exact absurd hp (R.there p (by rw [q]; simp))
  have sl : ∀ j b ys, gt e j = .ow b ys → σ[j]? ≠ some (some (.ref p)) := fun j b ys g z => by
    have r' := R.slot j
    rw [g] at r'
    obtain ⟨p', vs', f1, f2, _⟩ := r'
    rw [z] at f1; cases f1
    rw [hp] at f2; cases f2
  refine ⟨⟨R.len, fun b u q => ?_, fun b u q n => ?_, fun b q => ?_, R.fro, R.w0, R.pinH, fun i => ?_, R.inj⟩, p, vs, rfl, upd_same, r, hw, h0, sl⟩
  · rw [upd_ne (fun z => by subst z; rw [hw] at q; cases q)]; exact R.sub b u q
  · rw [upd_ne (ne_of_none q h0)]; exact R.old b u q n
  · by_cases hb : b = p
    · subst hb; rw [upd_same]; simp
    · rw [upd_ne hb]; exact R.there b q
  · refine SlotR.mono (Same.refl _) (fun b vs' q w => ⟨?_, w⟩) (R.slot i)
    rw [upd_ne (ne_of_none q hp)]; exact q
/-- .. and frozen -/
theorem res_fz {K : PySem.W.Frag} {S : Fx} {W H : Hp} {e : Ev} {σ : L2.St} {v : V} {xs : List A} (R : Rel K S W e σ H) (r : ResR K S W e σ H (.ow xs) v) : ∃ W', Same W W' ∧ Rel K S W' e σ H ∧ VR K W' (.lst xs) v := by
  obtain ⟨p, vs, rfl, h1, h2, h3, h4, h5⟩ := r
  have hs : Same W (upd W p (.lst vs)) := same_upd h3
  refine ⟨upd W p (.lst vs), hs, ⟨R.len, fun b u q => ?_, R.old, R.there, fun b u q => ?_, R.w0, R.pinH, fun j => ?_, R.inj⟩, ⟨p, vs, rfl, upd_same, VRs.mono hs xs h2⟩⟩
  · by_cases hb : b = p
    · subst hb; rw [upd_same] at q; cases q; exact h1
    · rw [upd_ne hb] at q; exact R.sub b u q
  · rw [upd_ne (ne_of_none q h4)]; exact R.fro b u q
  · have := R.slot j
    cases q : gt e j with
    | no => trivial
    | sh a =>
      rw [q] at this
      obtain ⟨w, e1, e2⟩ := this
      exact ⟨w, e1, VR.mono hs a e2⟩
    | ow pin ys =>
      rw [q] at this
      obtain ⟨p', vs', f1, f2, f3, f4, f5⟩ := this
      have ne : p' ≠ p := fun z => by subst z; exact h5 j pin ys q f1
      exact ⟨p', vs', f1, f2, VRs.mono hs ys f3, by rw [upd_ne ne]; exact f4, f5⟩
/-- a result as a value: a new list is frozen -/
def cFz (c : DR) : DE := fun e Q EQ => c e (fun r e1 => match r with
  | .sh a => Q a e1
  | .ow xs => Q (.lst xs) e1) EQ
def cSh (c : DE) : DR := fun e Q EQ => c e (fun a e1 => Q (.sh a) e1) EQ
/-- a name's value, moved: an owned list goes out of the slot -/
def cMove (i : Nat) : DR := fun e Q _ => match gt e i with
  | .sh a => Q (.sh a) e
  | .ow false xs => Q (.ow xs) (pt e i .no)
  | _ => False
section
variable {K : PySem.W.Frag} {Wx : WX} {t : TE}
theorem sim_fz {c : DR} (h : SimR K Wx t c) : SimE K Wx t (cFz c) := by
  intro S W e σ H Q EQ Qv R hc q x
  refine h S W e σ H _ EQ _ R hc (fun r e1 W1 v H1 s1 R1 r1 h1 => ?_) x
  cases r with
  | sh a => exact q a e1 W1 v H1 s1 R1 r1 h1
  | ow xs =>
    obtain ⟨W2, s2, R2, rv⟩ := res_fz R1 r1
    exact q (.lst xs) e1 W2 v H1 (s1.trans s2) R2 rv h1
theorem sim_sh {c : DE} (h : SimE K Wx t c) : SimR K Wx t (cSh c) := fun S W e σ H Q EQ Qv R hc q x =>
  h S W e σ H _ EQ _ R hc (fun a e1 W1 v H1 s1 R1 r1 h1 => q (.sh a) e1 W1 v H1 s1 R1 r1 h1) x
theorem sim_move (i : Nat) : SimR K Wx (tVar i) (cMove i) := by
  intro S W e σ H Q EQ Qv R h q x
  unfold cMove at h
  have r := R.slot i
  cases g : gt e i with
  | no => rw [g] at h; exact h.elim
  | sh a =>
    rw [g] at h r
    obtain ⟨v, e1, r⟩ := r
    exact ⟨v, e1, q (.sh a) e W v H (Same.refl _) R r h⟩
  | ow b xs =>
    rw [g] at h r
    cases b with
    | true => exact h.elim
    | false =>
      obtain ⟨p, vs, e1, h1, h2, h3, h4⟩ := r
      refine ⟨_, e1, q (.ow xs) _ W _ H (Same.refl _) (R.drop i) ⟨p, vs, rfl, h1, h2, h3, by simpa using h4, fun j b ys gj z => ?_⟩ h⟩
      have hl : i < e.length := gt_lt (by rw [g]; simp)
      have hj : i ≠ j := fun z => by subst z; rw [gt_pt_same hl] at gj; cases gj
      rw [gt_pt_ne hj] at gj
      exact R.inj i j false xs b ys p hj g gj e1 z
end
section
variable {X : Cx} {Wx : WX} {ex : Expr} {es : List Expr} {pos : Pos} {te : TE} {t : TA} {c : DE} {cs : List DE}
theorem cv_fz {cr : DR} (h : CRs X Wx ex te cr) : CV X Wx ex te (cFz cr) := ⟨h.pe, sim_fz h.sim⟩
theorem cr_sh (h : CV X Wx ex te c) : CRs X Wx ex te (cSh c) := ⟨h.pe, sim_sh h.sim⟩
theorem cr_move (i : Nat) {x : Str} (hN : X.N[i]? = some x := by rfl) (hv : Vis X.env.scope x := by first | exact Or.inl rfl | exact Or.inr (Or.inl rfl) | exact Or.inr (Or.inr rfl)) (hd : (x == ("__debug__" : Str)) = false := by decide)
    (hcd : (x == ("__classdict__" : Str)) = false := by decide) : CRs X Wx (.Name x pos) (tVar i) (cMove i) := ⟨pe_var hN hv hd hcd, sim_move i⟩
theorem cr_lst (h : CL X Wx es t cs) (hl : Nat.ble cs.length 1000 = true := by rfl) : CRs X Wx (.List es pos) (tLst t) (cLst cs) := by
  refine ⟨pe_lst h.pa, fun S W e σ H Q EQ Qv R hc q x => ?_⟩
  refine h.sim S W e σ H _ EQ _ R hc (fun xs e1 W1 vs H1 s1 R1 r1 l1 h1 => ?_) x
  refine ⟨by rw [r1.length, l1]; exact line_of hl, fun p hp => ?_⟩
  obtain ⟨R2, r2⟩ := res_new R1 hp r1
  exact q (.ow xs) e1 W1 _ _ s1 R2 r2 h1
end

/-! ### subscripts -/
theorem at_VRs {K : PySem.W.Frag} {W : Hp} {xs : List A} {vs : List V} {i : Int} {a : A} (r : VRs K W xs vs) (h : atI xs i = some a) : ∃ v, atI vs i = some v ∧ VR K W a v := by
  unfold atI at h ⊢
  rw [r.length]
  cases q : ixN xs.length i with
  | none => rw [q] at h; cases h
  | some j =>
    rw [q] at h
    exact r.get (i := j) h
def onAt (xs : List A) (i : Int) (P : A → Prop) : Prop := match atI xs i with
  | some a => P a
  | none => False
def fIx (a b : A) (P : A → Prop) : Prop := match a, b with
  | .tup xs, .int i => onAt xs i P
  | .lst xs, .int i => onAt xs i P
  | _, _ => False
theorem onAt_ex {xs : List A} {i : Int} {P : A → Prop} (h : onAt xs i P) : ∃ a, atI xs i = some a ∧ P a := by
  unfold onAt at h
  cases q : atI xs i with
  | none => rw [q] at h; exact h.elim
  | some a => rw [q] at h; exact ⟨a, rfl, h⟩
theorem so_ix {K : PySem.W.Frag} : SimOp K (rIx K) fIx := by
  intro W H a b v w P Qv s ra rb h q
  cases a with
  | tup xs =>
    cases b with
    | int i =>
      obtain ⟨x, ha, h⟩ := onAt_ex h
      obtain ⟨p, vs, rfl, h1, h2⟩ := ra
      obtain ⟨u, hu, ru⟩ := at_VRs h2 ha
      exact .inr (.inl ⟨p, vs, i, u, rfl, PR.int rb, SqT.mono s h1, hu, q x W u H Ext.refl ru h⟩)
    | _ => exact h.elim
  | lst xs =>
    cases b with
    | int i =>
      obtain ⟨x, ha, h⟩ := onAt_ex h
      obtain ⟨p, vs, rfl, h1, h2⟩ := ra
      obtain ⟨u, hu, ru⟩ := at_VRs h2 ha
      exact .inl ⟨p, vs, i, u, rfl, PR.int rb, .inl (.inl (s _ _ h1)), hu, q x W u H Ext.refl ru h⟩
    | _ => exact h.elim
  | _ => cases b <;> exact h.elim
/-- x[e], x a name whose list may be owned -/
def onHas (e : Ev) (i : Nat) (P : Prop) : Prop := match gt e i with
  | .no => False
  | _ => P
def cIxN (i : Nat) (cb : DE) : DE := fun e Q EQ => onHas e i <| cb e (fun b e1 => match gt e1 i, b with
  | .sh (.tup xs), .int k => onAt xs k fun a => Q a e1
  | .sh (.lst xs), .int k => onAt xs k fun a => Q a e1
  | .ow _ xs, .int k => onAt xs k fun a => Q a e1
  | _, _ => False) EQ
section
variable {X : Cx} {Wx : WX} {pos : Pos} {a b : Expr} {ta tb : TE} {ca cb : DE}
theorem cv_ix (ha : CV X Wx a ta ca) (hb : CP X Wx b tb cb) (hs : PlainIx b := by intro _ _; rfl) : CV X Wx (.Subscript a b pos) (tOp (rIx X.K) ta tb) (cOp fIx ca cb) := ⟨pe_ix ix_seq ha.pe hb.pe hs, sim_op so_ix ha.sim hb.sim⟩
theorem cv_ixN (i : Nat) {x : Str} {p2 : Pos} (hb : CV X Wx b tb cb) (hs : PlainIx b := by intro _ _; rfl) (hN : X.N[i]? = some x := by rfl) (hv : Vis X.env.scope x := by first | exact Or.inl rfl | exact Or.inr (Or.inl rfl) | exact Or.inr (Or.inr rfl)) (hd : (x == ("__debug__" : Str)) = false := by decide)
    (hcd : (x == ("__classdict__" : Str)) = false := by decide) : CV X Wx (.Subscript (.Name x p2) b pos) (tOp (rIx X.K) (tVar i) tb) (cIxN i cb) := by
  refine ⟨pe_ix ix_seq (pe_var hN hv hd hcd) hb.pe hs, fun S W e σ H Q EQ Qv R h q y => ?_⟩
  obtain ⟨hσ, h⟩ : (∃ v, σ[i]? = some (some v)) ∧ _ := by
    unfold cIxN onHas at h
    have r := R.slot i
    cases g : gt e i with
    | no => rw [g] at h; exact h.elim
    | sh a => rw [g] at h r; obtain ⟨v, e2, _⟩ := r; exact ⟨⟨v, e2⟩, h⟩
    | ow b xs => rw [g] at h r; obtain ⟨p, vs, e2, _⟩ := r; exact ⟨⟨_, e2⟩, h⟩
  · obtain ⟨v, hv⟩ := hσ
    refine ⟨v, hv, ?_⟩
    refine hb.sim S W e σ H _ EQ _ R h (fun b' e1 W1 w H1 s1 R1 r1 h1 => ?_) y
    have r := R1.slot i
    cases g : gt e1 i with
    | no => rw [g] at h1; cases b' <;> exact h1.elim
    | sh a' =>
      rw [g] at h1 r
      obtain ⟨v', e2, r⟩ := r
      rw [hv] at e2; cases e2
      refine so_ix W1 H1 a' b' v w (fun z => Q z e1) Qv R1.sub r (.inl r1) ?_ fun z W3 u H3 ex rz pz => q z e1 W3 u H3 (s1.trans (ex.same R1.sub)) (R1.ext ex) rz pz
      cases a' <;> cases b' <;> first | exact h1 | exact h1.elim
    | ow pn xs =>
      rw [g] at h1 r
      obtain ⟨p, vs, e2, h2, h3, h4, h5⟩ := r
      rw [hv] at e2; cases e2
      cases b' with
      | int k =>
        obtain ⟨x', ha, h1⟩ := onAt_ex h1
        obtain ⟨u, hu, ru⟩ := at_VRs h3 ha
        exact .inl ⟨p, vs, k, u, rfl, r1, .inl (.inl h2), hu, q x' e1 W1 u H1 s1 R1 ru h1⟩
      | _ => exact h1.elim
end
end AL
/-! AL5: what a def promises; calls. -/
namespace AL
open PySem PySem.Spec PyProof.Rows L2

abbrev FnM := List Slot → (Res → List (List A) → Prop) → (Ex → Prop) → Prop
def ArgR (K : PySem.W.Frag) (W H : Hp) : Slot → V → Prop
  | .no, _ => False
  | .sh a, v => VR K W a v
  | .ow pin xs, v => pin = true ∧ ∃ p ws, v = .ref p ∧ H p = some (.lst ws) ∧ VRs K W xs ws ∧ W p = none
def ArgsR (K : PySem.W.Frag) (W H : Hp) : List Slot → List V → Prop
  | [], vs => vs = []
  | s :: r, vs => ∃ v q, vs = v :: q ∧ ArgR K W H s v ∧ ArgsR K W H r q
def refA : V → Addr
  | .ref p => p
  | _ => 0
/-- the addresses of the borrowed arguments -/
def pinA : List Slot → List V → List Addr
  | .ow _ _ :: r, v :: vs => refA v :: pinA r vs
  | .sh _ :: r, _ :: vs => pinA r vs
  | .no :: r, _ :: vs => pinA r vs
  | _, _ => []
def OutsR (K : PySem.W.Frag) (W H : Hp) : List (List A) → List Addr → Prop
  | [], ps => ps = []
  | xs :: r, ps => ∃ p q ws, ps = p :: q ∧ H p = some (.lst ws) ∧ VRs K W xs ws ∧ OutsR K W H r q
def RetR (K : PySem.W.Frag) (H W' H' : Hp) : Res → V → Prop
  | .sh a, v => VR K W' a v
  | .ow xs, v => ∃ p ws, v = .ref p ∧ H p = none ∧ H' p = some (.lst ws) ∧ VRs K W' xs ws ∧ W' p = none
/-- what stands behind a call: all but the borrowed lists as it was -/
structure Aft (W H W' H' : Hp) (ps : List Addr) : Prop where
  sub : Same W' H'
  fro : ∀ p o, H p = some o → W' p = W p
  keep : ∀ p o, H p = some o → p ∉ ps → H' p = some o
/-- a def's promise, by what it computes -/
def spA (K : PySem.W.Frag) (m : FnM) : Sp := fun vs H Q E => ∃ (W : Hp) (args : List Slot) (P : Res → List (List A) → Prop) (EP : Ex → Prop), Same W H ∧ ArgsR K W H args vs ∧ (pinA args vs).Nodup ∧ m args P EP ∧
  (∀ r outs, P r outs → ∀ W' v H', Aft W H W' H' (pinA args vs) → OutsR K W' H' outs (pinA args vs) → RetR K H W' H' r v → Q v H') ∧
  (∀ x, EP x → ∀ W' cls d H', Aft W H W' H' (pinA args vs) → pinA args vs = [] → XR K W' x cls d H' → E cls d H')

/-! ### arguments at a call -/
def argSs (e : Ev) : List Arg → (List Slot → Prop) → Prop
  | [], P => P []
  | .v a :: r, P => argSs e r fun s => P (.sh a :: s)
  | .bor i :: r, P => match gt e i with
    | .ow _ xs => argSs e r fun s => P (.ow true xs :: s)
    | _ => False
def bors : List Arg → List Nat
  | [] => []
  | .v _ :: r => bors r
  | .bor i :: r => i :: bors r
def setOwn (e : Ev) (i : Nat) (xs : List A) : Ev := match gt e i with
  | .ow b _ => pt e i (.ow b xs)
  | _ => e
def putOuts (e : Ev) : List Nat → List (List A) → Ev
  | i :: is, xs :: r => putOuts (setOwn e i xs) is r
  | _, _ => e
def adr (σ : L2.St) (i : Nat) : Addr := match σ[i]? with
  | some (some v) => refA v
  | _ => 0
section
variable {K : PySem.W.Frag} {S : Fx} {W W' H H' : Hp} {e : Ev} {σ : L2.St}
/-- the borrowed slots are owned lists -/
def BorOk (e : Ev) (is : List Nat) : Prop := ∀ i ∈ is, ∃ b xs, gt e i = .ow b xs
theorem Rel.place (R : Rel K S W e σ H) {i : Nat} {b : Bool} {xs : List A} (g : gt e i = .ow b xs) : ∃ vs, σ[i]? = some (some (.ref (adr σ i))) ∧ H (adr σ i) = some (.lst vs) ∧ VRs K W xs vs ∧ W (adr σ i) = none ∧ (if b = true then S.pin i = some (adr σ i) else S.H0 (adr σ i) = none) := by
  have r := R.slot i
  rw [g] at r
  obtain ⟨p, vs, h1, h2, h3, h4, h5⟩ := r
  have e' : adr σ i = p := by unfold AL.adr; rw [h1]; rfl
  rw [e']
  exact ⟨vs, h1, h2, h3, h4, h5⟩
theorem args_ok (R : Rel K S W e σ H) : ∀ {as : List Arg} {vs : List V} {P : List Slot → Prop}, ArgVs K W σ as vs → argSs e as P → ∃ args, P args ∧ ArgsR K W H args vs ∧ pinA args vs = (bors as).map (adr σ) ∧ BorOk e (bors as)
  | [], _, P, h, q => by
    rw [show _ = [] from h]
    exact ⟨[], q, rfl, rfl, fun i hi => absurd hi (by simp [bors])⟩
  | .v a :: r, _, P, h, q => by
    obtain ⟨v, vs, rfl, h1, h2⟩ := h
    obtain ⟨args, q1, q2, q3, q4⟩ := args_ok R h2 q
    exact ⟨.sh a :: args, q1, ⟨v, vs, rfl, h1, q2⟩, q3, q4⟩
  | .bor i :: r, _, P, h, q => by
    obtain ⟨v, vs, rfl, h1, h2⟩ := h
    have q' : (match gt e i with
      | .ow _ xs => argSs e r fun s => P (.ow true xs :: s)
      | _ => False) := q
    cases g : gt e i with
    | ow b xs =>
      rw [g] at q'
      obtain ⟨args, q1, q2, q3, q4⟩ := args_ok R h2 q'
      obtain ⟨ws, a1, a2, a3, a4, a5⟩ := R.place g
      have h1 : σ[i]? = some (some v) := h1
      rw [a1] at h1; cases h1
      refine ⟨.ow true xs :: args, q1, ⟨_, vs, rfl, ⟨rfl, _, ws, rfl, a2, a3, a4⟩, q2⟩, ?_, fun j hj => ?_⟩
      · show refA _ :: pinA args vs = adr σ i :: (bors r).map (adr σ)
        rw [q3]; rfl
      · rcases List.mem_cons.mp hj with rfl | hj
        · exact ⟨b, xs, g⟩
        · exact q4 j hj
    | no => rw [g] at q'; exact q'.elim
    | sh a => rw [g] at q'; exact q'.elim
theorem setOwn_length (i : Nat) (xs : List A) : (setOwn e i xs).length = e.length := by
  unfold setOwn
  split
  · exact pt_length _ _ _
  · rfl
theorem setOwn_ne {i j : Nat} {xs : List A} (h : i ≠ j) : gt (setOwn e i xs) j = gt e j := by
  unfold setOwn
  split
  · exact gt_pt_ne h
  · rfl
theorem setOwn_same {i : Nat} {xs ys : List A} {b : Bool} (g : gt e i = .ow b ys) : gt (setOwn e i xs) i = .ow b xs := by
  unfold setOwn
  rw [g]
  exact gt_pt_same (gt_lt (by rw [g]; simp))
theorem putOuts_length : ∀ (is : List Nat) (outs : List (List A)) (e : Ev), (putOuts e is outs).length = e.length
  | [], _, _ => by unfold putOuts; rfl
  | i :: is, [], _ => by unfold putOuts; rfl
  | i :: is, xs :: r, e => by
    show (putOuts (setOwn e i xs) is r).length = _
    rw [putOuts_length is r, setOwn_length]
theorem putOuts_out : ∀ (is : List Nat) (outs : List (List A)) (e : Ev) (j : Nat), j ∉ is → gt (putOuts e is outs) j = gt e j
  | [], _, _, _, _ => by unfold putOuts; rfl
  | i :: is, [], _, _, _ => by unfold putOuts; rfl
  | i :: is, xs :: r, e, j, h => by
    show gt (putOuts (setOwn e i xs) is r) j = _
    rw [putOuts_out is r _ j fun z => h (List.mem_cons_of_mem _ z), setOwn_ne fun z => h (by rw [z]; exact List.mem_cons_self)]
theorem putOuts_in : ∀ (is : List Nat) (outs : List (List A)) (e : Ev), is.Nodup → BorOk e is → OutsR K W' H' outs (is.map (adr σ)) →
    ∀ j ∈ is, ∃ b xs ys ws, gt e j = .ow b xs ∧ gt (putOuts e is outs) j = .ow b ys ∧ H' (adr σ j) = some (.lst ws) ∧ VRs K W' ys ws
  | [], _, _, _, _, _, j, hj => absurd hj (by simp)
  | i :: is, [], _, _, _, o, _, _ => absurd (show (i :: is).map (adr σ) = [] from o) (by simp)
  | i :: is, xs :: r, e, nd, ok, o, j, hj => by
    obtain ⟨p, q, ws, e1, o1, o2, o3⟩ := o
    rw [List.map_cons] at e1
    obtain ⟨rfl, rfl⟩ := List.cons.inj e1
    have nd' := List.nodup_cons.mp nd
    obtain ⟨b, ys, g⟩ := ok i List.mem_cons_self
    rcases List.mem_cons.mp hj with rfl | hj
    · refine ⟨b, ys, xs, ws, g, ?_, o1, o2⟩
      show gt (putOuts (setOwn e j xs) is r) j = _
      rw [putOuts_out is r _ j nd'.1, setOwn_same g]
    · have hne : i ≠ j := fun z => nd'.1 (by rw [z]; exact hj)
      obtain ⟨b', xs', ys', ws', g1, g2, g3, g4⟩ := putOuts_in is r (setOwn e i xs) nd'.2 (fun l hl => by
        have : i ≠ l := fun z => nd'.1 (by rw [z]; exact hl)
        rw [setOwn_ne this]
        exact ok l (List.mem_cons_of_mem _ hl)) o3 j hj
      rw [setOwn_ne hne] at g1
      exact ⟨b', xs', ys', ws', g1, g2, g3, g4⟩
theorem Aft.same {ps : List Addr} (s : Same W H) (a : Aft W H W' H' ps) : Same W W' := fun p o h => (a.fro p o (s p o h)).trans h
/-- the caller's state behind a call -/
theorem Rel.aft (R : Rel K S W e σ H) {is : List Nat} {outs : List (List A)} (nd : is.Nodup) (ok : BorOk e is) (a : Aft W H W' H' (is.map (adr σ))) (o : OutsR K W' H' outs (is.map (adr σ))) : Rel K S W' (putOuts e is outs) σ H' := by
  have hs := a.same R.sub
  have hin := putOuts_in is outs e nd ok o
  -- a borrowed address is none of the entry's but a pinned one
  have notP : ∀ p u, S.H0 p = some u → (∀ i, S.pin i ≠ some p) → p ∉ is.map (adr σ) := fun p u h n hm => by
    obtain ⟨i, hi, rfl⟩ := List.mem_map.mp hm
    obtain ⟨b, xs, g⟩ := ok i hi
    obtain ⟨vs, _, _, _, _, h5⟩ := R.place g
    cases b with
    | true => exact n i (by simpa using h5)
    | false => rw [show S.H0 (adr σ i) = none by simpa using h5] at h; cases h
  refine ⟨by rw [putOuts_length]; exact R.len, a.sub, fun p u h n => a.keep p u (R.old p u h n) (notP p u h n), fun p h => ?_, fun p u h => ?_, R.w0, R.pinH, fun j => ?_, fun j k b xs c ys p hjk h1 h2 => ?_⟩
  · obtain ⟨u, hu⟩ := Option.ne_none_iff_exists'.mp (R.there p h)
    by_cases hp : p ∈ is.map (adr σ)
    · obtain ⟨i, hi, rfl⟩ := List.mem_map.mp hp
      obtain ⟨_, _, _, ws, _, _, h3, _⟩ := hin i hi
      rw [h3]; simp
    · rw [a.keep p u hu hp]; simp
  · obtain ⟨w, hw⟩ := Option.ne_none_iff_exists'.mp (R.there p (by rw [h]; simp))
    rw [a.fro p w hw, R.fro p u h]
  · by_cases hj : j ∈ is
    · obtain ⟨b, xs, ys, ws, g1, g2, g3, g4⟩ := hin j hj
      obtain ⟨vs, a1, a2, a3, a4, a5⟩ := R.place g1
      rw [g2]
      exact ⟨adr σ j, ws, a1, g3, g4, by rw [a.fro _ _ a2]; exact a4, a5⟩
    · rw [putOuts_out is outs e j hj]
      have r := R.slot j
      cases g : gt e j with
      | no => trivial
      | sh a' =>
        rw [g] at r
        obtain ⟨v, e1, r⟩ := r
        exact ⟨v, e1, VR.mono hs a' r⟩
      | ow b xs =>
        obtain ⟨vs, a1, a2, a3, a4, a5⟩ := R.place g
        refine ⟨adr σ j, vs, a1, a.keep _ _ a2 fun hm => ?_, VRs.mono hs xs a3, by rw [a.fro _ _ a2]; exact a4, a5⟩
        obtain ⟨i, hi, q⟩ := List.mem_map.mp hm
        obtain ⟨b', xs', g'⟩ := ok i hi
        obtain ⟨_, c1, _⟩ := R.place g'
        have hij : i ≠ j := fun z => hj (by rw [← z]; exact hi)
        exact R.inj i j b' xs' b xs _ hij g' g c1 (by rw [q]; exact a1)
  · have g : ∀ l c' (zs : List A), gt (putOuts e is outs) l = .ow c' zs → ∃ c'' zs', gt e l = .ow c'' zs' := fun l c' zs hl => by
      by_cases hq : l ∈ is
      · obtain ⟨b, xs, _, _, g1, _⟩ := hin l hq
        exact ⟨b, xs, g1⟩
      · rw [putOuts_out is outs e l hq] at hl
        exact ⟨_, _, hl⟩
    obtain ⟨c1, z1, g1⟩ := g j b xs h1
    obtain ⟨c2, z2, g2⟩ := g k c ys h2
    exact R.inj j k c1 z1 c2 z2 p hjk g1 g2
end

/-! ### the call of a def of one's own -/
def cCall (m : FnM) (ca : DA) : DR := fun e Q EQ => ca e (fun as e1 => (bors as).Nodup ∧ argSs e1 as fun args => m args (fun r outs => Q r (putOuts e1 (bors as) outs)) (fun x => EQ x e1)) EQ
section
variable {K : PySem.W.Frag} {Wx : WX}
theorem map_nodup {K : PySem.W.Frag} {S : Fx} {W H : Hp} {e : Ev} {σ : L2.St} (R : Rel K S W e σ H) : ∀ {is : List Nat}, is.Nodup → BorOk e is → (is.map (adr σ)).Nodup
  | [], _, _ => by simp
  | i :: is, nd, ok => by
    have nd' := List.nodup_cons.mp nd
    rw [List.map_cons, List.nodup_cons]
    refine ⟨fun hm => ?_, map_nodup R nd'.2 fun j hj => ok j (List.mem_cons_of_mem _ hj)⟩
    obtain ⟨j, hj, q⟩ := List.mem_map.mp hm
    obtain ⟨b, xs, g⟩ := ok i List.mem_cons_self
    obtain ⟨b', xs', g'⟩ := ok j (List.mem_cons_of_mem _ hj)
    obtain ⟨_, a1, _⟩ := R.place g
    obtain ⟨_, c1, _⟩ := R.place g'
    have hij : i ≠ j := fun z => nd'.1 (by rw [z]; exact hj)
    exact R.inj i j b xs b' xs' _ hij g g' a1 (by rw [← q]; exact c1)
theorem sim_call {t : TA} {ca : DA} (m : FnM) (ha : SimA K Wx t ca) : SimR K Wx (tCallS (spA K m) (WE Wx) t) (cCall m ca) := by
  intro S W e σ H Q EQ Qv R h q x
  refine ha S W e σ H _ EQ _ R h (fun as e1 W1 vs H1 s1 R1 r1 h1 => ?_) x
  obtain ⟨nd, h1⟩ := h1
  obtain ⟨args, q1, q2, q3, q4⟩ := args_ok R1 r1 h1
  refine ⟨W1, args, _, _, R1.sub, q2, by rw [q3]; exact map_nodup R1 nd q4, q1, fun r outs hr W' v H' af ou re => ?_, fun y hy W' cls d H' af hp xr => ?_⟩
  · rw [q3] at af ou
    have R2 := R1.aft nd q4 af ou
    refine q r _ W' v H' (s1.trans (af.same R1.sub)) R2 ?_ hr
    cases r with
    | sh a => exact re
    | ow xs =>
      obtain ⟨p, ws, rfl, h0, h2, h3, h4⟩ := re
      have hS : S.H0 p = none := by
        cases z : S.H0 p with
        | none => rfl
        | some u => exact absurd h0 (R1.there p (by rw [z]; simp))
      refine ⟨p, ws, rfl, h2, h3, h4, hS, fun j b ys g z => ?_⟩
      obtain ⟨b', xs', g'⟩ : ∃ b' xs', gt e1 j = .ow b' xs' := by
        by_cases hj : j ∈ bors as
        · exact q4 j hj
        · rw [putOuts_out _ _ _ j hj] at g; exact ⟨b, ys, g⟩
      obtain ⟨_, a1, a2, _⟩ := R1.place g'
      rw [z] at a1
      have e3 : p = adr σ j := by injection a1 with a1; injection a1 with a1; injection a1
      rw [e3, a2] at h0; cases h0
  · rw [q3] at af hp
    have nb : bors as = [] := by
      cases hb : bors as with
      | nil => rfl
      | cons _ _ => rw [hb] at hp; cases hp
    rw [nb] at af
    have R2 : Rel K S W' (putOuts e1 [] []) σ H' := R1.aft (is := []) (outs := []) (by simp) (fun _ hi => absurd hi (by simp)) af rfl
    exact x y e1 W' cls d H' (s1.trans (af.same R1.sub)) R2 xr hy
end
/-! ### argument lists -/
def cNilA : DA := fun e Q _ => Q [] e
def cConsA (c : DE) (r : DA) : DA := fun e Q EQ => c e (fun a e1 => r e1 (fun as e2 => Q (.v a :: as) e2) EQ) EQ
def cBorA (i : Nat) (r : DA) : DA := fun e Q EQ => onHas e i <| r e (fun as e2 => Q (.bor i :: as) e2) EQ
theorem ArgVs.mono {K : PySem.W.Frag} {W W' : Hp} {σ : L2.St} (s : Same W W') : ∀ {as : List Arg} {vs : List V}, ArgVs K W σ as vs → ArgVs K W' σ as vs
  | [], _, h => h
  | .v a :: r, _, h => by
    obtain ⟨v, q, rfl, h1, h2⟩ := h
    exact ⟨v, q, rfl, VR.mono s a h1, ArgVs.mono s h2⟩
  | .bor i :: r, _, h => by
    obtain ⟨v, q, rfl, h1, h2⟩ := h
    exact ⟨v, q, rfl, h1, ArgVs.mono s h2⟩
section
variable {X : Cx} {Wx : WX} {ex : Expr} {es : List Expr} {pos : Pos} {te : TE} {t : TA} {c : DE} {r : DA}
theorem ca_nil : CA X Wx [] tNil cNilA := ⟨pa_nil, fun S W e σ H Q EQ Qv R h q x => q [] e W [] H (Same.refl _) R rfl h⟩
theorem ca_cons (ha : CV X Wx ex te c) (hr : CA X Wx es t r) (hs : starEach (ex :: es) X.env = (false, eval ex X.env) :: starEach es X.env := by rfl) : CA X Wx (ex :: es) (tCons te t) (cConsA c r) := by
  refine ⟨pa_cons ha.pe hr.pa hs, fun S W e σ H Q EQ Qv R h q x => ?_⟩
  refine ha.sim S W e σ H _ EQ _ R h (fun a e1 W1 v H1 s1 R1 r1 h1 => ?_) x
  refine hr.sim S W1 e1 σ H1 _ EQ _ R1 h1 (fun xs e2 W2 vs H2 s2 R2 r2 h2 => ?_) (x.mono s1)
  exact q (.v a :: xs) e2 W2 (v :: vs) H2 (s1.trans s2) R2 ⟨v, vs, rfl, VR.mono s2 a r1, r2⟩ h2
/-- the name in slot i, handed over to be changed -/
theorem ca_bor (i : Nat) {x : Str} {p : Pos} (hr : CA X Wx es t r) (hs : starEach (.Name x p :: es) X.env = (false, eval (.Name x p) X.env) :: starEach es X.env := by rfl) (hN : X.N[i]? = some x := by rfl) (hv : Vis X.env.scope x := by first | exact Or.inl rfl | exact Or.inr (Or.inl rfl) | exact Or.inr (Or.inr rfl)) (hd : (x == ("__debug__" : Str)) = false := by decide)
    (hcd : (x == ("__classdict__" : Str)) = false := by decide) : CA X Wx (.Name x p :: es) (tCons (tVar i) t) (cBorA i r) := by
  refine ⟨pa_cons (pe_var hN hv hd hcd) hr.pa hs, fun S W e σ H Q EQ Qv R h q x => ?_⟩
  obtain ⟨⟨v, hσ⟩, h⟩ : (∃ v, σ[i]? = some (some v)) ∧ _ := by
    unfold cBorA onHas at h
    have r := R.slot i
    cases g : gt e i with
    | no => rw [g] at h; exact h.elim
    | sh a => rw [g] at h r; obtain ⟨v, e2, _⟩ := r; exact ⟨⟨v, e2⟩, h⟩
    | ow b xs => rw [g] at h r; obtain ⟨p, vs, e2, _⟩ := r; exact ⟨⟨_, e2⟩, h⟩
  refine ⟨v, hσ, ?_⟩
  refine hr.sim S W e σ H _ EQ _ R h (fun xs e2 W2 vs H2 s2 R2 r2 h2 => ?_) x
  exact q (.bor i :: xs) e2 W2 (v :: vs) H2 s2 R2 ⟨v, vs, rfl, hσ, r2⟩ h2
end

/-- a def of one's own, as callers take it: at level k, by name, with n parameters -/
structure Fn (P : Program) (w : World) (K : PySem.W.Frag) (mg : Str → Option Value) (base : Heap) (k : Nat) (x : Str) (m : FnM) : Prop where
  ex : ∃ (f : Addr) (fd : FuncData) (ps : List Str), FnOk P w K mg base (L2.CX P w) k f fd ps (spA K m) ∧ mg x = some (.ref f) ∧ PySem.W.keepIn K (.ref f) = true ∧ Binds K fd ps []
theorem Fn.mono {P : Program} {w : World} {K : PySem.W.Frag} {mg : Str → Option Value} {base : Heap} {j k : Nat} {x : Str} {m : FnM} (F : Fn P w K mg base j x m) (h : j ≤ k) : Fn P w K mg base k x m := by
  obtain ⟨f, fd, ps, h1, h2⟩ := F.ex
  exact ⟨f, fd, ps, h1.mono h, h2⟩
theorem sp_len {K : PySem.W.Frag} {W H : Hp} : ∀ {args : List Slot} {vs : List V}, ArgsR K W H args vs → vs.length = args.length
  | [], _, h => by rw [show _ = [] from h]; rfl
  | s :: r, _, h => by
    obtain ⟨v, q, rfl, _, h2⟩ := h
    rw [List.length_cons, List.length_cons, sp_len h2]
section
variable {X : Cx} {Wx : WX} {x : Str} {p pos : Pos} {ex : Expr} {es : List Expr} {t : TA} {ca : DA} {m : FnM} {k : Nat}
theorem call_ex (F : Fn X.prog X.w X.K X.mg X.base k x m) (hr : Room k X.A) (tk : Takes X Wx) (ha : CA X Wx (ex :: es) t ca) (hg : Gl X x := by rfl) (hdb : (x == ("__debug__" : Str)) = false := by decide) (he : starEach (ex :: es) X.env = (false, eval ex X.env) :: starEach es X.env := by rfl)
    (hpl : (backTo pos (starEach es X.env)).any (·.1) = false := by rfl) : CRs X Wx (.Call (.Name x p) (ex :: es) [] pos) (tCallS (spA X.K m) (WE Wx) t) (cCall m ca) := by
  obtain ⟨f, fd, ps, h1, h2, h3, h4⟩ := F.ex
  exact ⟨pe_callS h1 hr hg h2 h3 h4 (fun σ => passAt tk σ) ha.pa hdb he hpl, sim_call m ha.sim⟩
end
end AL
/-! AL6: statements, loops, the rule for a def. -/
namespace AL
open PySem PySem.Spec PyProof.Rows L2

structure AEnds where
  nx : Ev → Prop
  rt : Res → Ev → Prop
  bk : Ev → Prop
  ct : Ev → Prop
abbrev DS := AEnds → XQ → Ev → Prop
structure EndsOk (K : PySem.W.Frag) (S : Fx) (Wx : WX) (W : Hp) (AD : AEnds) (EQ : XQ) (D : Ends) : Prop where
  nx : ∀ e' W' σ' H', Same W W' → Rel K S W' e' σ' H' → AD.nx e' → D.nx σ' H'
  bk : ∀ e' W' σ' H', Same W W' → Rel K S W' e' σ' H' → AD.bk e' → D.bk σ' H'
  ct : ∀ e' W' σ' H', Same W W' → Rel K S W' e' σ' H' → AD.ct e' → D.ct σ' H'
  rt : ∀ r e' W' σ' v H', Same W W' → Rel K S W' e' σ' H' → ResR K S W' e' σ' H' r v → AD.rt r e' → D.rt v H'
  xc : ∀ σ, XOk K S Wx W σ EQ
theorem EndsOk.mono {K : PySem.W.Frag} {S : Fx} {Wx : WX} {W W' : Hp} {AD : AEnds} {EQ : XQ} {D : Ends} (o : EndsOk K S Wx W AD EQ D) (s : Same W W') : EndsOk K S Wx W' AD EQ D :=
  ⟨fun e W2 σ H s2 => o.nx e W2 σ H (s.trans s2), fun e W2 σ H s2 => o.bk e W2 σ H (s.trans s2), fun e W2 σ H s2 => o.ct e W2 σ H (s.trans s2), fun r e W2 σ v H s2 => o.rt r e W2 σ v H (s.trans s2), fun σ => (o.xc σ).mono s⟩
def SimS (K : PySem.W.Frag) (Wx : WX) (t : TS) (c : DS) : Prop := ∀ (S : Fx) (W : Hp) (e : Ev) (σ : L2.St) (H : Hp) (AD : AEnds) (EQ : XQ) (D : Ends), Rel K S W e σ H → c AD EQ e → EndsOk K S Wx W AD EQ D → t D σ H
structure CS (X : Cx) (Wx : WX) (s : Stmt) (t : TS) (c : DS) : Prop where
  ps : PS X s t
  sim : SimS X.K Wx t c
structure CSs (X : Cx) (Wx : WX) (s : List Stmt) (t : TS) (c : DS) : Prop where
  ps : PSs X s t
  sim : SimS X.K Wx t c

/-! ### stores -/
theorem pt_out : ∀ {e : Ev} {i : Nat} {x : Slot}, e.length ≤ i → pt e i x = e
  | [], _, _, _ => rfl
  | _ :: _, 0, _, h => absurd h (by simp)
  | s :: r, i + 1, x, h => by
    show s :: pt r i x = s :: r
    rw [pt_out (by simpa using h)]
theorem Rel.setSh' {K : PySem.W.Frag} {S : Fx} {W H : Hp} {e : Ev} {σ : L2.St} (R : Rel K S W e σ H) {i : Nat} {a : A} {v : V} (r : VR K W a v) : Rel K S W (pt e i (.sh a)) (σ.set i (some v)) H := by
  by_cases hi : i < e.length
  · exact R.setSh hi r
  · rw [pt_out (by omega), List.set_eq_of_length_le (by rw [← R.len]; omega)]; exact R
theorem Rel.setOw' {K : PySem.W.Frag} {S : Fx} {W H : Hp} {e : Ev} {σ : L2.St} (R : Rel K S W e σ H) {i : Nat} {xs : List A} {v : V} (r : ResR K S W e σ H (.ow xs) v) : Rel K S W (pt e i (.ow false xs)) (σ.set i (some v)) H := by
  obtain ⟨p, vs, rfl, h1, h2, h3, h4, h5⟩ := r
  by_cases hi : i < e.length
  · exact R.setOw hi h1 h2 h3 h4 h5
  · rw [pt_out (by omega), List.set_eq_of_length_le (by rw [← R.len]; omega)]; exact R
def Res.slot : Res → Slot
  | .sh a => .sh a
  | .ow xs => .ow false xs
theorem Rel.setRes {K : PySem.W.Frag} {S : Fx} {W H : Hp} {e : Ev} {σ : L2.St} (R : Rel K S W e σ H) {i : Nat} {x : Res} {v : V} (r : ResR K S W e σ H x v) : Rel K S W (pt e i x.slot) (σ.set i (some v)) H := by
  cases x with
  | sh a => exact R.setSh' r
  | ow xs => exact R.setOw' r
/-- x = e -/
def cSet (i : Nat) (c : DR) : DS := fun AD EQ e => c e (fun r e1 => AD.nx (pt e1 i r.slot)) EQ
/-- targets -/
abbrev DG := A → Ev → (Ev → Prop) → Prop
def SimG (K : PySem.W.Frag) (g : TG) (cg : DG) : Prop := ∀ (S : Fx) (W : Hp) (e : Ev) (σ : L2.St) (H : Hp) (a : A) (v : V) (Q : Ev → Prop) (Qv : L2.St → Hp → Prop), Rel K S W e σ H → VR K W a v → cg a e Q →
  (∀ e' σ', Rel K S W e' σ' H → Q e' → Qv σ' H) → g v σ H Qv
def gN (i : Nat) : DG := fun a e Q => Q (pt e i (.sh a))
/-- a, b, .. = a tuple: plain names -/
def setAll (e : Ev) : List Nat → List A → Ev
  | i :: is, a :: r => setAll (pt e i (.sh a)) is r
  | _, _ => e
def gT (is : List Nat) : DG := fun a e Q => match a with
  | .tup xs => xs.length = is.length ∧ Q (setAll e is xs)
  | _ => False
def gNames : List Nat → TGs
  | [] => gNil
  | i :: is => gCons (gName i) (gNames is)
section
variable {K : PySem.W.Frag} {Wx : WX}
theorem sim_gN (i : Nat) : SimG K (gName i) (gN i) := fun S W e σ H a v Q Qv R r h q => q _ _ (R.setSh' r) h
theorem gNames_ok (K : PySem.W.Frag) (S : Fx) (W H : Hp) (Q : Ev → Prop) (Qv : L2.St → Hp → Prop) (q : ∀ e' σ', Rel K S W e' σ' H → Q e' → Qv σ' H) : ∀ (is : List Nat) (xs : List A) (vs : List V) (e : Ev) (σ : L2.St), Rel K S W e σ H → VRs K W xs vs → xs.length = is.length → Q (setAll e is xs) → gNames is vs σ H Qv
  | [], [], _, e, σ, R, r, _, h => by
    rw [show _ = [] from r]
    exact ⟨rfl, q e σ R h⟩
  | [], _ :: _, _, _, _, _, _, l, _ => absurd l (by simp)
  | i :: is, [], _, _, _, _, _, l, _ => absurd l (by simp)
  | i :: is, a :: xs, _, e, σ, R, r, l, h => by
    obtain ⟨v, vs, rfl, r1, r2⟩ := r
    exact ⟨v, vs, rfl, gNames_ok K S W H Q Qv q is xs vs _ _ (R.setSh' r1) r2 (by simpa using l) h⟩
theorem sim_gT (is : List Nat) : SimG K (gTup K is.length (gNames is)) (gT is) := by
  intro S W e σ H a v Q Qv R r h q
  cases a with
  | tup xs =>
    obtain ⟨hl, h⟩ := h
    obtain ⟨p, vs, rfl, h1, h2⟩ := r
    exact ⟨p, vs, rfl, SqT.mono R.sub h1, by rw [h2.length, hl], gNames_ok K S W H Q Qv q is xs vs e σ R h2 hl h⟩
  | _ => exact h.elim
theorem sim_set {t : TE} {c : DR} (i : Nat) (h : SimR K Wx t c) : SimS K Wx (tAsg t (gName i)) (cSet i c) := by
  intro S W e σ H AD EQ D R hc o
  exact h S W e σ H _ EQ _ R hc (fun r e1 W1 v H1 s1 R1 r1 h1 => o.nx _ W1 _ H1 s1 (R1.setRes r1) h1) (o.xc σ)
/-- target = e -/
def cAsg (c : DE) (g : DG) : DS := fun AD EQ e => c e (fun a e1 => g a e1 AD.nx) EQ
theorem sim_asg {t : TE} {c : DE} {g : TG} {cg : DG} (h : SimE K Wx t c) (hg : SimG K g cg) : SimS K Wx (tAsg t g) (cAsg c cg) := by
  intro S W e σ H AD EQ D R hc o
  exact h S W e σ H _ EQ _ R hc (fun a e1 W1 v H1 s1 R1 r1 h1 => hg S W1 e1 σ H1 a v _ _ R1 r1 h1 fun e' σ' R' q => o.nx e' W1 σ' H1 s1 R' q) (o.xc σ)
/-- x, y = a, b -/
def cPar (i j : Nat) (c1 c2 : DE) : DS := fun AD EQ e => c1 e (fun a e1 => c2 e1 (fun b e2 => AD.nx (pt (pt e2 i (.sh a)) j (.sh b))) EQ) EQ
theorem sim_par {t1 t2 : TE} {c1 c2 : DE} (i j : Nat) (h1 : SimE K Wx t1 c1) (h2 : SimE K Wx t2 c2) : SimS K Wx (tPar i j (tCons t1 (tCons t2 tNil))) (cPar i j c1 c2) := by
  intro S W e σ H AD EQ D R hc o
  refine h1 S W e σ H _ EQ _ R hc (fun a e1 W1 v H1 s1 R1 r1 q1 => ?_) (o.xc σ)
  refine h2 S W1 e1 σ H1 _ EQ _ R1 q1 (fun b e2 W2 w H2 s2 R2 r2 q2 => ?_) ((o.xc σ).mono s1)
  exact ⟨v, w, rfl, o.nx _ W2 _ H2 (s1.trans s2) ((R2.setSh' (VR.mono s2 a r1)).setSh' r2) q2⟩
/-! ### return, if, blocks -/
def cRet (c : DR) : DS := fun AD EQ e => c e (fun r e1 => AD.rt r e1) EQ
def cRetN : DS := fun AD _ e => AD.rt (.sh .non) e
def cIf (ct : DT) (c1 c2 : DS) : DS := fun AD EQ e => ct e (fun b e1 => if b = true then c1 AD EQ e1 else c2 AD EQ e1) EQ
def cSeq (c1 c2 : DS) : DS := fun AD EQ e => c1 { AD with nx := fun e1 => c2 AD EQ e1 } EQ e
def cNext : DS := fun AD _ e => AD.nx e
def cBreak : DS := fun AD _ e => AD.bk e
def cCont : DS := fun AD _ e => AD.ct e
theorem sim_ret {t : TE} {c : DR} (h : SimR K Wx t c) : SimS K Wx (tRet t) (cRet c) := by
  intro S W e σ H AD EQ D R hc o
  exact h S W e σ H _ EQ _ R hc (fun r e1 W1 v H1 s1 R1 r1 h1 => o.rt r e1 W1 σ v H1 s1 R1 r1 h1) (o.xc σ)
theorem sim_retN : SimS K Wx tRetN cRetN := fun S W e σ H AD EQ D R hc o => o.rt (.sh .non) e W σ .non H (Same.refl _) R rfl hc
theorem sim_if {t : TT} {t1 t2 : TS} {ct : DT} {c1 c2 : DS} (h : SimT K Wx t ct) (h1 : SimS K Wx t1 c1) (h2 : SimS K Wx t2 c2) : SimS K Wx (tIfS t t1 t2) (cIf ct c1 c2) := by
  intro S W e σ H AD EQ D R hc o
  refine h S W e σ H _ EQ _ R hc (fun b e1 W1 H1 s1 R1 q => ?_) (o.xc σ)
  cases b with
  | true => exact h1 S W1 e1 σ H1 AD EQ D R1 q (o.mono s1)
  | false => exact h2 S W1 e1 σ H1 AD EQ D R1 q (o.mono s1)
theorem sim_seq {t1 t2 : TS} {c1 c2 : DS} (h1 : SimS K Wx t1 c1) (h2 : SimS K Wx t2 c2) : SimS K Wx (tSeq t1 t2) (cSeq c1 c2) := by
  intro S W e σ H AD EQ D R hc o
  refine h1 S W e σ H _ EQ _ R hc ⟨fun e1 W1 σ1 H1 s1 R1 q => h2 S W1 e1 σ1 H1 AD EQ D R1 q (o.mono s1), o.bk, o.ct, o.rt, o.xc⟩
theorem sim_next : SimS K Wx tNext cNext := fun S W e σ H AD EQ D R hc o => o.nx e W σ H (Same.refl _) R hc
theorem sim_break : SimS K Wx tBreak cBreak := fun S W e σ H AD EQ D R hc o => o.bk e W σ H (Same.refl _) R hc
theorem sim_cont : SimS K Wx tCont cCont := fun S W e σ H AD EQ D R hc o => o.ct e W σ H (Same.refl _) R hc
/-- e, its value dropped -/
def cExpr (c : DR) : DS := fun AD EQ e => c e (fun _ e1 => AD.nx e1) EQ
theorem sim_expr {t : TE} {c : DR} (h : SimR K Wx t c) : SimS K Wx (tDrop t) (cExpr c) := by
  intro S W e σ H AD EQ D R hc o
  exact h S W e σ H _ EQ _ R hc (fun r e1 W1 v H1 s1 R1 r1 h1 => o.nx e1 W1 σ H1 s1 R1 h1) (o.xc σ)
/-! ### an owned list is written -/
theorem owns {S : Fx} {W H : Hp} {e : Ev} {σ : L2.St} {P : Prop} {i : Nat} (R : Rel K S W e σ H) (h : onHas e i P) : (∃ v, σ[i]? = some (some v)) ∧ P := by
  unfold onHas at h
  have r := R.slot i
  cases g : gt e i with
  | no => rw [g] at h; exact h.elim
  | sh a => rw [g] at h r; obtain ⟨v, e2, _⟩ := r; exact ⟨⟨v, e2⟩, h⟩
  | ow b xs => rw [g] at h r; obtain ⟨p, vs, e2, _⟩ := r; exact ⟨⟨_, e2⟩, h⟩
/-- what is done with the list that slot i owns now -/
def onOw (e : Ev) (i : Nat) (P : Bool → List A → Prop) : Prop := match gt e i with
  | .ow b xs => P b xs
  | _ => False
theorem onOw_ex {S : Fx} {W H : Hp} {e : Ev} {σ : L2.St} {P : Bool → List A → Prop} {i : Nat} {v : V} (R : Rel K S W e σ H) (hv : σ[i]? = some (some v)) (h : onOw e i P) :
    ∃ b xs p vs, gt e i = .ow b xs ∧ P b xs ∧ v = .ref p ∧ H p = some (.lst vs) ∧ VRs K W xs vs := by
  unfold onOw at h
  have r := R.slot i
  cases g : gt e i with
  | no => rw [g] at h; exact h.elim
  | sh a => rw [g] at h; exact h.elim
  | ow b xs =>
    rw [g] at h r
    obtain ⟨p, vs, e2, h1, h2, _⟩ := r
    rw [hv] at e2; cases e2
    exact ⟨b, xs, p, vs, rfl, h, rfl, h1, h2⟩
theorem onOw_has {S : Fx} {W H : Hp} {e : Ev} {σ : L2.St} {P : Bool → List A → Prop} {i : Nat} (R : Rel K S W e σ H) (h : onOw e i P) : ∃ v, σ[i]? = some (some v) := by
  unfold onOw at h
  have r := R.slot i
  cases g : gt e i with
  | no => rw [g] at h; exact h.elim
  | sh a => rw [g] at h; exact h.elim
  | ow b xs => rw [g] at h r; obtain ⟨p, vs, e2, _⟩ := r; exact ⟨_, e2⟩
/-- x.append(e) as a value (None) -/
def cApp (i : Nat) (c : DE) : DE := fun e Q EQ => onOw e i fun _ _ => c e (fun a e1 => onOw e1 i fun b xs => xs.length < sizeLine ∧ Q .non (pt e1 i (.ow b (xs ++ [a])))) EQ
theorem sim_app {t : TE} {c : DE} (i : Nat) (h : SimE K Wx t c) : SimE K Wx (tBM K "list" rAppend (tVar i) (tCons t tNil)) (cApp i c) := by
  intro S W e σ H Q EQ Qv R hc q x
  obtain ⟨v, hv⟩ := onOw_has R hc
  obtain ⟨b0, xs0, p0, vs0, g0, hc, rfl, h0, _⟩ := onOw_ex R hv hc
  refine ⟨_, hv, .inl ⟨rfl, vs0, .inl (.inl h0)⟩, ?_⟩
  refine h S W e σ H _ EQ _ R hc (fun a e1 W1 w H1 s1 R1 r1 h1 => ?_) x
  obtain ⟨b, xs, p, vs, g, ⟨hz, h1⟩, e2, h2, h3⟩ := onOw_ex R1 hv h1
  cases e2
  refine ⟨_, vs, w, rfl, rfl, h2, by rw [h3.length]; exact hz, ?_⟩
  exact q .non _ W1 _ _ s1 (R1.write g hv (h3.append (VRs.cons r1 VRs.nil))) rfl h1
/-- x.extend(e), e a list -/
def cExt (i : Nat) (c : DE) : DE := fun e Q EQ => onOw e i fun _ _ => c e (fun a e1 => onOw e1 i fun b xs => match a with
  | .lst ys => xs.length + ys.length ≤ sizeLine ∧ Q .non (pt e1 i (.ow b (xs ++ ys)))
  | _ => False) EQ
theorem sim_ext {t : TE} {c : DE} (i : Nat) (h : SimE K Wx t c) : SimE K Wx (tBM K "list" rExtend (tVar i) (tCons t tNil)) (cExt i c) := by
  intro S W e σ H Q EQ Qv R hc q x
  obtain ⟨v, hv⟩ := onOw_has R hc
  obtain ⟨b0, xs0, p0, vs0, g0, hc, rfl, h0, _⟩ := onOw_ex R hv hc
  refine ⟨_, hv, .inl ⟨rfl, vs0, .inl (.inl h0)⟩, ?_⟩
  refine h S W e σ H _ EQ _ R hc (fun a e1 W1 w H1 s1 R1 r1 h1 => ?_) x
  obtain ⟨b, xs, p, vs, g, h1, e2, h2, h3⟩ := onOw_ex R1 hv h1
  cases e2
  cases a with
  | lst ys =>
    obtain ⟨hz, h1⟩ := h1
    obtain ⟨p', ws, rfl, k1, k2⟩ := r1
    refine ⟨_, p', vs, ws, rfl, rfl, h2, R1.sub _ _ k1, by rw [h3.length, k2.length]; exact hz, ?_⟩
    exact q .non _ W1 _ _ s1 (R1.write g hv (h3.append k2)) rfl h1
  | _ => exact h1.elim
/-- x.pop(e) -/
def cPopAt (i : Nat) (c : DE) : DE := fun e Q EQ => onOw e i fun _ _ => c e (fun a e1 => onOw e1 i fun b xs => match a with
  | .int k => 0 ≤ k ∧ k < 2 ^ 63 ∧ (match xs[k.toNat]? with
    | some y => Q y (pt e1 i (.ow b (xs.eraseIdx k.toNat)))
    | none => False)
  | _ => False) EQ
theorem sim_popAt {t : TE} {c : DE} (i : Nat) (h : SimE K Wx t c) : SimE K Wx (tBM K "list" rPopAt (tVar i) (tCons t tNil)) (cPopAt i c) := by
  intro S W e σ H Q EQ Qv R hc q x
  obtain ⟨v, hv⟩ := onOw_has R hc
  obtain ⟨b0, xs0, p0, vs0, g0, hc, rfl, h0, _⟩ := onOw_ex R hv hc
  refine ⟨_, hv, .inl ⟨rfl, vs0, .inl (.inl h0)⟩, ?_⟩
  refine h S W e σ H _ EQ _ R hc (fun a e1 W1 w H1 s1 R1 r1 h1 => ?_) x
  obtain ⟨b, xs, p, vs, g, h1, e2, h2, h3⟩ := onOw_ex R1 hv h1
  cases e2
  cases a with
  | int k =>
    obtain ⟨k1, k2, h1⟩ := h1
    cases hy : xs[k.toNat]? with
    | none => rw [hy] at h1; exact h1.elim
    | some y =>
      rw [hy] at h1
      obtain ⟨u, hu, ru⟩ := h3.get hy
      have hl : k.toNat < xs.length := (List.getElem?_eq_some_iff.mp hy).1
      refine ⟨_, vs, k, k.toNat, u, rfl, ?_, h2, by omega, k2, ?_, hu, ?_⟩
      · rw [show w = .int k from r1]
      · rw [seqIndex_of k1 (by rw [h3.length]; omega)]
      · exact q y _ W1 u _ s1 (R1.write g hv (h3.erase _)) ru h1
    
  | _ => exact h1.elim
/-- x[e1] = e: e first -/
def cSetIx (i : Nat) (c : DE) (ci : DE) : DS := fun AD EQ e => c e (fun a e1 => onHas e1 i <| ci e1 (fun k e2 => onOw e2 i fun b xs => match k with
  | .int k => (match ixN xs.length k with
    | some j => AD.nx (pt e2 i (.ow b (xs.set j a)))
    | none => False)
  | _ => False) EQ) EQ
theorem sim_setIx {t ti : TE} {c ci : DE} (i : Nat) (h : SimE K Wx t c) (hi : SimE K Wx ti ci) : SimS K Wx (tAsg t (gSub (tVar i) ti rSetL)) (cSetIx i c ci) := by
  intro S W e σ H AD EQ D R hc o
  refine h S W e σ H _ EQ _ R hc (fun a e1 W1 v H1 s1 R1 r1 h1 => ?_) (o.xc σ)
  obtain ⟨⟨u, hu⟩, h1⟩ := owns R1 h1
  refine ⟨u, hu, ?_⟩
  refine hi S W1 e1 σ H1 _ EQ _ R1 h1 (fun k e2 W2 w H2 s2 R2 r2 h2 => ?_) ((o.xc σ).mono s1)
  obtain ⟨b, xs, p, vs, g, h2, rfl, k1, k2⟩ := onOw_ex R2 hu h2
  cases k with
  | int k =>
    cases hj : ixN xs.length k with
    | none =>
      have h2' : (match ixN xs.length k with
        | some j => AD.nx (pt e2 i (.ow b (xs.set j a)))
        | none => False) := h2
      rw [hj] at h2'; exact h2'.elim
    | some j =>
      have h2' : (match ixN xs.length k with
        | some j => AD.nx (pt e2 i (.ow b (xs.set j a)))
        | none => False) := h2
      rw [hj] at h2'
      refine ⟨p, vs, k, j, rfl, r2, k1, by rw [k2.length]; exact hj, ?_⟩
      exact o.nx _ W2 σ _ (s1.trans s2) (R2.write g hu (k2.set j (VR.mono s2 a r1))) h2'
  | _ => exact h2.elim
/-- x[e1] += e on a list of ints, places from 0 -/
def rGetL (K : PySem.W.Frag) : V → V → Hp → VK → Prop := fun x y H Q => ∃ p xs i v, x = .ref p ∧ y = .int i ∧ SqL K H p xs ∧ 0 ≤ i ∧ i < 2 ^ 63 ∧ xs[i.toNat]? = some v ∧ Q v H
theorem get_list {X : Cx} : PGet X (rGetL X.K) := by
  intro pins s σ H o i ov iv Q I ro ri h
  obtain ⟨p, xs, k, v, rfl, rfl, hq, h0, h1, hx, q⟩ := h
  cases ro
  obtain ⟨t, rfl⟩ := ri
  obtain ⟨its, r, pl, hz⟩ := I.list hq
  obtain ⟨w, ew, rw'⟩ := r.get hx
  exact wpAny_getItem_list pl.isList h0 h1 (by simpa using ew) ⟨v, H, I, rw', q⟩
def cAugIx (i : Nat) (ci c : DE) : DS := fun AD EQ e => onHas e i <| ci e (fun k e1 => onOw e1 i fun _ xs => match k with
  | .int k => 0 ≤ k ∧ k < 2 ^ 63 ∧ (match xs[k.toNat]? with
    | some (.int x) => c e1 (fun a e2 => onOw e2 i fun b ys => match a with
      | .int y => k.toNat < ys.length ∧ AD.nx (pt e2 i (.ow b (ys.set k.toNat (.int (x + y)))))
      | _ => False) EQ
    | _ => False)
  | _ => False) EQ
theorem ixN_of {n : Nat} {k : Int} (h0 : 0 ≤ k) (h : k.toNat < n) : ixN n k = some k.toNat := by
  unfold ixN
  rw [if_pos h0, if_pos (by omega)]
theorem sim_augIx {t ti : TE} {c ci : DE} (i : Nat) (hi : SimE K Wx ti ci) (h : SimE K Wx t c) : SimS K Wx (tAugS (tVar i) ti t (rGetL K) (ipI fun i j => i + j) rSetL) (cAugIx i ci c) := by
  intro S W e σ H AD EQ D R hc o
  obtain ⟨⟨u, hu⟩, hc⟩ := owns R hc
  refine ⟨u, hu, ?_⟩
  refine hi S W e σ H _ EQ _ R hc (fun k e1 W1 w H1 s1 R1 r1 h1 => ?_) (o.xc σ)
  obtain ⟨b, xs, p, vs, g, h1, rfl, k1, k2⟩ := onOw_ex R1 hu h1
  cases k with
  | int k =>
    obtain ⟨a1, a2, h1⟩ := h1
    cases hx : xs[k.toNat]? with
    | none => rw [hx] at h1; exact h1.elim
    | some z =>
      rw [hx] at h1
      cases z with
      | int z =>
        obtain ⟨v, hv, rv⟩ := k2.get hx
        refine ⟨p, vs, k, v, rfl, r1, .inl (.inl k1), a1, a2, hv, ?_⟩
        refine h S W1 e1 σ H1 _ EQ _ R1 h1 (fun a e2 W2 y H2 s2 R2 r2 h2 => ?_) ((o.xc σ).mono s1)
        obtain ⟨b', ys, p', ws, g', h2, e3, m1, m2⟩ := onOw_ex R2 hu h2
        cases e3
        cases a with
        | int y' =>
          obtain ⟨hl, h2⟩ := h2
          refine ⟨z, y', rv, r2, p, ws, k, k.toNat, rfl, r1, m1, by rw [m2.length]; exact ixN_of a1 hl, ?_⟩
          exact o.nx _ W2 σ _ (s1.trans s2) (R2.write g' hu (VRs.set (a := .int (z + y')) _ m2 rfl)) h2
        | _ => exact h2.elim
      | _ => exact h1.elim
  | _ => exact h1.elim
/-- x += e, an int -/
def cAug (i : Nat) (c : DE) : DS := fun AD EQ e => match gt e i with
  | .sh (.int x) => c e (fun a e1 => match a with
    | .int y => AD.nx (pt e1 i (.sh (.int (x + y))))
    | _ => False) EQ
  | _ => False
theorem sim_aug {t : TE} {c : DE} (i : Nat) (h : SimE K Wx t c) : SimS K Wx (tAug i t (ipI fun i j => i + j)) (cAug i c) := by
  intro S W e σ H AD EQ D R hc o
  have hc' : (match gt e i with
    | .sh (.int x) => c e (fun a e1 => match a with
      | .int y => AD.nx (pt e1 i (.sh (.int (x + y))))
      | _ => False) EQ
    | _ => False) := hc
  have r := R.slot i
  cases g : gt e i with
  | sh z =>
    rw [g] at hc' r
    cases z with
    | int z =>
      obtain ⟨v, hv, rv⟩ := r
      refine ⟨v, hv, ?_⟩
      refine h S W e σ H _ EQ _ R hc' (fun a e1 W1 w H1 s1 R1 r1 h1 => ?_) (o.xc σ)
      cases a with
      | int y => exact ⟨z, y, rv, r1, o.nx _ W1 _ H1 s1 (R1.setSh' (a := .int (z + y)) rfl) h1⟩
      | _ => exact h1.elim
    | _ => exact hc'.elim
  | _ => rw [g] at hc'; exact hc'.elim
end
end AL
/-! AL7: what is walked; for, while, comprehensions. -/
namespace AL
open PySem PySem.Spec PyProof.Rows L2

/-- the iterator yields these values, one after another, while the frozen part stands -/
structure ItR (K : PySem.W.Frag) (W : Hp) (J : It) (items : List A) : Prop where
  stop : ∀ i H, Same W H → items.length ≤ i → J.stop i H
  go : ∀ i H, Same W H → i < items.length → J.go i H
  yld : ∀ i H x H' a, Same W H → J.yld i H x H' → items[i]? = some a → (H' = H ∧ VR K W a x) ∨ ∃ T vs as, H T = none ∧ H' = upd H T (.tup vs) ∧ x = .ref T ∧ a = .tup as ∧ VRs K W as vs
theorem ItR.step {K : PySem.W.Frag} {W W1 : Hp} {J : It} {items : List A} (I : ItR K W J items) {i : Nat} {H H' : Hp} {x : V} {a : A} (sw : Same W W1) (sub : Same W1 H) (y : J.yld i H x H') (h : items[i]? = some a) :
    ∃ W2, Ext W1 H W2 H' ∧ VR K W2 a x := by
  rcases I.yld i H x H' a (sw.trans sub) y h with ⟨rfl, r⟩ | ⟨T, vs, as, hT, rfl, rfl, rfl, r⟩
  · exact ⟨W1, Ext.refl, VR.mono sw a r⟩
  · have ex : Ext W1 H (upd W1 T (.tup vs)) (upd H T (.tup vs)) := .inr ⟨T, _, hT, rfl, rfl⟩
    exact ⟨_, ex, T, vs, rfl, .inl (.inl upd_same), VRs.mono (sw.trans (ex.same sub)) as r⟩
abbrev DI := Ev → (List A → Ev → Prop) → XQ → Prop
def SimI (K : PySem.W.Frag) (Wx : WX) (wi : TI) (c : DI) : Prop := ∀ (S : Fx) (W : Hp) (e : Ev) (σ : L2.St) (H : Hp) (Q : List A → Ev → Prop) (EQ : XQ) (R : It → Hp → Prop), Rel K S W e σ H → c e Q EQ →
  (∀ items e' W' J H', Same W W' → Rel K S W' e' σ H' → ItR K W' J items → Q items e' → R J H') → XOk K S Wx W σ EQ → wi σ H R
structure CI (X : Cx) (Wx : WX) (tg iter : Expr) (wi : TI) (c : DI) : Prop where
  pi : PI X tg iter wi
  sim : SimI X.K Wx wi c
/-! ### a list or a tuple -/
def iSeq (K : PySem.W.Frag) (tl : TE) : TI := fun σ H R => tl σ H fun x H1 => ∃ a, x = .ref a ∧ (((∃ xs, SqL K H1 a xs) ∧ R (Itl K a) H1) ∨ ((∃ xs, SqT K H1 a xs) ∧ R (Itt K a) H1))
theorem pi_seq {X : Cx} {tg l : Expr} {tl : TE} (hl : PE X l tl) : PI X tg l (iSeq X.K tl) := by
  refine ⟨fun pins s σ H R I h => ?_⟩
  refine thn (hl.run pins s σ H _ I h) fun v s1 ⟨x, H1, I1, r1, q1⟩ => ?_
  obtain ⟨a, e, q⟩ := q1
  subst e
  cases r1
  rcases q with ⟨⟨xs, hq⟩, q⟩ | ⟨⟨xs, hq⟩, q⟩
  · obtain ⟨its, rv, p, hz⟩ := I1.list hq
    refine wpAny_pyIter_list p.isList ?_
    refine ⟨s1.heap.objs.size, [s1.heap.objs.size], _, _, H1, rfl, I1.kept (t' := s1.toks) fun b o e => Heap.get?_push_of_some _ e, turn_list a _, ⟨_, Heap.get?_push_size _ rfl, rfl, rfl⟩, fun b hb => ?_, q⟩
    have e : b = s1.heap.objs.size := by simpa using hb
    subst e
    exact I1.fpOk (Nat.le_refl _) (I1.hok.fresh (Nat.le_refl _))
  · obtain ⟨its, rv, p, hz⟩ := I1.tuple hq
    refine wpAny_pyIter_tuple (show s1.heap.IsTuple a its.toArray from p) ?_
    refine ⟨s1.heap.objs.size, [s1.heap.objs.size], _, _, H1, rfl, I1.kept (t' := s1.toks) fun b o e => Heap.get?_push_of_some _ e, turn_tuple a _, ⟨_, Heap.get?_push_size _ rfl, rfl, rfl⟩, fun b hb => ?_, q⟩
    have e : b = s1.heap.objs.size := by simpa using hb
    subst e
    exact I1.fpOk (Nat.le_refl _) (I1.hok.fresh (Nat.le_refl _))
def cSeqI (c : DE) : DI := fun e Q EQ => c e (fun a e1 => match a with
  | .tup xs => Q xs e1
  | .lst xs => Q xs e1
  | .scr ns => Q (ns.map A.int) e1
  | _ => False) EQ
section
variable {K : PySem.W.Frag} {Wx : WX} {W : Hp}
theorem itr_list {a : Addr} {xs : List A} {vs : List V} (h : ∀ H, Same W H → SqL K H a vs) (r : VRs K W xs vs) : ItR K W (Itl K a) xs where
  stop := fun i H s hi => ⟨vs, h H s, by rw [r.length]; exact hi⟩
  go := fun i H s hi => by
    obtain ⟨v, hv, _⟩ := r.get (List.getElem?_eq_getElem hi)
    exact ⟨vs, v, h H s, hv⟩
  yld := fun i H x H' b s y hb => by
    obtain ⟨e, y⟩ := y
    obtain ⟨v, hv, rv⟩ := r.get hb
    have := y vs (h H s)
    rw [hv] at this; cases this
    exact .inl ⟨e, rv⟩
theorem itr_tup {a : Addr} {xs : List A} {vs : List V} (h : ∀ H, Same W H → SqT K H a vs) (r : VRs K W xs vs) : ItR K W (Itt K a) xs where
  stop := fun i H s hi => ⟨vs, h H s, by rw [r.length]; exact hi⟩
  go := fun i H s hi => by
    obtain ⟨v, hv, _⟩ := r.get (List.getElem?_eq_getElem hi)
    exact ⟨vs, v, h H s, hv⟩
  yld := fun i H x H' b s y hb => by
    obtain ⟨e, y⟩ := y
    obtain ⟨v, hv, rv⟩ := r.get hb
    have := y vs (h H s)
    rw [hv] at this; cases this
    exact .inl ⟨e, rv⟩
theorem sim_seqI {t : TE} {c : DE} (h : SimE K Wx t c) : SimI K Wx (iSeq K t) (cSeqI c) := by
  intro S W e σ H Q EQ R Re hc q x
  refine h S W e σ H _ EQ _ Re hc (fun a e1 W1 v H1 s1 R1 r1 h1 => ?_) x
  cases a with
  | tup xs =>
    obtain ⟨p, vs, rfl, k1, k2⟩ := r1
    exact ⟨p, rfl, .inr ⟨⟨vs, SqT.mono R1.sub k1⟩, q xs e1 W1 _ H1 s1 R1 (itr_tup (fun H' s => SqT.mono s k1) k2) h1⟩⟩
  | lst xs =>
    obtain ⟨p, vs, rfl, k1, k2⟩ := r1
    exact ⟨p, rfl, .inl ⟨⟨vs, .inl (.inl (R1.sub _ _ k1))⟩, q xs e1 W1 _ H1 s1 R1 (itr_list (fun H' s => .inl (.inl (s _ _ k1))) k2) h1⟩⟩
  | scr ns =>
    obtain ⟨p, rfl, k1⟩ := r1
    exact ⟨p, rfl, .inl ⟨⟨_, R1.sub.seq k1⟩, q _ e1 W1 _ H1 s1 R1 (itr_list (fun H' s => s.seq k1) (VRs.of_ints ns)) h1⟩⟩
  | _ => exact h1.elim
/-! ### ranges -/
def rgA (lo : Int) (n : Nat) : List A := (List.range n).map fun (k : Nat) => A.int (lo + (k : Int))
theorem rgA_get {lo : Int} {n i : Nat} {a : A} (h : (rgA lo n)[i]? = some a) : a = .int (lo + i) := by
  unfold rgA at h
  rw [List.getElem?_map] at h
  cases q : (List.range n)[i]? with
  | none => rw [q] at h; cases h
  | some k =>
    rw [q] at h
    obtain ⟨hl, e⟩ := List.getElem?_eq_some_iff.mp q
    rw [List.getElem_range] at e
    subst e
    exact (Option.some.inj h).symm
theorem rgA_length {lo : Int} {n : Nat} : (rgA lo n).length = n := by unfold rgA; rw [List.length_map, List.length_range]
theorem itr_range {lo : Int} {n : Nat} : ItR K W (Itr lo n) (rgA lo n) where
  stop := fun i H s hi => by rw [rgA_length] at hi; exact hi
  go := fun i H s hi => by rw [rgA_length] at hi; exact hi
  yld := fun i H x H' b s y hb => by
    obtain ⟨e, y⟩ := y
    rw [rgA_get hb]
    exact .inl ⟨e, y⟩
def cRg1 (c : DE) : DI := fun e Q EQ => c e (fun a e1 => match a with
  | .int j => -(2 ^ 62) ≤ j ∧ j < 2 ^ 62 ∧ Q (rgA 0 j.toNat) e1
  | _ => False) EQ
def cRg2 (c1 c2 : DE) : DI := fun e Q EQ => c1 e (fun a e1 => c2 e1 (fun b e2 => match a, b with
  | .int i, .int j => -(2 ^ 62) ≤ i ∧ i < 2 ^ 62 ∧ -(2 ^ 62) ≤ j ∧ j < 2 ^ 62 ∧ Q (rgA i (j - i).toNat) e2
  | _, _ => False) EQ) EQ
theorem sim_rg1 {t : TE} {c : DE} (h : SimE K Wx t c) : SimI K Wx (iRng1 (tCons t tNil)) (cRg1 c) := by
  intro S W e σ H Q EQ R Re hc q x
  refine h S W e σ H _ EQ _ Re hc (fun a e1 W1 v H1 s1 R1 r1 h1 => ?_) x
  cases a with
  | int j =>
    obtain ⟨h1, h2, h3⟩ := h1
    exact ⟨j, by rw [show v = .int j from r1], h1, h2, q _ e1 W1 _ H1 s1 R1 itr_range h3⟩
  | _ => exact h1.elim
theorem sim_rg2 {t1 t2 : TE} {c1 c2 : DE} (h1 : SimE K Wx t1 c1) (h2 : SimE K Wx t2 c2) : SimI K Wx (iRng2 (tCons t1 (tCons t2 tNil))) (cRg2 c1 c2) := by
  intro S W e σ H Q EQ R Re hc q x
  refine h1 S W e σ H _ EQ _ Re hc (fun a e1 W1 v H1 s1 R1 r1 q1 => ?_) x
  refine h2 S W1 e1 σ H1 _ EQ _ R1 q1 (fun b e2 W2 w H2 s2 R2 r2 q2 => ?_) (x.mono s1)
  cases a with
  | int i =>
    cases b with
    | int j =>
      obtain ⟨a1, a2, a3, a4, q2⟩ := q2
      exact ⟨i, j, by rw [show v = .int i from r1, show w = .int j from r2], ⟨a1, a2, a3, a4⟩, q _ e2 W2 _ H2 (s1.trans s2) R2 itr_range q2⟩
    | _ => exact q2.elim
  | _ => cases b <;> exact q2.elim
end
section
variable {X : Cx} {Wx : WX} {tg a b : Expr} {ta tb : TE} {ca cb : DE} {p pos : Pos}
theorem ci_seq (h : CV X Wx a ta ca) : CI X Wx tg a (iSeq X.K ta) (cSeqI ca) := ⟨pi_seq h.pe, sim_seqI h.sim⟩
theorem ci_rg1 (hm : X.mg "range" = none) (h : CV X Wx a ta ca) (hg : Gl X "range" := by rfl) (hs : starEach [a] X.env = [(false, eval a X.env)] := by rfl) (hs2 : starEach [a] X.env = (false, eval a X.env) :: starEach [] X.env := by rfl) : CI X Wx tg (.Call (.Name "range" p) [a] [] pos) (iRng1 (tCons ta tNil)) (cRg1 ca) :=
  ⟨pi_range1 hg hm (pa_cons h.pe pa_nil hs2) hs, sim_rg1 h.sim⟩
theorem ci_rg2 (hm : X.mg "range" = none) (ha : CV X Wx a ta ca) (hb : CV X Wx b tb cb) (hg : Gl X "range" := by rfl) (hs : starEach [a, b] X.env = [(false, eval a X.env), (false, eval b X.env)] := by rfl) (hs2 : starEach [b] X.env = [(false, eval b X.env)] := by rfl)
    (hs3 : starEach [a, b] X.env = (false, eval a X.env) :: starEach [b] X.env := by rfl) (hs4 : starEach [b] X.env = (false, eval b X.env) :: starEach [] X.env := by rfl) : CI X Wx tg (.Call (.Name "range" p) [a, b] [] pos) (iRng2 (tCons ta (tCons tb tNil))) (cRg2 ca cb) :=
  ⟨pi_range2 hg hm (pa_cons ha.pe (pa_cons hb.pe pa_nil hs4) hs3) hs hs2, sim_rg2 ha.sim hb.sim⟩
end

/-! ### for -/
def forL (g : DG) (body : DS) (AD : AEnds) (EQ : XQ) : List A → Ev → Prop
  | [], e => AD.nx e
  | x :: xs, e => g x e fun e1 => body { nx := forL g body AD EQ xs, rt := AD.rt, bk := AD.nx, ct := forL g body AD EQ xs } EQ e1
def cFor (ci : DI) (g : DG) (body : DS) : DS := fun AD EQ e => ci e (fun items e1 => forL g body AD EQ items e1) EQ
theorem drop_get {α : Type} {l : List α} {i : Nat} {a : α} (h : l[i]? = some a) : l.drop i = a :: l.drop (i + 1) := by
  obtain ⟨hl, e⟩ := List.getElem?_eq_some_iff.mp h
  rw [← e]; exact List.drop_eq_getElem_cons hl
theorem sim_for {K : PySem.W.Frag} {Wx : WX} {wi : TI} {ci : DI} {g : TG} {cg : DG} {tb : TS} {cb : DS} (hi : SimI K Wx wi ci) (hg : SimG K g cg) (hb : SimS K Wx tb cb) : SimS K Wx (tFor wi g tb) (cFor ci cg cb) := by
  intro S W e σ H AD EQ D R hc o
  refine hi S W e σ H _ EQ _ R hc (fun items e1 W1 J H1 s1 R1 it h1 => ?_) (o.xc σ)
  refine ⟨fun i m σ' H' => m = items.length - i ∧ i ≤ items.length ∧ ∃ W' e', Same W1 W' ∧ Rel K S W' e' σ' H' ∧ forL cg cb AD EQ (items.drop i) e', ⟨items.length, by simp, Nat.zero_le _, W1, e1, Same.refl _, R1, h1⟩, fun i m σ' H' hw => ?_⟩
  obtain ⟨rfl, hle, W', e', sW, R', hf⟩ := hw
  by_cases hlt : i < items.length
  · have ha : items[i]? = some items[i] := List.getElem?_eq_getElem hlt
    rw [drop_get ha] at hf
    refine .inr ⟨it.go i H' (sW.trans R'.sub) hlt, fun σ2 H2 => ∃ W2 e2, Same W1 W2 ∧ Rel K S W2 e2 σ2 H2 ∧ forL cg cb AD EQ (items.drop (i + 1)) e2, fun σ2 H2 ⟨W2, e2, s2, R2, h2⟩ => ⟨items.length - (i + 1), by omega, rfl, hlt, W2, e2, s2, R2, h2⟩, fun x H2 y => ?_⟩
    obtain ⟨W2, ex, rv⟩ := it.step sW R'.sub y ha
    have s2 := ex.same R'.sub
    refine hg S W2 e' σ' H2 _ x _ _ (R'.ext ex) rv hf fun e3 σ3 R3 h3 => ?_
    refine hb S W2 e3 σ3 H2 _ EQ _ R3 h3 ⟨fun e4 W4 σ4 H4 s4 R4 h4 => ⟨W4, e4, sW.trans (s2.trans s4), R4, h4⟩, fun e4 W4 σ4 H4 s4 R4 h4 => o.nx e4 W4 σ4 H4 (s1.trans (sW.trans (s2.trans s4))) R4 h4,
      fun e4 W4 σ4 H4 s4 R4 h4 => ⟨W4, e4, sW.trans (s2.trans s4), R4, h4⟩, fun r e4 W4 σ4 v H4 s4 R4 r4 h4 => o.rt r e4 W4 σ4 v H4 (s1.trans (sW.trans (s2.trans s4))) R4 r4 h4, fun σ4 => (o.xc σ4).mono (s1.trans (sW.trans s2))⟩
  · have e0 : items.drop i = [] := List.drop_eq_nil_of_le (by omega)
    rw [e0] at hf
    exact .inl ⟨it.stop i H' (sW.trans R'.sub) (by omega), o.nx e' W' σ' H' (s1.trans sW) R' hf⟩
/-! ### while -/
def whileN (t : DT) (b : DS) (AD : AEnds) (EQ : XQ) : Nat → Ev → Prop
  | 0, _ => False
  | n + 1, e => t e (fun c e1 => if c = true then b { nx := whileN t b AD EQ n, rt := AD.rt, bk := AD.nx, ct := whileN t b AD EQ n } EQ e1 else AD.nx e1) EQ
def cWhile (t : DT) (b : DS) : DS := fun AD EQ e => ∃ n, whileN t b AD EQ n e
theorem sim_while {K : PySem.W.Frag} {Wx : WX} {tt : TT} {ct : DT} {tb : TS} {cb : DS} (ht : SimT K Wx tt ct) (hb : SimS K Wx tb cb) : SimS K Wx (tWhile tt tb) (cWhile ct cb) := by
  intro S W e σ H AD EQ D R hc o
  obtain ⟨n, hc⟩ := hc
  refine ⟨fun m σ' H' => ∃ W' e', Same W W' ∧ Rel K S W' e' σ' H' ∧ whileN ct cb AD EQ m e', ⟨n, W, e, Same.refl _, R, hc⟩, fun m σ' H' ⟨W', e', sW, R', h'⟩ => ?_⟩
  cases m with
  | zero => exact h'.elim
  | succ m =>
    refine ht S W' e' σ' H' _ EQ _ R' h' (fun c e1 W1 H1 s1 R1 h1 => ?_) ((o.xc σ').mono sW)
    cases c with
    | true =>
      rw [if_pos rfl]
      refine ⟨fun σ2 H2 => ∃ W2 e2, Same W W2 ∧ Rel K S W2 e2 σ2 H2 ∧ whileN ct cb AD EQ m e2, fun σ2 H2 h2 => ⟨m, Nat.lt_succ_self _, h2⟩, ?_⟩
      refine hb S W1 e1 σ' H1 _ EQ _ R1 h1 ⟨fun e4 W4 σ4 H4 s4 R4 h4 => ⟨W4, e4, sW.trans (s1.trans s4), R4, h4⟩, fun e4 W4 σ4 H4 s4 R4 h4 => o.nx e4 W4 σ4 H4 (sW.trans (s1.trans s4)) R4 h4,
        fun e4 W4 σ4 H4 s4 R4 h4 => ⟨W4, e4, sW.trans (s1.trans s4), R4, h4⟩, fun r e4 W4 σ4 v H4 s4 R4 r4 h4 => o.rt r e4 W4 σ4 v H4 (sW.trans (s1.trans s4)) R4 r4 h4, fun σ4 => (o.xc σ4).mono (sW.trans s1)⟩
    | false =>
      rw [if_neg Bool.false_ne_true]
      exact o.nx e1 W1 σ' H1 (sW.trans s1) R1 h1
end AL
/-! AL8: comprehensions; the rule for a def. -/
namespace AL
open PySem PySem.Spec PyProof.Rows L2

/-- no exception leaves -/
abbrev WF : WX := fun _ _ _ _ => False
def wipeE (e : Ev) : List Nat → Ev
  | [] => e
  | v :: vs => pt (wipeE e vs) v .no
def keepSh : Slot → Slot
  | .sh a => .sh a
  | _ => .no
/-- behind a block: its own names as they stood around it -/
def unwipe (e e2 : Ev) : List Nat → Ev
  | [] => e2
  | v :: vs => pt (unwipe e e2 vs) v (keepSh (gt e v))
def compA (g : DG) (tt : DT) (te : DE) (vs : List Nat) (Q : List A → Ev → Prop) : List A → List A → Ev → Prop
  | [], acc, e => Q acc e
  | x :: xs, acc, e => g x e fun e1 => tt e1 (fun b e2 => if b = true then te e2 (fun y e3 => acc.length < sizeLine ∧ compA g tt te vs Q xs (acc ++ [y]) (wipeE e3 vs)) (fun _ _ => False) else compA g tt te vs Q xs acc (wipeE e2 vs)) (fun _ _ => False)
def cLC (ci : DI) (g : DG) (tt : DT) (te : DE) (vs : List Nat) : DR := fun e Q EQ => ci e (fun items e1 => compA g tt te vs (fun acc e2 => Q (.ow acc) (unwipe e1 e2 vs)) items [] (wipeE e1 vs)) EQ
theorem wipeE_length (e : Ev) : ∀ vs, (wipeE e vs).length = e.length
  | [] => rfl
  | v :: vs => by unfold wipeE; rw [pt_length, wipeE_length e vs]
theorem unwipe_length (e e2 : Ev) : ∀ vs, (unwipe e e2 vs).length = e2.length
  | [] => rfl
  | v :: vs => by unfold unwipe; rw [pt_length, unwipe_length e e2 vs]
theorem unwipe_gt (e e2 : Ev) (h : e.length = e2.length) : ∀ (vs : List Nat) (j : Nat), gt (unwipe e e2 vs) j = if j ∈ vs then keepSh (gt e j) else gt e2 j
  | [], j => by rw [if_neg (by simp)]; rfl
  | v :: vs, j => by
    unfold unwipe
    by_cases hj : v = j
    · subst hj
      rw [if_pos List.mem_cons_self]
      by_cases hl : v < e2.length
      · rw [gt_pt_same (by rw [unwipe_length]; exact hl)]
      · have h1 : gt (pt (unwipe e e2 vs) v (keepSh (gt e v))) v = .no := by
          rw [pt_out (by rw [unwipe_length]; omega)]
          cases q : gt (unwipe e e2 vs) v with
          | no => rfl
          | sh a => exact absurd (gt_lt (e := unwipe e e2 vs) (i := v) (by rw [q]; simp)) (by rw [unwipe_length]; exact hl)
          | ow b xs => exact absurd (gt_lt (e := unwipe e e2 vs) (i := v) (by rw [q]; simp)) (by rw [unwipe_length]; exact hl)
        have h2 : gt e v = .no := by
          cases q : gt e v with
          | no => rfl
          | sh a => exact absurd (gt_lt (e := e) (i := v) (by rw [q]; simp)) (by rw [h]; exact hl)
          | ow b xs => exact absurd (gt_lt (e := e) (i := v) (by rw [q]; simp)) (by rw [h]; exact hl)
        rw [h1, h2]; rfl
    · rw [gt_pt_ne hj, unwipe_gt e e2 h vs j]
      by_cases hm : j ∈ vs
      · rw [if_pos hm, if_pos (List.mem_cons_of_mem _ hm)]
      · rw [if_neg hm, if_neg (by simp only [List.mem_cons, not_or]; exact ⟨fun z => hj z.symm, hm⟩)]
section
variable {K : PySem.W.Frag} {S : Fx} {W W1 W2 H H1 H2 : Hp} {e e1 e2 : Ev} {σ : L2.St}
theorem Rel.wipe (R : Rel K S W e σ H) : ∀ vs, Rel K S W (wipeE e vs) (L2.wipe σ vs) H
  | [] => R
  | v :: vs => by
    have ih := (Rel.wipe R vs).drop v
    -- the slot's value is forgotten in σ, too
    show Rel K S W (pt (wipeE e vs) v .no) ((L2.wipe σ vs).set v none) H
    refine ⟨by rw [List.length_set]; exact ih.len, ih.sub, ih.old, ih.there, ih.fro, ih.w0, ih.pinH, fun j => ?_, fun j k b xs c ys p hjk g1 g2 => ?_⟩
    · by_cases hj : v = j
      · subst hj
        by_cases hl : v < (wipeE e vs).length
        · rw [gt_pt_same hl]; trivial
        · rw [pt_out (by omega)]
          have := ih.slot v
          rw [pt_out (by omega)] at this
          cases q : gt (wipeE e vs) v with
          | no => trivial
          | sh a => exact absurd (gt_lt (e := wipeE e vs) (i := v) (by rw [q]; simp)) hl
          | ow b xs => exact absurd (gt_lt (e := wipeE e vs) (i := v) (by rw [q]; simp)) hl
      · have := ih.slot j
        rw [gt_pt_ne hj] at this ⊢
        cases q : gt (wipeE e vs) j with
        | no => trivial
        | sh a =>
          rw [q] at this
          obtain ⟨w, a1, a2⟩ := this
          exact ⟨w, by rw [getset_ne hj]; exact a1, a2⟩
        | ow b xs =>
          rw [q] at this
          obtain ⟨p, ws, a1, a2⟩ := this
          exact ⟨p, ws, by rw [getset_ne hj]; exact a1, a2⟩
    · have ne : ∀ l c' (zs : List A), gt (pt (wipeE e vs) v .no) l = .ow c' zs → v ≠ l := fun l c' zs g z => by
        subst z
        have hl : v < (wipeE e vs).length := by
          have := gt_lt (e := pt (wipeE e vs) v .no) (i := v) (by rw [g]; simp)
          rwa [pt_length] at this
        rw [gt_pt_same hl] at g; cases g
      rw [getset_ne (ne j b xs g1), getset_ne (ne k c ys g2)]
      exact ih.inj j k b xs c ys p hjk g1 g2
/-- behind the block -/
theorem Rel.unwipe {vs : List Nat} (R1 : Rel K S W1 e1 σ H1) (s : Same W1 W2) (R2 : Rel K S W2 e2 (L2.wipe σ vs) H2) : Rel K S W2 (AL.unwipe e1 e2 vs) σ H2 := by
  have hl : e1.length = e2.length := by rw [R1.len, R2.len, wipe_length]
  refine ⟨by rw [unwipe_length, ← hl]; exact R1.len, R2.sub, R2.old, R2.there, R2.fro, R2.w0, R2.pinH, fun j => ?_, fun j k b xs c ys p hjk g1 g2 => ?_⟩
  · rw [unwipe_gt e1 e2 hl vs j]
    by_cases hm : j ∈ vs
    · rw [if_pos hm]
      have r := R1.slot j
      cases q : gt e1 j with
      | no => trivial
      | sh a =>
        rw [q] at r
        obtain ⟨v, a1, a2⟩ := r
        exact ⟨v, a1, VR.mono s a a2⟩
      | ow b xs => trivial
    · rw [if_neg hm]
      have r := R2.slot j
      cases q : gt e2 j with
      | no => trivial
      | sh a =>
        rw [q] at r
        obtain ⟨v, a1, a2⟩ := r
        exact ⟨v, by rw [← wipe_out hm]; exact a1, a2⟩
      | ow b xs =>
        rw [q] at r
        obtain ⟨p, ws, a1, a2⟩ := r
        exact ⟨p, ws, by rw [← wipe_out hm]; exact a1, a2⟩
  · have out : ∀ l c' (zs : List A), gt (AL.unwipe e1 e2 vs) l = .ow c' zs → l ∉ vs ∧ gt e2 l = .ow c' zs := fun l c' zs g => by
      rw [unwipe_gt e1 e2 hl vs l] at g
      by_cases hm : l ∈ vs
      · rw [if_pos hm] at g
        cases q : gt e1 l <;> rw [q] at g <;> cases g
      · rw [if_neg hm] at g; exact ⟨hm, g⟩
    obtain ⟨m1, g1⟩ := out j b xs g1
    obtain ⟨m2, g2⟩ := out k c ys g2
    rw [← wipe_out m1, ← wipe_out m2]
    exact R2.inj j k b xs c ys p hjk g1 g2
/-- an object put under guard: it stays as it is -/
def Fx.add (S : Fx) (D : Addr) (o : HO) : Fx := { S with H0 := upd S.H0 D o }
theorem Rel.guard {D : Addr} {o : HO} (R : Rel K S W e σ H) (hD : H D = some o) (hW : W D = none) (h0 : S.H0 D = none) (hn : ∀ j b ys, gt e j = .ow b ys → σ[j]? ≠ some (some (.ref D))) : Rel K (S.add D o) W e σ H := by
  have hw0 : S.W0 D = none := sub_none R.w0 h0
  refine ⟨R.len, R.sub, fun p u h n => ?_, fun p h => ?_, fun p u h => ?_, fun p u h => ?_, fun i p h => ?_, fun j => ?_, R.inj⟩
  · by_cases hp : p = D
    · subst hp; rw [show (S.add p o).H0 p = some o from upd_same] at h; cases h; exact hD
    · rw [show (S.add D o).H0 p = S.H0 p from upd_ne hp] at h; exact R.old p u h n
  · by_cases hp : p = D
    · subst hp; rw [hD]; simp
    · rw [show (S.add D o).H0 p = S.H0 p from upd_ne hp] at h; exact R.there p h
  · by_cases hp : p = D
    · subst hp; rw [hW]; exact hw0.symm
    · rw [show (S.add D o).H0 p = S.H0 p from upd_ne hp] at h; exact R.fro p u h
  · have hp : p ≠ D := fun z => by subst z; rw [show (S.add p o).W0 p = S.W0 p from rfl, hw0] at h; cases h
    rw [show (S.add D o).H0 p = S.H0 p from upd_ne hp]; exact R.w0 p u h
  · obtain ⟨a1, a2⟩ := R.pinH i p h
    have hp : p ≠ D := fun z => by subst z; exact a1 h0
    exact ⟨by rw [show (S.add D o).H0 p = S.H0 p from upd_ne hp]; exact a1, a2⟩
  · have r := R.slot j
    cases q : gt e j with
    | no => trivial
    | sh a => rw [q] at r; exact r
    | ow b xs =>
      rw [q] at r
      obtain ⟨p, vs, a1, a2, a3, a4, a5⟩ := r
      have hp : p ≠ D := fun z => by subst z; exact hn j b xs q a1
      refine ⟨p, vs, a1, a2, a3, a4, ?_⟩
      cases b with
      | true => exact a5
      | false =>
        have a5 : S.H0 p = none := by simpa using a5
        show (if false = true then _ else (S.add D o).H0 p = none)
        rw [if_neg Bool.false_ne_true]
        rw [show (S.add D o).H0 p = S.H0 p from upd_ne hp]; exact a5
theorem Rel.unguard {D : Addr} {o : HO} (R : Rel K (S.add D o) W e σ H) (h0 : S.H0 D = none) (hw : Same S.W0 S.H0) (hp0 : ∀ i p, S.pin i = some p → S.H0 p ≠ none ∧ S.W0 p = none) :
    Rel K S W e σ H ∧ H D = some o ∧ W D = none ∧ ∀ j b ys, gt e j = .ow b ys → σ[j]? ≠ some (some (.ref D)) := by
  have hD0 : (S.add D o).H0 D = some o := upd_same
  have npin : ∀ i, S.pin i ≠ some D := fun i z => (hp0 i D z).1 h0
  have hH : H D = some o := R.old D o hD0 npin
  have hW : W D = none := (R.fro D o hD0).trans (sub_none hw h0)
  have sub : ∀ p u, S.H0 p = some u → (S.add D o).H0 p = some u := fun p u h => by
    rw [show (S.add D o).H0 p = S.H0 p from upd_ne (ne_of_none h h0)]; exact h
  have own : ∀ j b ys, gt e j = .ow b ys → σ[j]? ≠ some (some (.ref D)) := fun j b ys g z => by
    have r := R.slot j
    rw [g] at r
    obtain ⟨p, vs, a1, a2, a3, a4, a5⟩ := r
    rw [z] at a1; cases a1
    cases b with
    | true => exact npin j a5
    | false => rw [show (S.add D o).H0 D = none from a5] at hD0; cases hD0
  refine ⟨⟨R.len, R.sub, fun p u h n => R.old p u (sub p u h) n, fun p h => ?_, fun p u h => R.fro p u (sub p u h), hw, hp0, fun j => ?_, R.inj⟩, hH, hW, own⟩
  · obtain ⟨u, hu⟩ := Option.ne_none_iff_exists'.mp h
    exact R.there p (by rw [sub p u hu]; simp)
  · have r := R.slot j
    cases q : gt e j with
    | no => trivial
    | sh a => rw [q] at r; exact r
    | ow b xs =>
      rw [q] at r
      obtain ⟨p, vs, a1, a2, a3, a4, a5⟩ := r
      refine ⟨p, vs, a1, a2, a3, a4, ?_⟩
      cases b with
      | true => exact a5
      | false =>
        have a5 : (S.add D o).H0 p = none := by simpa using a5
        show (if false = true then _ else S.H0 p = none)
        rw [if_neg Bool.false_ne_true]
        cases z : S.H0 p with
        | none => rfl
        | some u => rw [sub p u z] at a5; cases a5
/-- an object that nothing names is written -/
theorem Rel.over {D : Addr} {o : HO} (R : Rel K S W e σ H) (hD : H D ≠ none) (hW : W D = none) (h0 : S.H0 D = none) (hn : ∀ j b ys, gt e j = .ow b ys → σ[j]? ≠ some (some (.ref D))) : Rel K S W e σ (upd H D o) := by
  refine ⟨R.len, fun p u h => ?_, fun p u h n => ?_, fun p h => ?_, R.fro, R.w0, R.pinH, fun j => ?_, R.inj⟩
  · rw [upd_ne (fun z => by subst z; rw [hW] at h; cases h)]; exact R.sub p u h
  · rw [upd_ne (ne_of_none h h0)]; exact R.old p u h n
  · by_cases hp : p = D
    · subst hp; rw [upd_same]; simp
    · rw [upd_ne hp]; exact R.there p h
  · have r := R.slot j
    cases q : gt e j with
    | no => trivial
    | sh a => rw [q] at r; exact r
    | ow b xs =>
      rw [q] at r
      obtain ⟨p, vs, a1, a2, a3, a4, a5⟩ := r
      have hp : p ≠ D := fun z => by subst z; exact hn j b xs q a1
      exact ⟨p, vs, a1, by rw [upd_ne hp]; exact a2, a3, a4, a5⟩
end
theorem wipe_set {σ : L2.St} {i : Nat} {v : Option V} : ∀ {vs : List Nat}, i ∈ vs → L2.wipe (σ.set i v) vs = L2.wipe σ vs
  | [], h => absurd h (by simp)
  | w :: vs, h => by
    unfold L2.wipe
    by_cases hi : i ∈ vs
    · rw [wipe_set hi]
    · have e : i = w := (List.mem_cons.mp h).resolve_right hi
      subst e
      have : ∀ (us : List Nat), i ∉ us → L2.wipe (σ.set i v) us = (L2.wipe σ us).set i v := fun us => by
        induction us with
        | nil => intro _; rfl
        | cons u us ih =>
          intro hu
          simp only [List.mem_cons, not_or] at hu
          unfold L2.wipe
          rw [ih hu.2, List.set_comm _ _ (fun z => hu.1 z)]
      rw [this vs hi, List.set_set]
theorem wipe_idem {σ : L2.St} {vs : List Nat} : ∀ us : List Nat, (∀ i ∈ us, i ∈ vs) → L2.wipe (L2.wipe σ us) vs = L2.wipe σ vs
  | [], _ => rfl
  | u :: us, h => by
    show L2.wipe ((L2.wipe σ us).set u none) vs = _
    rw [wipe_set (h u List.mem_cons_self), wipe_idem us fun i hi => h i (List.mem_cons_of_mem _ hi)]
/-- a target leaves the names outside vs as they are -/
def Within (g : TG) (vs : List Nat) : Prop := ∀ (v : V) (σ : L2.St) (H : Hp) (Q : L2.St → Hp → Prop), g v σ H (fun σ2 H2 => L2.wipe σ2 vs = L2.wipe σ vs → Q σ2 H2) → g v σ H fun σ2 H2 => L2.wipe σ2 vs = L2.wipe σ vs ∧ Q σ2 H2
theorem within_name {i : Nat} {vs : List Nat} (h : i ∈ vs) : Within (gName i) vs := fun v σ H Q q => ⟨wipe_set h, q (wipe_set h)⟩
theorem within_names (vs : List Nat) (σ0 : L2.St) : ∀ (is : List Nat), (∀ i ∈ is, i ∈ vs) → ∀ (us : List V) (σ : L2.St) (H : Hp) (Q : L2.St → Hp → Prop), L2.wipe σ vs = L2.wipe σ0 vs → gNames is us σ H (fun σ2 H2 => L2.wipe σ2 vs = L2.wipe σ0 vs → Q σ2 H2) → gNames is us σ H fun σ2 H2 => L2.wipe σ2 vs = L2.wipe σ0 vs ∧ Q σ2 H2
  | [], _, us, σ, H, Q, hσ, ⟨e, q⟩ => ⟨e, hσ, q hσ⟩
  | i :: is, h, us, σ, H, Q, hσ, ⟨v, r, e, q⟩ => ⟨v, r, e, within_names vs σ0 is (fun j hj => h j (List.mem_cons_of_mem _ hj)) r _ H Q (by rw [wipe_set (h i List.mem_cons_self)]; exact hσ) q⟩
theorem within_tup {K : PySem.W.Frag} {is : List Nat} {vs : List Nat} (h : ∀ i ∈ is, i ∈ vs) : Within (gTup K is.length (gNames is)) vs := fun v σ H Q ⟨a, xs, e, h1, h2, q⟩ => ⟨a, xs, e, h1, h2, within_names vs σ is h xs σ H Q rfl q⟩
theorem sim_lc {K : PySem.W.Frag} {Wx : WX} {wi : TI} {ci : DI} {g : TG} {cg : DG} {tt : TT} {ct : DT} {te : TE} {ce : DE} {vs : List Nat} (hi : SimI K Wx wi ci) (hg : SimG K g cg) (hw : Within g vs) (ht : SimT K WF tt ct) (he : SimE K WF te ce) :
    SimR K Wx (tLc wi g tt te vs) (cLC ci cg ct ce vs) := by
  intro S W e σ H Q EQ Qv R hc q x
  refine hi S W e σ H _ EQ _ R hc (fun items e1 W1 J H1 s1 R1 it h1 => ?_) x
  intro D hD
  have hW1 : W1 D = none := sub_none R1.sub hD
  have h0 : S.H0 D = none := by
    cases z : S.H0 D with
    | none => rfl
    | some u => exact absurd hD (R1.there D (by rw [z]; simp))
  obtain ⟨R1', _⟩ := res_new (xs := []) (vs := []) R1 hD VRs.nil
  have noD : ∀ j b ys, gt e1 j = .ow b ys → σ[j]? ≠ some (some (.ref D)) := fun j b ys g z => by
    have r' := R1.slot j
    rw [g] at r'
    obtain ⟨p', vs', f1, f2, _⟩ := r'
    rw [z] at f1; cases f1
    rw [hD] at f2; cases f2
  have Rb := R1'.wipe vs
  have noDb : ∀ j b ys, gt (wipeE e1 vs) j = .ow b ys → (L2.wipe σ vs)[j]? ≠ some (some (.ref D)) := fun j b ys g z => by
    have r' := (R1.wipe vs).slot j
    rw [g] at r'
    obtain ⟨p', vs', f1, f2, _⟩ := r'
    rw [z] at f1; cases f1
    rw [hD] at f2; cases f2
  refine ⟨fun i m H' => m = items.length - i ∧ i ≤ items.length ∧ ∃ W' eb acc accv, Same W1 W' ∧ Rel K S W' eb (L2.wipe σ vs) H' ∧ H' D = some (.lst accv) ∧ W' D = none ∧ (∀ j b ys, gt eb j = .ow b ys → (L2.wipe σ vs)[j]? ≠ some (some (.ref D))) ∧ VRs K W' acc accv ∧
    compA cg ct ce vs (fun acc e2 => Q (.ow acc) (AL.unwipe e1 e2 vs)) (items.drop i) acc eb, ⟨items.length, by simp, Nat.zero_le _, W1, wipeE e1 vs, [], [], Same.refl _, Rb, upd_same, hW1, noDb, VRs.nil, h1⟩, fun i m H' hw' => ?_⟩
  obtain ⟨rfl, hle, W', eb, acc, accv, sW, R', d1, d2, d3, d4, hf⟩ := hw'
  by_cases hlt : i < items.length
  · have ha : items[i]? = some items[i] := List.getElem?_eq_getElem hlt
    rw [drop_get ha] at hf
    refine .inr ⟨it.go i H' (sW.trans R'.sub) hlt, fun H2 => ∃ W2 e2 acc2 accv2, Same W1 W2 ∧ Rel K S W2 e2 (L2.wipe σ vs) H2 ∧ H2 D = some (.lst accv2) ∧ W2 D = none ∧ (∀ j b ys, gt e2 j = .ow b ys → (L2.wipe σ vs)[j]? ≠ some (some (.ref D))) ∧ VRs K W2 acc2 accv2 ∧
      compA cg ct ce vs (fun acc e2 => Q (.ow acc) (AL.unwipe e1 e2 vs)) (items.drop (i + 1)) acc2 e2, fun H2 ⟨W2, e2, acc2, accv2, a1, a2, a3, a4, a5, a6, a7⟩ => ⟨items.length - (i + 1), by omega, rfl, hlt, W2, e2, acc2, accv2, a1, a2, a3, a4, a5, a6, a7⟩, fun x' H2 y => ?_⟩
    -- the turn runs with the new list under guard
    obtain ⟨W2, ex, rv⟩ := it.step sW R'.sub y ha
    have G := (R'.guard d1 d2 h0 d3).ext ex
    have s2 := ex.same R'.sub
    have wi : L2.wipe (L2.wipe σ vs) vs = L2.wipe σ vs := wipe_idem vs fun i hi => hi
    have hw2 := hw x' (L2.wipe σ vs) H2
    rw [wi] at hw2
    refine hw2 _ ?_
    refine hg (S.add D (.lst accv)) W2 eb (L2.wipe σ vs) H2 _ x' _ _ G rv hf fun e3 σ3 R3 h3 hwp => ?_
    have noX : ∀ {W4 σ4}, XOk K (S.add D (.lst accv)) WF W4 σ4 (fun _ _ => False) := fun _ _ _ _ _ _ _ _ _ z => z.elim
    -- the turn's end, at the block's slots
    have fin : ∀ {W4 e4 H4}, Same W2 W4 → Rel K (S.add D (.lst accv)) W4 e4 σ3 H4 → Rel K S W4 (wipeE e4 vs) (L2.wipe σ vs) H4 ∧ H4 D = some (.lst accv) ∧ W4 D = none ∧ (∀ j b ys, gt (wipeE e4 vs) j = .ow b ys → (L2.wipe σ vs)[j]? ≠ some (some (.ref D))) := fun {W4 e4 H4} s4 R4 => by
      have R5 := R4.wipe vs
      rw [hwp] at R5
      exact R5.unguard h0 R.w0 R.pinH
    refine ht (S.add D (.lst accv)) W2 e3 σ3 H2 _ _ _ R3 h3 (fun b e4 W4 H4 s4 R4 h4 => ?_) noX
    cases b with
    | false =>
      obtain ⟨f1, f2, f3, f4⟩ := fin s4 R4
      exact ⟨W4, wipeE e4 vs, acc, accv, sW.trans (s2.trans s4), f1, f2, f3, f4, VRs.mono (s2.trans s4) acc d4, h4⟩
    | true =>
      rw [if_pos rfl] at h4 ⊢
      refine he (S.add D (.lst accv)) W4 e4 σ3 H4 _ _ _ R4 h4 (fun y' e5 W5 v5 H5 s5 R5 r5 h5 => ?_) noX
      obtain ⟨hz, h5⟩ := h5
      obtain ⟨f1, f2, f3, f4⟩ := fin (s4.trans s5) R5
      have sm := s2.trans (s4.trans s5)
      refine ⟨accv, f2, by rw [d4.length]; exact hz, W5, wipeE e5 vs, acc ++ [y'], accv ++ [v5], sW.trans sm, f1.over (by rw [f2]; simp) f3 h0 f4, upd_same, f3, f4, (VRs.mono sm acc d4).append (VRs.cons r5 VRs.nil), h5⟩
  · have e0 : items.drop i = [] := List.drop_eq_nil_of_le (by omega)
    rw [e0] at hf
    refine .inl ⟨it.stop i H' (sW.trans R'.sub) (by omega), ?_⟩
    have R2 := Rel.unwipe R1 sW R'
    refine q (.ow acc) _ W' _ H' (s1.trans sW) R2 ⟨D, accv, rfl, d1, d4, d2, h0, fun j b ys gj z => ?_⟩ hf
    have hl : e1.length = eb.length := by rw [R1.len, R'.len, wipe_length]
    rw [unwipe_gt e1 eb hl vs j] at gj
    by_cases hm : j ∈ vs
    · rw [if_pos hm] at gj
      cases q' : gt e1 j <;> rw [q'] at gj <;> cases gj
    · rw [if_neg hm] at gj
      exact d3 j b ys gj (by rw [wipe_out hm]; exact z)
end AL
/-! AL9: the judgements' rules for statements, comprehensions, slices, built-ins; the rule for a def. -/
namespace AL
open PySem PySem.Spec PyProof.Rows L2

/-! ### targets -/
structure CG (X : Cx) (tg : Expr) (g : TG) (cg : DG) (vs : List Nat) : Prop where
  pg : PG X tg g
  sim : SimG X.K g cg
  win : Within g vs
section
variable {X : Cx} {pos : Pos} {vs : List Nat}
theorem cg_name (i : Nat) {x : Str} (hN : X.N.Nodup) (hv : vs.contains i = true := by rfl) (hi : X.N[i]? = some x := by rfl) (hx : Loc X.env.scope x := by first | exact Or.inl rfl | exact Or.inr rfl) (hf : X.fn x = true ∨ X.env.scope.names.lookup x = some .local := by first | exact .inl rfl | exact .inr rfl) :
    CG X (.Name x pos) (gName i) (gN i) vs := ⟨pg_name hN hi hx hf, sim_gN i, within_name (List.contains_iff_mem.mp hv)⟩
/-- a row of plain names -/
structure CGs (X : Cx) (es : List Expr) (is : List Nat) : Prop where
  pgs : PGs X es (gNames is)
theorem cgs_nil : CGs X [] [] := ⟨pgs_nil⟩
theorem cgs_cons (i : Nat) {x : Str} {es : List Expr} {is : List Nat} (hN : X.N.Nodup) (h : CGs X es is) (hi : X.N[i]? = some x := by rfl) (hx : Loc X.env.scope x := by first | exact Or.inl rfl | exact Or.inr rfl) (hf : X.fn x = true ∨ X.env.scope.names.lookup x = some .local := by first | exact .inl rfl | exact .inr rfl)
    (hs : (assignEach (.Name x pos :: es) X.env).map (·.2) = assign (.Name x pos) X.env :: (assignEach es X.env).map (·.2) := by rfl) : CGs X (.Name x pos :: es) (i :: is) := ⟨pgs_cons (pg_name hN hi hx hf) h.pgs hs⟩
theorem cg_tup {es : List Expr} {k : Nat} {is : List Nat} (hc : X.calm = true) (h : CGs X es is) (hv : (is.all fun i => vs.contains i) = true := by rfl) (hn : (assignEach es X.env).length = is.length := by rfl) (hst : (assignEach es X.env).findIdx? (·.1) = none := by rfl) :
    CG X (.Tuple es k pos) (gTup X.K is.length (gNames is)) (gT is) vs := ⟨pg_tup hc h.pgs hn hst, sim_gT is, within_tup fun i hi => List.contains_iff_mem.mp (List.all_eq_true.mp hv i hi)⟩
end
/-! ### comprehensions -/
structure CTs (X : Cx) (Wx : WX) (ifs : List Expr) (t : TT) (c : DT) : Prop where
  pts : PTs X ifs t
  sim : SimT X.K Wx t c
def cYes : DT := fun e Q _ => Q true e
section
variable {X : Cx} {Wx : WX}
theorem cts_nil : CTs X Wx [] tYes cYes := ⟨pts_nil, fun S W e σ H Q EQ Qv R h q x => q true e W H (Same.refl _) R h⟩
theorem cts_one {a : Expr} {t : TT} {c : DT} (h : CT X Wx a t c) : CTs X Wx [a] t c := ⟨pts_one h.pt, h.sim⟩
abbrev s0 : Shared := {}
theorem cr_lc {elt tg iter : Expr} {ifs : List Expr} {scope : Scope} {pos: Pos} {wi : TI} {ci : DI} {g : Shared → Hp → Addr → List (Str × Addr) → List Addr → TG} {cg : DG} {tt : Shared → Hp → Addr → List (Str × Addr) → List Addr → TT} {ct : DT} {te : Shared → Hp → Addr → List (Str × Addr) → List Addr → TE} {ce : DE} (own : List (Str × Nat)) (hc : X.calm = true) (hN : X.N.Nodup) (hi : CI X Wx tg iter wi ci) (ok : BlkOk X.N X.env.scope scope own)
    (hg : ∀ (s : Shared) (H : Hp) (C : Addr) (cl : List (Str × Addr)) (fp : List Addr), CG (X.blk s H scope (compEnvC scope cl C X.env) fp) tg (g s H C cl fp) cg (own.map (·.2))) (ht : ∀ (s : Shared) (H : Hp) (C : Addr) (cl : List (Str × Addr)) (fp : List Addr), CTs (X.blk s H scope (compEnvC scope cl C X.env) fp) WF ifs (tt s H C cl fp) ct)
    (he : ∀ (s : Shared) (H : Hp) (C : Addr) (cl : List (Str × Addr)) (fp : List Addr), CV (X.blk s H scope (compEnvC scope cl C X.env) fp) WF elt (te s H C cl fp) ce)
    (eg : ∀ (s : Shared) (H : Hp) (C : Addr) (cl : List (Str × Addr)) (fp : List Addr), g s H C cl fp = g s0 (fun _ => none) 0 [] [] := by intros; rfl) (et : ∀ (s : Shared) (H : Hp) (C : Addr) (cl : List (Str × Addr)) (fp : List Addr), tt s H C cl fp = tt s0 (fun _ => none) 0 [] [] := by intros; rfl) (ee : ∀ (s : Shared) (H : Hp) (C : Addr) (cl : List (Str × Addr)) (fp : List Addr), te s H C cl fp = te s0 (fun _ => none) 0 [] [] := by intros; rfl) (hs : ∀ x, foldedSetIterable iter X.env x = pure x := by intro _; rfl) :
    CRs X Wx (.ListComp elt [⟨tg, iter, ifs, 0⟩] scope pos) (tLc wi (g s0 (fun _ => none) 0 [] []) (tt s0 (fun _ => none) 0 [] []) (te s0 (fun _ => none) 0 [] []) (own.map (·.2))) (cLC ci cg ct ce (own.map (·.2))) :=
  ⟨pe_lc hc hN hi.pi ok (fun s H C cl fp => by rw [← eg s H C cl fp]; exact (hg s H C cl fp).pg) (fun s H C cl fp => by rw [← et s H C cl fp]; exact (ht s H C cl fp).pts) (fun s H C cl fp => by rw [← ee s H C cl fp]; exact (he s H C cl fp).pe) hs, sim_lc hi.sim (hg s0 (fun _ => none) 0 [] []).sim (hg s0 (fun _ => none) 0 [] []).win (ht s0 (fun _ => none) 0 [] []).sim (he s0 (fun _ => none) 0 [] []).sim⟩
theorem cs_setLc (i : Nat) {y : Str} {py : Pos} {elt tg iter : Expr} {ifs : List Expr} {scope : Scope} {pos spos : Pos} {wi : TI} {ci : DI} {g : Shared → Hp → Addr → List (Str × Addr) → List Addr → TG} {cg : DG} {tt : Shared → Hp → Addr → List (Str × Addr) → List Addr → TT} {ct : DT} {te : Shared → Hp → Addr → List (Str × Addr) → List Addr → TE} {ce : DE} (own : List (Str × Nat)) (hc : X.calm = true) (hN : X.N.Nodup) (hi : CI X Wx tg iter wi ci) (ok : BlkOk X.N X.env.scope scope own)
    (hg : ∀ (s : Shared) (H : Hp) (C : Addr) (cl : List (Str × Addr)) (fp : List Addr), CG (X.blk s H scope (compEnvC scope cl C X.env) fp) tg (g s H C cl fp) cg (own.map (·.2))) (ht : ∀ (s : Shared) (H : Hp) (C : Addr) (cl : List (Str × Addr)) (fp : List Addr), CTs (X.blk s H scope (compEnvC scope cl C X.env) fp) WF ifs (tt s H C cl fp) ct)
    (he : ∀ (s : Shared) (H : Hp) (C : Addr) (cl : List (Str × Addr)) (fp : List Addr), CV (X.blk s H scope (compEnvC scope cl C X.env) fp) WF elt (te s H C cl fp) ce)
    (eg : ∀ (s : Shared) (H : Hp) (C : Addr) (cl : List (Str × Addr)) (fp : List Addr), g s H C cl fp = g s0 (fun _ => none) 0 [] [] := by intros; rfl) (et : ∀ (s : Shared) (H : Hp) (C : Addr) (cl : List (Str × Addr)) (fp : List Addr), tt s H C cl fp = tt s0 (fun _ => none) 0 [] [] := by intros; rfl) (ee : ∀ (s : Shared) (H : Hp) (C : Addr) (cl : List (Str × Addr)) (fp : List Addr), te s H C cl fp = te s0 (fun _ => none) 0 [] [] := by intros; rfl) (hs : ∀ x, foldedSetIterable iter X.env x = pure x := by intro _; rfl)
    (hy : X.N[i]? = some y := by rfl) (hyl : X.env.scope.names.lookup y = some .local := by rfl) (hsw : swapsWith (.ListComp elt [⟨tg, iter, ifs, 0⟩] scope pos) (some (.Name y py)) spos.line X.env = pure true := by exact sw_true rfl rfl rfl (by decide +kernel)) :
    CS X Wx (.Assign [.Name y py] (.ListComp elt [⟨tg, iter, ifs, 0⟩] scope pos) spos) (tAsg (tLc wi (g s0 (fun _ => none) 0 [] []) (tt s0 (fun _ => none) 0 [] []) (te s0 (fun _ => none) 0 [] []) (own.map (·.2))) (gName i)) (cSet i (cLC ci cg ct ce (own.map (·.2)))) :=
  ⟨ps_setLc hc hN hy hyl hsw hi.pi ok (fun s H C cl fp => by rw [← eg s H C cl fp]; exact (hg s H C cl fp).pg) (fun s H C cl fp => by rw [← et s H C cl fp]; exact (ht s H C cl fp).pts) (fun s H C cl fp => by rw [← ee s H C cl fp]; exact (he s H C cl fp).pe) hs, sim_set i (sim_lc hi.sim (hg s0 (fun _ => none) 0 [] []).sim (hg s0 (fun _ => none) 0 [] []).win (ht s0 (fun _ => none) 0 [] []).sim (he s0 (fun _ => none) 0 [] []).sim)⟩
end
/-! ### x, y = a, b: new lists stay one's own -/
def cParR (i j : Nat) (c1 c2 : DR) : DS := fun AD EQ e => c1 e (fun r1 e1 => c2 e1 (fun r2 e2 => AD.nx (pt (pt e2 i r1.slot) j r2.slot)) EQ) EQ
theorem pt_sh_ow {e : Ev} {i l : Nat} {a : A} {b : Bool} {ys : List A} (g : gt (pt e i (.sh a)) l = .ow b ys) : i ≠ l ∧ gt e l = .ow b ys := by
  by_cases h : i = l
  · subst h
    by_cases hl : i < e.length
    · rw [gt_pt_same hl] at g; cases g
    · have := gt_lt (e := pt e i (.sh a)) (i := i) (by rw [g]; simp)
      rw [pt_length] at this
      exact absurd this hl
  · rw [gt_pt_ne h] at g; exact ⟨h, g⟩
theorem ResR.setSh {K : PySem.W.Frag} {S : Fx} {W H : Hp} {e : Ev} {σ : L2.St} {r : Res} {v u : V} {a : A} {i : Nat} (h : ResR K S W e σ H r v) : ResR K S W (pt e i (.sh a)) (σ.set i (some u)) H r v := by
  cases r with
  | sh b => exact h
  | ow xs =>
    obtain ⟨p, vs, rfl, h1, h2, h3, h4, h5⟩ := h
    refine ⟨p, vs, rfl, h1, h2, h3, h4, fun l b ys g => ?_⟩
    obtain ⟨hne, g'⟩ := pt_sh_ow g
    rw [getset_ne hne]
    exact h5 l b ys g'
theorem sim_parR {K : PySem.W.Frag} {Wx : WX} {t1 t2 : TE} {c1 c2 : DR} (i j : Nat) (h1 : SimR K Wx t1 c1) (h2 : SimR K Wx t2 c2) : SimS K Wx (tPar i j (tCons t1 (tCons t2 tNil))) (cParR i j c1 c2) := by
  intro S W e σ H AD EQ D R hc o
  refine h1 S W e σ H _ EQ _ R hc (fun r1 e1 W1 v H1 s1 R1 rr1 q1 => ?_) (o.xc σ)
  cases r1 with
  | sh a =>
    refine h2 S W1 e1 σ H1 _ EQ _ R1 q1 (fun r2 e2 W2 w H2 s2 R2 rr2 q2 => ?_) ((o.xc σ).mono s1)
    exact ⟨v, w, rfl, o.nx _ W2 _ H2 (s1.trans s2) ((R2.setSh' (VR.mono s2 a rr1)).setRes rr2.setSh) q2⟩
  | ow xs =>
    obtain ⟨p, vs, rfl, hp, hv, hw, h0, hn⟩ := rr1
    have G := R1.guard hp hw h0 hn
    refine h2 (S.add p (.lst vs)) W1 e1 σ H1 _ EQ _ G q1 (fun r2 e2 W2 w H2 s2 R2 rr2 q2 => ?_) fun x e' W' cls d H' s' R' xr q => o.xc σ x e' W' cls d H' (s1.trans s') (R'.unguard h0 R.w0 R.pinH).1 xr q
    obtain ⟨R3, k1, k2, k3⟩ := R2.unguard h0 R.w0 R.pinH
    refine ⟨.ref p, w, rfl, o.nx _ W2 _ H2 (s1.trans s2) ?_ q2⟩
    have A1 := R3.setOw' (i := i) ⟨p, vs, rfl, k1, VRs.mono s2 _ hv, k2, h0, k3⟩
    cases r2 with
    | sh b => exact A1.setSh' rr2
    | ow ys =>
      obtain ⟨p2, ws, rfl, m1, m2, m3, m4, m5⟩ := rr2
      have hne : p2 ≠ p := fun z => by
        subst z
        rw [show (S.add p2 (.lst vs)).H0 p2 = some (.lst vs) from upd_same] at m4; cases m4
      have m4 : S.H0 p2 = none := by rw [← m4]; exact (upd_ne hne).symm
      refine A1.setOw' ⟨p2, ws, rfl, m1, m2, m3, m4, fun l b zs g => ?_⟩
      by_cases hl : i = l
      · subst hl
        have hi : i < (pt e2 i (.ow false xs)).length := gt_lt (by rw [g]; simp)
        rw [pt_length] at hi
        rw [getset_same (by rw [← R2.len]; exact hi)]
        intro z; cases z; exact hne rfl
      · rw [gt_pt_ne hl] at g
        rw [getset_ne hl]
        exact m5 l b zs g
/-! ### statements -/
section
variable {X : Cx} {Wx : WX} {pos : Pos} {ex ei : Expr} {te ti : TE} {ce ci : DE} {cr : DR} {st : Stmt} {rest : List Stmt} {t u : TS} {c d : DS}
theorem css_nil : CSs X Wx [] tNext cNext := ⟨pss_nil, sim_next⟩
theorem css_cons (h1 : CS X Wx st t c) (h2 : CSs X Wx rest u d) : CSs X Wx (st :: rest) (tSeq t u) (cSeq c d) := ⟨pss_cons h1.ps h2.ps, sim_seq h1.sim h2.sim⟩
theorem css_one (h1 : CS X Wx st t c) : CSs X Wx [st] t c := ⟨pss_one h1.ps, h1.sim⟩
theorem cs_pass : CS X Wx (.Pass pos) tNext cNext := ⟨ps_pass, sim_next⟩
theorem cs_break : CS X Wx (.Break pos) tBreak cBreak := ⟨ps_break, sim_break⟩
theorem cs_continue : CS X Wx (.Continue pos) tCont cCont := ⟨ps_continue, sim_cont⟩
theorem cs_set (i : Nat) {x : Str} {pos' : Pos} (hN : X.N.Nodup) (h : CRs X Wx ex te cr) (hi : X.N[i]? = some x := by rfl) (hx : Loc X.env.scope x := by first | exact Or.inl rfl | exact Or.inr rfl) (hs : swapsWith ex (some (.Name x pos')) pos.line X.env = pure false := by rfl) (hf : X.fn x = true ∨ X.env.scope.names.lookup x = some .local := by first | exact .inl rfl | exact .inr rfl) :
    CS X Wx (.Assign [.Name x pos'] ex pos) (tAsg te (gName i)) (cSet i cr) := ⟨ps_set hN hi hx h.pe hs hf, sim_set i h.sim⟩
theorem cs_asg {tg : Expr} {g : TG} {cg : DG} {vs : List Nat} (h : CV X Wx ex te ce) (hg : CG X tg g cg vs) (hs : swapsWithSole [tg] ex pos.line X.env = pure false := by rfl) (hw : swappedStores [tg] ex X.env = pure none := by rfl) (h1 : (assignEach [tg] X.env).map (·.2) = [assign tg X.env] := by rfl) :
    CS X Wx (.Assign [tg] ex pos) (tAsg te g) (cAsg ce cg) := ⟨ps_asg h.pe hg.pg hs hw h1, sim_asg h.sim hg.sim⟩
theorem cs_par (i j : Nat) {x y : Str} {a b : Expr} {ta tb : TE} {ca cb : DE} {px py pt pt2 : Pos} {kt k2 : Nat} (hc : X.calm = true) (hN : X.N.Nodup) (ha : CV X Wx a ta ca) (hb : CV X Wx b tb cb) (hi : X.N[i]? = some x := by rfl) (hj : X.N[j]? = some y := by rfl) (hij : i ≠ j := by decide)
    (hx : X.env.scope.names.lookup x = some .local := by rfl) (hy : X.env.scope.names.lookup y = some .local := by rfl) (hw : swappedStores [.Tuple [.Name x px, .Name y py] kt pt] (.Tuple [a, b] k2 pt2) X.env = pure (some [x, y]) := by rfl)
    (hs : swapsWithSole [.Tuple [.Name x px, .Name y py] kt pt] (.Tuple [a, b] k2 pt2) pos.line X.env = pure false := by rfl) (s1 : starEach [a, b] X.env = (false, eval a X.env) :: starEach [b] X.env := by rfl) (s2 : starEach [b] X.env = (false, eval b X.env) :: starEach [] X.env := by rfl) :
    CS X Wx (.Assign [.Tuple [.Name x px, .Name y py] kt pt] (.Tuple [a, b] k2 pt2) pos) (tPar i j (tCons ta (tCons tb tNil))) (cPar i j ca cb) :=
  ⟨ps_par hc hN hi hj hij hx hy (pa_cons ha.pe (pa_cons hb.pe pa_nil s2) s1) hw hs, sim_par i j ha.sim hb.sim⟩
theorem cs_parR (i j : Nat) {x y : Str} {a b : Expr} {ta tb : TE} {ca cb : DR} {px py pt pt2 : Pos} {kt k2 : Nat} (hc : X.calm = true) (hN : X.N.Nodup) (ha : CRs X Wx a ta ca) (hb : CRs X Wx b tb cb) (hi : X.N[i]? = some x := by rfl) (hj : X.N[j]? = some y := by rfl) (hij : i ≠ j := by decide)
    (hx : X.env.scope.names.lookup x = some .local := by rfl) (hy : X.env.scope.names.lookup y = some .local := by rfl) (hw : swappedStores [.Tuple [.Name x px, .Name y py] kt pt] (.Tuple [a, b] k2 pt2) X.env = pure (some [x, y]) := by rfl)
    (hs : swapsWithSole [.Tuple [.Name x px, .Name y py] kt pt] (.Tuple [a, b] k2 pt2) pos.line X.env = pure false := by rfl) (s1 : starEach [a, b] X.env = (false, eval a X.env) :: starEach [b] X.env := by rfl) (s2 : starEach [b] X.env = (false, eval b X.env) :: starEach [] X.env := by rfl) :
    CS X Wx (.Assign [.Tuple [.Name x px, .Name y py] kt pt] (.Tuple [a, b] k2 pt2) pos) (tPar i j (tCons ta (tCons tb tNil))) (cParR i j ca cb) :=
  ⟨ps_par hc hN hi hj hij hx hy (pa_cons ha.pe (pa_cons hb.pe pa_nil s2) s1) hw hs, sim_parR i j ha.sim hb.sim⟩
theorem cs_ret (h : CRs X Wx ex te cr) : CS X Wx (.Return (some ex) pos) (tRet te) (cRet cr) := ⟨ps_ret h.pe, sim_ret h.sim⟩
theorem cs_retN : CS X Wx (.Return none pos) tRetN cRetN := ⟨ps_retN, sim_retN⟩
theorem cs_expr (h : CRs X Wx ex te cr) (hs : swapsWith ex none pos.line X.env = pure false := by rfl) : CS X Wx (.Expr ex pos) (tDrop te) (cExpr cr) := ⟨ps_expr h.pe hs, sim_expr h.sim⟩
theorem cs_if {q : Expr} {tq : TT} {cq : DT} {a b : List Stmt} (hq : CT X Wx q tq cq) (ha : CSs X Wx a t c) (hb : CSs X Wx b u d) : CS X Wx (.If q a b pos) (tIfS tq t u) (cIf cq c d) := ⟨ps_if hq.pt ha.ps hb.ps, sim_if hq.sim ha.sim hb.sim⟩
theorem cs_for {tg iter : Expr} {body : List Stmt} {wi : TI} {cit : DI} {g : TG} {cg : DG} {vs : List Nat} (hp : PassesOwn (model X.prog X.w) X.A X.env X.xe) (hc : X.calm = true) (hi : CI X Wx tg iter wi cit) (hg : CG X tg g cg vs) (hb : CSs X Wx body t c)
    (hs : ∀ x, foldedSetIterable iter X.env x = pure x := by intro _; rfl) : CS X Wx (.For tg iter body [] pos) (tFor wi g t) (cFor cit cg c) := ⟨ps_for hp hc hi.pi hg.pg hb.ps hs, sim_for hi.sim hg.sim hb.sim⟩
theorem cs_while {q : Expr} {tq : TT} {cq : DT} {body : List Stmt} (hp : PassesOwn (model X.prog X.w) X.A X.env X.xe) (hq : CT X Wx q tq cq) (hb : CSs X Wx body t c) : CS X Wx (.While q body [] pos) (tWhile tq t) (cWhile cq c) := ⟨ps_while hp hq.pt hb.ps, sim_while hq.sim hb.sim⟩
theorem cs_aug (i : Nat) {x : Str} {pos' : Pos} (hN : X.N.Nodup) (h : CV X Wx ex te ce) (hi : X.N[i]? = some x := by rfl) (hx : Loc X.env.scope x := by first | exact Or.inl rfl | exact Or.inr rfl) (hf : X.fn x = true ∨ X.env.scope.names.lookup x = some .local := by first | exact .inl rfl | exact .inr rfl) :
    CS X Wx (.AugAssign (.Name x pos') .Add ex pos) (tAug i te (ipI fun i j => i + j)) (cAug i ce) := ⟨ps_aug hN hi hx h.pe ip_add hf, sim_aug i h.sim⟩
theorem cs_setIx (i : Nat) {x : Str} {p tpos : Pos} (h : CV X Wx ex te ce) (hx : CV X Wx ei ti ci) (hN : X.N[i]? = some x := by rfl) (hv : Vis X.env.scope x := by first | exact Or.inl rfl | exact Or.inr (Or.inl rfl) | exact Or.inr (Or.inr rfl)) (hd : (x == ("__debug__" : Str)) = false := by decide)
    (hcd : (x == ("__classdict__" : Str)) = false := by decide) (ha : ∀ v, assign (.Subscript (.Name x p) ei tpos) X.env v = (do
      let ov ← holding [v] (eval (.Name x p) X.env)
      let iv ← holding [v, ov] (eval ei X.env)
      standAt tpos
      holding [v, ov, iv] (setItem ov iv v)
      release [v, ov, iv] []) := by intro _; rfl) (hs : swapsWithSole [.Subscript (.Name x p) ei tpos] ex pos.line X.env = pure false := by rfl) (hw : swappedStores [.Subscript (.Name x p) ei tpos] ex X.env = pure none := by rfl) (h1 : (assignEach [.Subscript (.Name x p) ei tpos] X.env).map (·.2) = [assign (.Subscript (.Name x p) ei tpos) X.env] := by rfl) :
    CS X Wx (.Assign [.Subscript (.Name x p) ei tpos] ex pos) (tAsg te (gSub (tVar i) ti rSetL)) (cSetIx i ce ci) :=
  ⟨ps_asg h.pe (pg_sub (pe_var hN hv hd hcd) hx.pe set_list ha) hs hw h1, sim_setIx i h.sim hx.sim⟩
theorem cs_augIx (i : Nat) {x : Str} {p tpos : Pos} (hx : CV X Wx ei ti ci) (h : CV X Wx ex te ce) (hN : X.N[i]? = some x := by rfl) (hv : Vis X.env.scope x := by first | exact Or.inl rfl | exact Or.inr (Or.inl rfl) | exact Or.inr (Or.inr rfl)) (hd : (x == ("__debug__" : Str)) = false := by decide)
    (hcd : (x == ("__classdict__" : Str)) = false := by decide) (ha : ∀ ov iv new, augStore ei ov iv new = (do holding [new, ov, iv] (setItem ov iv new); release [new, ov, iv] []; pure .next) := by intros; rfl) :
    CS X Wx (.AugAssign (.Subscript (.Name x p) ei tpos) .Add ex pos) (tAugS (tVar i) ti te (rGetL X.K) (ipI fun i j => i + j) rSetL) (cAugIx i ci ce) :=
  ⟨ps_augS (pe_var hN hv hd hcd) hx.pe get_list h.pe ip_add set_list ha, sim_augIx i hx.sim h.sim⟩
end
/-! ### methods of lists -/
section
variable {X : Cx} {Wx : WX} {e : Expr} {te : TE} {c : DE} {x : Str} {p apos cpos : Pos}
theorem cv_app (i : Nat) (h : CV X Wx e te c) (hN : X.N[i]? = some x := by rfl) (hv : Vis X.env.scope x := by first | exact Or.inl rfl | exact Or.inr (Or.inl rfl) | exact Or.inr (Or.inr rfl)) (hd : (x == ("__debug__" : Str)) = false := by decide) (hcd : (x == ("__classdict__" : Str)) = false := by decide)
    (hs : starEach [e] X.env = (false, eval e X.env) :: starEach [] X.env := by rfl)
    (hbase : attributeBase (.Name x p) "append" X.env (eval (.Name x p) X.env) = eval (.Name x p) X.env := by rfl)
    (hfew : ((backTo cpos (starEach (e :: []) X.env)).all (fun x => !x.1) && (backToKw cpos (keywordEach [] X.env)).all (fun x => x.1.isSome) && decide ((e :: ([] : List Expr)).length + ([] : List Keyword).length + (if ([] : List Keyword).isEmpty then 0 else 1) < 30)) = true := by rfl)
    (hline : (apos.endLine == cpos.line) = true := by rfl) (hplain : (backTo cpos (starEach ([] : List Expr) X.env)).any (·.1) = false := by rfl) :
    CV X Wx (.Call (.Attribute (.Name x p) "append" apos) [e] [] cpos) (tBM X.K "list" rAppend (tVar i) (tCons te tNil)) (cApp i c) :=
  ⟨pe_bm PySem.F.plainAttrs_list PySem.F.slot_list_append PySem.F.type_list_append mt_append (pe_var hN hv hd hcd) (pa_cons h.pe pa_nil hs) hbase hfew hline hs hplain, sim_app i h.sim⟩
theorem cv_ext (i : Nat) (h : CV X Wx e te c) (hN : X.N[i]? = some x := by rfl) (hv : Vis X.env.scope x := by first | exact Or.inl rfl | exact Or.inr (Or.inl rfl) | exact Or.inr (Or.inr rfl)) (hd : (x == ("__debug__" : Str)) = false := by decide) (hcd : (x == ("__classdict__" : Str)) = false := by decide)
    (hs : starEach [e] X.env = (false, eval e X.env) :: starEach [] X.env := by rfl)
    (hbase : attributeBase (.Name x p) "extend" X.env (eval (.Name x p) X.env) = eval (.Name x p) X.env := by rfl)
    (hfew : ((backTo cpos (starEach (e :: []) X.env)).all (fun x => !x.1) && (backToKw cpos (keywordEach [] X.env)).all (fun x => x.1.isSome) && decide ((e :: ([] : List Expr)).length + ([] : List Keyword).length + (if ([] : List Keyword).isEmpty then 0 else 1) < 30)) = true := by rfl)
    (hline : (apos.endLine == cpos.line) = true := by rfl) (hplain : (backTo cpos (starEach ([] : List Expr) X.env)).any (·.1) = false := by rfl) :
    CV X Wx (.Call (.Attribute (.Name x p) "extend" apos) [e] [] cpos) (tBM X.K "list" rExtend (tVar i) (tCons te tNil)) (cExt i c) :=
  ⟨pe_bm PySem.F.plainAttrs_list PySem.F.slot_list_extend PySem.F.type_list_extend mt_extend (pe_var hN hv hd hcd) (pa_cons h.pe pa_nil hs) hbase hfew hline hs hplain, sim_ext i h.sim⟩
theorem cv_popAt (i : Nat) (h : CV X Wx e te c) (hN : X.N[i]? = some x := by rfl) (hv : Vis X.env.scope x := by first | exact Or.inl rfl | exact Or.inr (Or.inl rfl) | exact Or.inr (Or.inr rfl)) (hd : (x == ("__debug__" : Str)) = false := by decide) (hcd : (x == ("__classdict__" : Str)) = false := by decide)
    (hs : starEach [e] X.env = (false, eval e X.env) :: starEach [] X.env := by rfl)
    (hbase : attributeBase (.Name x p) "pop" X.env (eval (.Name x p) X.env) = eval (.Name x p) X.env := by rfl)
    (hfew : ((backTo cpos (starEach (e :: []) X.env)).all (fun x => !x.1) && (backToKw cpos (keywordEach [] X.env)).all (fun x => x.1.isSome) && decide ((e :: ([] : List Expr)).length + ([] : List Keyword).length + (if ([] : List Keyword).isEmpty then 0 else 1) < 30)) = true := by rfl)
    (hline : (apos.endLine == cpos.line) = true := by rfl) (hplain : (backTo cpos (starEach ([] : List Expr) X.env)).any (·.1) = false := by rfl) :
    CV X Wx (.Call (.Attribute (.Name x p) "pop" apos) [e] [] cpos) (tBM X.K "list" rPopAt (tVar i) (tCons te tNil)) (cPopAt i c) :=
  ⟨pe_bm PySem.F.plainAttrs_list PySem.F.slot_list_pop PySem.F.type_list_pop mt_popAt (pe_var hN hv hd hcd) (pa_cons h.pe pa_nil hs) hbase hfew hline hs hplain, sim_popAt i h.sim⟩
end
end AL
/-! AL10: built-ins, slices. -/
namespace AL
open PySem PySem.Spec PyProof.Rows L2

/-! ### slices -/
abbrev DO := Ev → (Option Int → Ev → Prop) → XQ → Prop
def SimO (K : PySem.W.Frag) (Wx : WX) (t : TO) (c : DO) : Prop := ∀ (S : Fx) (W : Hp) (e : Ev) (σ : L2.St) (H : Hp) (Q : Option Int → Ev → Prop) (EQ : XQ) (Qv : Option Int → Hp → Prop), Rel K S W e σ H → c e Q EQ →
  (∀ o e' W' H', Same W W' → Rel K S W' e' σ H' → Q o e' → Qv o H') → XOk K S Wx W σ EQ → t σ H Qv
structure CO (X : Cx) (Wx : WX) (e : Option Expr) (t : TO) (c : DO) : Prop where
  po : PO X e t
  sim : SimO X.K Wx t c
def cNoP : DO := fun e Q _ => Q none e
def cPart (c : DE) : DO := fun e Q EQ => c e (fun a e1 => match a with
  | .int i => Q (some i) e1
  | _ => False) EQ
def cutA (xs : List A) (lo hi : Option Int) : List A := (xs.drop (HT.sIx xs.length 0 lo)).take (HT.sIx xs.length xs.length hi - HT.sIx xs.length 0 lo)
def cSl (c : DE) (cl ch : DO) : DE := fun e Q EQ => c e (fun a e1 => cl e1 (fun lo e2 => ch e2 (fun hi e3 => match a with
  | .tup xs => Q (.tup (cutA xs lo hi)) e3
  | .lst xs => Q (.lst (cutA xs lo hi)) e3
  | _ => False) EQ) EQ) EQ
def rSl (K : PySem.W.Frag) : V → Option Int → Option Int → Hp → VK → Prop := fun x lo hi H Q => rSlA K x lo hi H Q ∨ rSlL K x lo hi H Q
theorem cut_VRs {K : PySem.W.Frag} {W : Hp} {xs : List A} {vs : List V} (r : VRs K W xs vs) (lo hi : Option Int) : VRs K W (cutA xs lo hi) (cutV vs lo hi) := by
  unfold cutA cutV
  rw [r.length]
  exact (r.drop _).take _
section
variable {X : Cx} {Wx : WX} {e : Expr} {te : TE} {c : DE} {lo hi : Option Expr} {tl th : TO} {cl ch : DO} {pos p2 : Pos}
theorem co_none : CO X Wx none tNoPart cNoP := ⟨po_none, fun S W e σ H Q EQ Qv R h q x => q none e W H (Same.refl _) R h⟩
theorem co_some (h : CV X Wx e te c) : CO X Wx (some e) (tPart te) (cPart c) := by
  refine ⟨po_some h.pe, fun S W e σ H Q EQ Qv R hc q x => ?_⟩
  refine h.sim S W e σ H _ EQ _ R hc (fun a e1 W1 v H1 s1 R1 r1 h1 => ?_) x
  cases a with
  | int i => exact ⟨i, r1, q (some i) e1 W1 H1 s1 R1 h1⟩
  | _ => exact h1.elim
theorem cv_slice (he : CV X Wx e te c) (hl : CO X Wx lo tl cl) (hh : CO X Wx hi th ch) : CV X Wx (.Subscript e (.Slice lo hi none p2) pos) (tSl (rSl X.K) te tl th) (cSl c cl ch) := by
  refine ⟨pe_slice (sl_tupA.or sl_list) he.pe hl.po hh.po, fun S W e σ H Q EQ Qv R hc q x => ?_⟩
  refine he.sim S W e σ H _ EQ _ R hc (fun a e1 W1 v H1 s1 R1 r1 h1 => ?_) x
  refine hl.sim S W1 e1 σ H1 _ EQ _ R1 h1 (fun l e2 W2 H2 s2 R2 h2 => ?_) (x.mono s1)
  refine hh.sim S W2 e2 σ H2 _ EQ _ R2 h2 (fun u e3 W3 H3 s3 R3 h3 => ?_) (x.mono (s1.trans s2))
  have sm := s1.trans (s2.trans s3)
  cases a with
  | tup xs =>
    obtain ⟨p, vs, rfl, k1, k2⟩ := VR.mono (s2.trans s3) _ r1
    refine .inl ⟨p, vs, rfl, SqT.mono R3.sub k1, fun hw => ?_, fun hw z hz => ?_⟩
    · have e0 : cutA xs l u = xs := by
        unfold cutA
        rw [k2.length] at hw
        rw [hw.1, hw.2]
        simp
      have h3 : Q (.tup (cutA xs l u)) e3 := h3
      rw [e0] at h3
      exact q (.tup xs) e3 W3 _ H3 sm R3 ⟨p, vs, rfl, k1, k2⟩ h3
    · have ex : Ext W3 H3 (upd W3 z (.tup (cutV vs l u))) (upd H3 z (.tup (cutV vs l u))) := .inr ⟨z, _, hz, rfl, rfl⟩
      exact q (.tup (cutA xs l u)) e3 _ _ _ (sm.trans (ex.same R3.sub)) (R3.ext ex) ⟨z, _, rfl, .inl (.inl upd_same), VRs.mono (ex.same R3.sub) _ (cut_VRs k2 l u)⟩ h3
  | lst xs =>
    obtain ⟨p, vs, rfl, k1, k2⟩ := VR.mono (s2.trans s3) _ r1
    refine .inr ⟨p, vs, rfl, .inl (.inl (R3.sub _ _ k1)), fun z hz => ?_⟩
    have ex : Ext W3 H3 (upd W3 z (.lst (cutV vs l u))) (upd H3 z (.lst (cutV vs l u))) := .inr ⟨z, _, hz, rfl, rfl⟩
    exact q (.lst (cutA xs l u)) e3 _ _ _ (sm.trans (ex.same R3.sub)) (R3.ext ex) ⟨z, _, rfl, upd_same, VRs.mono (ex.same R3.sub) _ (cut_VRs k2 l u)⟩ h3
  | _ => exact h3.elim
end

/-! ### built-ins of one argument (looked at) and of several -/
def SimC1 (K : PySem.W.Frag) (r : List V → Hp → VK → Prop) (f : A → (A → Prop) → Prop) : Prop := ∀ (W H : Hp) (a : A) (v : V) (P : A → Prop) (Qv : VK), Same W H → PR K W H a v → f a P →
  (∀ z W' u H', Ext W H W' H' → VR K W' z u → P z → Qv u H') → r [v] H Qv
def SimC (K : PySem.W.Frag) (r : List V → Hp → VK → Prop) (f : List A → (A → Prop) → Prop) : Prop := ∀ (W H : Hp) (xs : List A) (vs : List V) (P : A → Prop) (Qv : VK), Same W H → VRs K W xs vs → f xs P →
  (∀ z W' u H', Ext W H W' H' → VR K W' z u → P z → Qv u H') → r vs H Qv
def cCBn (f : List A → (A → Prop) → Prop) (cs : List DE) : DE := fun e Q EQ => evL cs e (fun xs e1 => f xs fun z => Q z e1) EQ
section
variable {K : PySem.W.Frag} {Wx : WX}
theorem sim_c1 {r : List V → Hp → VK → Prop} {f : A → (A → Prop) → Prop} {t : TE} {c : DE} (hf : SimC1 K r f) (h : SimP K Wx t c) : SimE K Wx (tCB r (tCons t tNil)) (cUn f c) := by
  intro S W e σ H Q EQ Qv R hc q x
  refine h S W e σ H _ EQ _ R hc (fun a e1 W1 v H1 s1 R1 r1 h1 => ?_) x
  exact hf W1 H1 a v _ _ R1.sub r1 h1 fun z W3 u H3 ex rz pz => q z e1 W3 u H3 (s1.trans (ex.same R1.sub)) (R1.ext ex) rz pz
theorem sim_cn {r : List V → Hp → VK → Prop} {f : List A → (A → Prop) → Prop} {t : TA} {cs : List DE} (hf : SimC K r f) (h : SimL K Wx t cs) : SimE K Wx (tCB r t) (cCBn f cs) := by
  intro S W e σ H Q EQ Qv R hc q x
  refine h S W e σ H _ EQ _ R hc (fun xs e1 W1 vs H1 s1 R1 r1 l1 h1 => ?_) x
  exact hf W1 H1 xs vs _ _ R1.sub r1 h1 fun z W3 u H3 ex rz pz => q z e1 W3 u H3 (s1.trans (ex.same R1.sub)) (R1.ext ex) rz pz
end
section
variable {X : Cx} {Wx : WX} {x : Str} {p pos : Pos} {e : Expr} {es : List Expr} {te : TE} {c : DE} {t : TA} {cs : List DE} {id T : String} {r : List V → Hp → VK → Prop}
theorem cv_b1 {f : A → (A → Prop) → Prop} (hc : CallR X (.builtin id) r) (hf : SimC1 X.K r f) (hm : X.mg x = none) (ha : CP X Wx e te c) (hv : bootBuiltins x = some (.builtin id) := by decide +kernel) (hg : Gl X x := by rfl) (hn : x ≠ "__name__" := by decide) (hdb : (x == ("__debug__" : Str)) = false := by decide)
    (he : starEach [e] X.env = (false, eval e X.env) :: starEach [] X.env := by rfl) (hpl : (backTo pos (starEach ([] : List Expr) X.env)).any (·.1) = false := by rfl) : CV X Wx (.Call (.Name x p) [e] [] pos) (tCB r (tCons te tNil)) (cUn f c) :=
  ⟨pe_callB hc hg hm hv (pa_cons ha.pe pa_nil he) hn hdb he hpl, sim_c1 hf ha.sim⟩
theorem cv_t1 {f : A → (A → Prop) → Prop} (hc : CallR X (.type T) r) (hf : SimC1 X.K r f) (hm : X.mg x = none) (ha : CP X Wx e te c) (hv : bootBuiltins x = some (.type T) := by decide +kernel) (hg : Gl X x := by rfl) (hn : x ≠ "__name__" := by decide) (hdb : (x == ("__debug__" : Str)) = false := by decide)
    (he : starEach [e] X.env = (false, eval e X.env) :: starEach [] X.env := by rfl) (hpl : (backTo pos (starEach ([] : List Expr) X.env)).any (·.1) = false := by rfl) : CV X Wx (.Call (.Name x p) [e] [] pos) (tCB r (tCons te tNil)) (cUn f c) :=
  ⟨pe_callTy hc hg hm hv (pa_cons ha.pe pa_nil he) hn hdb he hpl, sim_c1 hf ha.sim⟩
theorem cv_bn {f : List A → (A → Prop) → Prop} (hc : CallR X (.builtin id) r) (hf : SimC X.K r f) (hm : X.mg x = none) (ha : CL X Wx (e :: es) t cs) (hv : bootBuiltins x = some (.builtin id) := by decide +kernel) (hg : Gl X x := by rfl) (hn : x ≠ "__name__" := by decide) (hdb : (x == ("__debug__" : Str)) = false := by decide)
    (he : starEach (e :: es) X.env = (false, eval e X.env) :: starEach es X.env := by rfl) (hpl : (backTo pos (starEach es X.env)).any (·.1) = false := by rfl) : CV X Wx (.Call (.Name x p) (e :: es) [] pos) (tCB r t) (cCBn f cs) :=
  ⟨pe_callB hc hg hm hv ha.pa hn hdb he hpl, sim_cn hf ha.sim⟩
/-- a module's name for a built-in function -/
theorem cv_bfun {f : List A → (A → Prop) → Prop} (hc : CallR X (.builtin id) r) (hf : SimC X.K r f) (hm : X.mg x = some (.builtin id)) (ha : CL X Wx (e :: es) t cs) (hg : Gl X x := by rfl) (hdb : (x == ("__debug__" : Str)) = false := by decide)
    (he : starEach (e :: es) X.env = (false, eval e X.env) :: starEach es X.env := by rfl) (hpl : (backTo pos (starEach es X.env)).any (·.1) = false := by rfl) : CV X Wx (.Call (.Name x p) (e :: es) [] pos) (tCB r t) (cCBn f cs) :=
  ⟨pe_callBfun hc hg hm ha.pa hdb he hpl, sim_cn hf ha.sim⟩
end
/-! ### len, int, abs, all, any, sum, tuple, list -/
abbrev rLen2 (K : PySem.W.Frag) : List V → Hp → VK → Prop := fun xs H Q => ∃ p ys, xs = [.ref p] ∧ (SqL K H p ys ∨ SqT K H p ys) ∧ Q (.int ys.length) H
def fLen (a : A) (P : A → Prop) : Prop := match a with
  | .tup xs => P (.int xs.length)
  | .lst xs => P (.int xs.length)
  | _ => False
abbrev rInt1 : List V → Hp → VK → Prop := fun xs H Q => (∃ i, xs = [.int i] ∧ Q (.int i) H) ∨ ∃ k, xs = [.bl k] ∧ Q (.int (if k then 1 else 0)) H
def fInt (a : A) (P : A → Prop) : Prop := match a with
  | .int i => P (.int i)
  | .bl k => P (.int (if k then 1 else 0))
  | _ => False
abbrev rAbs : List V → Hp → VK → Prop := fun xs H Q => ∃ i, xs = [.int i] ∧ Q (.int (if i < 0 then -i else i)) H
def fAbs (a : A) (P : A → Prop) : Prop := match a with
  | .int i => P (.int (if i < 0 then -i else i))
  | _ => False
/-- the bools of a list -/
def bls : List A → Option (List Bool)
  | [] => some []
  | .bl b :: r => (bls r).map (b :: ·)
  | _ => none
def intsA : List A → Option (List Int)
  | [] => some []
  | .int b :: r => (intsA r).map (b :: ·)
  | _ => none
theorem bls_eq : ∀ {xs : List A} {bs : List Bool}, bls xs = some bs → xs = bs.map A.bl
  | [], bs, h => by
    have h' : some [] = some bs := h
    cases h'; rfl
  | .bl b :: r, bs, h => by
    have h' : (bls r).map (b :: ·) = some bs := h
    cases q : bls r with
    | none => rw [q] at h'; cases h'
    | some cs => rw [q] at h'; cases h'; rw [bls_eq q]; rfl
  | .non :: _, _, h => by cases h
  | .int _ :: _, _, h => by cases h
  | .str _ :: _, _, h => by cases h
  | .tup _ :: _, _, h => by cases h
  | .lst _ :: _, _, h => by cases h
  | .scr _ :: _, _, h => by cases h
theorem intsA_eq : ∀ {xs : List A} {bs : List Int}, intsA xs = some bs → xs = bs.map A.int
  | [], bs, h => by
    have h' : some [] = some bs := h
    cases h'; rfl
  | .int b :: r, bs, h => by
    have h' : (intsA r).map (b :: ·) = some bs := h
    cases q : intsA r with
    | none => rw [q] at h'; cases h'
    | some cs => rw [q] at h'; cases h'; rw [intsA_eq q]; rfl
  | .non :: _, _, h => by cases h
  | .bl _ :: _, _, h => by cases h
  | .str _ :: _, _, h => by cases h
  | .tup _ :: _, _, h => by cases h
  | .lst _ :: _, _, h => by cases h
  | .scr _ :: _, _, h => by cases h
theorem bls_map : ∀ bs : List Bool, bls (bs.map A.bl) = some bs
  | [] => rfl
  | b :: bs => by show (bls (bs.map A.bl)).map (b :: ·) = _; rw [bls_map bs]; rfl
theorem intsA_map : ∀ bs : List Int, intsA (bs.map A.int) = some bs
  | [] => rfl
  | b :: bs => by show (intsA (bs.map A.int)).map (b :: ·) = _; rw [intsA_map bs]; rfl
def onSome {α : Type} (o : Option α) (P : α → Prop) : Prop := match o with
  | some a => P a
  | none => False
theorem onSome_ex {α : Type} {o : Option α} {P : α → Prop} (h : onSome o P) : ∃ a, o = some a ∧ P a := by
  cases o with
  | none => exact h.elim
  | some a => exact ⟨a, rfl, h⟩
def fAll (a : A) (P : A → Prop) : Prop := match a with
  | .lst xs => onSome (bls xs) fun bs => P (.bl (bs.all id))
  | _ => False
def fAny (a : A) (P : A → Prop) : Prop := match a with
  | .lst xs => onSome (bls xs) fun bs => P (.bl (bs.any id))
  | _ => False
def fSum (a : A) (P : A → Prop) : Prop := match a with
  | .lst xs => onSome (intsA xs) fun bs => P (.int bs.sum)
  | .tup xs => onSome (intsA xs) fun bs => P (.int bs.sum)
  | _ => False
def fTuple (a : A) (P : A → Prop) : Prop := match a with
  | .lst xs => P (.tup xs)
  | .tup xs => P (.tup xs)
  | _ => False
abbrev rTuple (K : PySem.W.Frag) : List V → Hp → VK → Prop := fun xs H Q => ∃ p ys, xs = [.ref p] ∧ ((SqL K H p ys ∧ ∀ l, H l = none → Q (.ref l) (upd H l (.tup ys))) ∨ (SqT K H p ys ∧ Q (.ref p) H))
abbrev rList (K : PySem.W.Frag) : List V → Hp → VK → Prop := fun xs H Q => ∃ p ys, xs = [.ref p] ∧ (SqL K H p ys ∨ SqT K H p ys) ∧ ∀ l, H l = none → Q (.ref l) (upd H l (.lst ys))
def cListOf (c : DE) : DR := fun e Q EQ => c e (fun a e1 => match a with
  | .lst xs => Q (.ow xs) e1
  | .tup xs => Q (.ow xs) e1
  | _ => False) EQ
section
variable {K : PySem.W.Frag}
theorem sc_len : SimC1 K (rLen2 K) fLen := by
  intro W H a v P Qv s ra h q
  cases a with
  | tup xs =>
    obtain ⟨p, vs, rfl, h1, h2⟩ := PR.tup ra
    exact ⟨p, vs, rfl, .inr (SqT.mono s h1), by rw [h2.length]; exact q (.int xs.length) W _ H Ext.refl rfl h⟩
  | lst xs =>
    obtain ⟨p, vs, rfl, h1, h2⟩ := PR.lst s ra
    exact ⟨p, vs, rfl, .inl (.inl (.inl h1)), by rw [h2.length]; exact q (.int xs.length) W _ H Ext.refl rfl h⟩
  | _ => exact h.elim
theorem sc_int : SimC1 K rInt1 fInt := by
  intro W H a v P Qv s ra h q
  cases a with
  | int i => exact .inl ⟨i, by rw [PR.int ra], q (.int i) W _ H Ext.refl rfl h⟩
  | bl k => exact .inr ⟨k, by rw [PR.bl ra], q (.int (if k then 1 else 0)) W _ H Ext.refl rfl h⟩
  | _ => exact h.elim
theorem sc_abs : SimC1 K rAbs fAbs := by
  intro W H a v P Qv s ra h q
  cases a with
  | int i => exact ⟨i, by rw [PR.int ra], q (.int (if i < 0 then -i else i)) W _ H Ext.refl rfl h⟩
  | _ => exact h.elim
theorem sc_all : SimC1 K (rAll K) fAll := by
  intro W H a v P Qv s ra h q
  cases a with
  | lst xs =>
    obtain ⟨bs, e, h⟩ := onSome_ex h
    obtain ⟨p, vs, rfl, h1, h2⟩ := PR.lst s ra
    rw [bls_eq e] at h2
    rw [VRs.bls h2] at h1
    exact ⟨p, bs, rfl, .inl (.inl h1), q (.bl (bs.all id)) W _ H Ext.refl rfl h⟩
  | _ => exact h.elim
theorem sc_any : SimC1 K (rAny K) fAny := by
  intro W H a v P Qv s ra h q
  cases a with
  | lst xs =>
    obtain ⟨bs, e, h⟩ := onSome_ex h
    obtain ⟨p, vs, rfl, h1, h2⟩ := PR.lst s ra
    rw [bls_eq e] at h2
    rw [VRs.bls h2] at h1
    exact ⟨p, bs, rfl, .inl (.inl h1), q (.bl (bs.any id)) W _ H Ext.refl rfl h⟩
  | _ => exact h.elim
def rSumA (K : PySem.W.Frag) : List V → Hp → VK → Prop := fun vs H Q => rSum K vs H Q ∨ ∃ (a : Addr) (ns : List Int), vs = [.ref a] ∧ SqT K H a (ns.map V.int) ∧ Q (.int ns.sum) H
theorem cr_sumA {X : Cx} (hc : X.calm = true) : CallR X (.builtin "sum") (rSumA X.K) := by
  intro pins s σ H vs us Q I r h
  rcases h with h | ⟨a, ns, rfl, hs, q⟩
  · exact cr_sum hc pins s σ H vs us Q I r h
  · obtain ⟨its, rv, hl, _⟩ := I.tuple hs
    rw [Vals.ref1 r]
    have hi := rv.ints
    obtain ⟨xs, e⟩ := hi.allInts.items
    have hn : numsOf (intItems xs).toList = ns := by rw [← e]; exact hi.numsOf
    rw [nums_intItems] at hn
    have hl' : s.heap.IsTuple a its.toArray := hl
    rw [e] at hl'
    refine PySem.W.ktm_sumG (I.ok.hd hc) hl' fun h' tk t' hk => ?_
    rw [preSum_eq, List.take_of_length_le (by simp), hn]
    exact ⟨.int _, H, I.kept hk, ⟨_, rfl⟩, q⟩
theorem sc_sum : SimC1 K (rSumA K) fSum := by
  intro W H a v P Qv s ra h q
  cases a with
  | lst xs =>
    obtain ⟨bs, e, h⟩ := onSome_ex h
    obtain ⟨p, vs, rfl, h1, h2⟩ := PR.lst s ra
    rw [intsA_eq e] at h2
    rw [VRs.ints h2] at h1
    exact .inl ⟨p, bs, rfl, .inl (.inl h1), q (.int bs.sum) W _ H Ext.refl rfl h⟩
  | tup xs =>
    obtain ⟨bs, e, h⟩ := onSome_ex h
    obtain ⟨p, vs, rfl, h1, h2⟩ := PR.tup ra
    rw [intsA_eq e] at h2
    rw [VRs.ints h2] at h1
    exact .inr ⟨p, bs, rfl, SqT.mono s h1, q (.int bs.sum) W _ H Ext.refl rfl h⟩
  | _ => exact h.elim
theorem sc_tuple : SimC1 K (rTuple K) fTuple := by
  intro W H a v P Qv s ra h q
  cases a with
  | tup xs =>
    obtain ⟨p, vs, rfl, h1, h2⟩ := PR.tup ra
    exact ⟨p, vs, rfl, .inr ⟨SqT.mono s h1, q (.tup xs) W _ H Ext.refl ⟨p, vs, rfl, h1, h2⟩ h⟩⟩
  | lst xs =>
    obtain ⟨p, vs, rfl, h1, h2⟩ := PR.lst s ra
    refine ⟨p, vs, rfl, .inl ⟨.inl (.inl h1), fun z hz => ?_⟩⟩
    have ex : Ext W H (upd W z (.tup vs)) (upd H z (.tup vs)) := .inr ⟨z, _, hz, rfl, rfl⟩
    exact q (.tup xs) _ _ _ ex ⟨z, vs, rfl, .inl (.inl upd_same), VRs.mono (ex.same s) xs h2⟩ h
  | _ => exact h.elim
theorem sim_listOf {Wx : WX} {t : TE} {c : DE} (h : SimP K Wx t c) : SimR K Wx (tCB (rList K) (tCons t tNil)) (cListOf c) := by
  intro S W e σ H Q EQ Qv R hc q x
  refine h S W e σ H _ EQ _ R hc (fun a e1 W1 v H1 s1 R1 r1 h1 => ?_) x
  cases a with
  | tup xs =>
    obtain ⟨p, vs, rfl, k1, k2⟩ := PR.tup r1
    refine ⟨p, vs, rfl, .inr (SqT.mono R1.sub k1), fun z hz => ?_⟩
    obtain ⟨R2, r2⟩ := res_new R1 hz k2
    exact q (.ow xs) e1 W1 _ _ s1 R2 r2 h1
  | lst xs =>
    obtain ⟨p, vs, rfl, k1, k2⟩ := PR.lst R1.sub r1
    refine ⟨p, vs, rfl, .inl (.inl (.inl k1)), fun z hz => ?_⟩
    obtain ⟨R2, r2⟩ := res_new R1 hz k2
    exact q (.ow xs) e1 W1 _ _ s1 R2 r2 h1
  | _ => exact h1.elim
/-- two ints -/
def f2I (g : Int → Int → Int) (xs : List A) (P : A → Prop) : Prop := match xs with
  | [.int i, .int j] => P (.int (g i j))
  | _ => False
theorem vrs2 {W : Hp} {a b : A} {vs : List V} (h : VRs K W [a, b] vs) : ∃ v w, vs = [v, w] ∧ VR K W a v ∧ VR K W b w := by
  obtain ⟨v, r, rfl, h1, w, r2, rfl, h2, h3⟩ := h
  rw [show r2 = [] from h3]
  exact ⟨v, w, rfl, h1, h2⟩
theorem sc_2 {g : Int → Int → Int} : SimC K (fun xs H Q => ∃ i j, xs = [.int i, .int j] ∧ Q (.int (g i j)) H) (f2I g) := by
  intro W H xs vs P Qv s ra h q
  unfold f2I at h
  split at h
  · rename_i i j
    obtain ⟨v, w, rfl, r1, r2⟩ := vrs2 ra
    exact ⟨i, j, by rw [show v = .int i from r1, show w = .int j from r2], q (.int (g i j)) W _ H Ext.refl rfl h⟩
  · exact h.elim
theorem sc_gcd : SimC K rGcd (f2I fun i j => ((Nat.gcd i.natAbs j.natAbs : Nat) : Int)) := sc_2
end
section
variable {X : Cx} {Wx : WX} {p pos : Pos} {e : Expr} {te : TE} {c : DE}
theorem cr_listOf (hm : X.mg "list" = none) (ha : CP X Wx e te c) (hv : bootBuiltins "list" = some (.type "list") := by decide +kernel) (hg : Gl X "list" := by rfl)
    (he : starEach [e] X.env = (false, eval e X.env) :: starEach [] X.env := by rfl) (hpl : (backTo pos (starEach ([] : List Expr) X.env)).any (·.1) = false := by rfl) : CRs X Wx (.Call (.Name "list" p) [e] [] pos) (tCB (rList X.K) (tCons te tNil)) (cListOf c) :=
  ⟨pe_callTy call_list_of hg hm hv (pa_cons ha.pe pa_nil he) (by decide) (by decide) he hpl, sim_listOf ha.sim⟩
/-- list(range(e)) -/
def cListRg (c : DE) : DR := fun e Q EQ => c e (fun a e1 => match a with
  | .int j => RgOk 0 j ∧ Q (.ow (rgA 0 j.toNat)) e1
  | _ => False) EQ
def cTupRg (c : DE) : DE := fun e Q EQ => c e (fun a e1 => match a with
  | .int j => RgOk 0 j ∧ Q (.tup (rgA 0 j.toNat)) e1
  | _ => False) EQ
theorem rgA_VRs {K : PySem.W.Frag} {W : Hp} (j : Int) : VRs K W (rgA 0 j.toNat) (rgV 0 j) := by
  have : ∀ l : List Nat, VRs K W (l.map fun (k : Nat) => A.int (0 + (k : Int))) (l.map fun (i : Nat) => V.int (0 + (i : Nat))) := fun l => by
    induction l with
    | nil => rfl
    | cons a l ih => exact VRs.cons rfl ih
  unfold rgA rgV
  rw [show (j - 0).toNat = j.toNat by rw [Int.sub_zero]]
  exact this _
theorem cr_listRg {p2 pos2 : Pos} (hc : X.calm = true) (hm : X.mg "list" = none) (hm2 : X.mg "range" = none) (h : CV X Wx e te c) (hg : Gl X "list" := by rfl) (hg2 : Gl X "range" := by rfl) (na : starEach [e] X.env = (false, eval e X.env) :: starEach [] X.env := by rfl)
    (na2 : starEach [.Call (.Name "range" p2) [e] [] pos2] X.env = (false, eval (.Call (.Name "range" p2) [e] [] pos2) X.env) :: starEach [] X.env := by rfl) : CRs X Wx (.Call (.Name "list" p) [.Call (.Name "range" p2) [e] [] pos2] [] pos) (tLstRg (tRg1 te)) (cListRg c) := by
  refine ⟨pe_listRg hc hg hm (prg_1 hg2 hm2 h.pe na) na2, fun S W e σ H Q EQ Qv R h1 q x => ?_⟩
  refine h.sim S W e σ H _ EQ _ R h1 (fun a e1 W1 v H1 s1 R1 r1 h2 => ?_) x
  cases a with
  | int j =>
    refine ⟨j, r1, h2.1, fun z hz => ?_⟩
    obtain ⟨R2, r2⟩ := res_new R1 hz (rgA_VRs j)
    exact q (.ow _) e1 W1 _ _ s1 R2 r2 h2.2
  | _ => exact h2.elim
theorem cv_tupRg {p2 pos2 : Pos} (hc : X.calm = true) (hm : X.mg "tuple" = none) (hm2 : X.mg "range" = none) (h : CV X Wx e te c) (hg : Gl X "tuple" := by rfl) (hg2 : Gl X "range" := by rfl) (na : starEach [e] X.env = (false, eval e X.env) :: starEach [] X.env := by rfl)
    (na2 : starEach [.Call (.Name "range" p2) [e] [] pos2] X.env = (false, eval (.Call (.Name "range" p2) [e] [] pos2) X.env) :: starEach [] X.env := by rfl) : CV X Wx (.Call (.Name "tuple" p) [.Call (.Name "range" p2) [e] [] pos2] [] pos) (tTupRg (tRg1 te)) (cTupRg c) := by
  refine ⟨pe_tupRg hc hg hm (prg_1 hg2 hm2 h.pe na) na2, fun S W e σ H Q EQ Qv R h1 q x => ?_⟩
  refine h.sim S W e σ H _ EQ _ R h1 (fun a e1 W1 v H1 s1 R1 r1 h2 => ?_) x
  cases a with
  | int j =>
    refine ⟨j, r1, h2.1, fun z hz => ?_⟩
    have ex : Ext W1 H1 (upd W1 z (.tup (rgV 0 j))) (upd H1 z (.tup (rgV 0 j))) := .inr ⟨z, _, hz, rfl, rfl⟩
    exact q (.tup _) e1 _ _ _ (s1.trans (ex.same R1.sub)) (R1.ext ex) ⟨z, _, rfl, .inl (.inl upd_same), rgA_VRs j⟩ h2.2
  | _ => exact h2.elim
end
/-! ### isinstance with a built-in class -/
def tyN : A → String
  | .non => "NoneType"
  | .bl _ => "bool"
  | .int _ => "int"
  | .str _ => "str"
  | .tup _ => "tuple"
  | .lst _ => "list"
  | .scr _ => "list"
def isTy (n T : String) : Bool := n == T || (n == "bool" && T == "int")
def kitOk (T : String) : Bool := ["NoneType", "bool", "int", "str", "tuple", "list"].all fun n => kitB n T == some (isTy n T)
def fIsTy (T : String) (a : A) (P : A → Prop) : Prop := match a with
  | .scr _ => False
  | _ => P (.bl (isTy (tyN a) T))
theorem tyx_of {K : PySem.W.Frag} {W H : Hp} {a : A} {v : V} (s : Same W H) (r : PR K W H a v) (h : ∀ ns, a ≠ .scr ns) : TyX K H v (.type (tyN a)) := by
  cases a with
  | non =>
    rcases r with r | ⟨_, _, _, z, _⟩
    · rw [show v = .non from r]; exact .base .non
    · cases z
  | bl b => rw [PR.bl r]; exact .base (.bl b)
  | int i => rw [PR.int r]; exact .base (.int i)
  | str i => rw [PR.str r]; exact .base (.str i)
  | tup xs =>
    obtain ⟨p, vs, rfl, h1, h2⟩ := PR.tup r
    rcases h1 with (h1 | ⟨o, h1⟩) | ⟨o, its, n, h1, h3, _⟩
    · exact .base (.tup (s _ _ h1))
    · exact .fTuple (s _ _ h1)
    · exact .kTuple h1 h3
  | lst xs =>
    obtain ⟨p, vs, rfl, h1, h2⟩ := PR.lst s r
    exact .base (.lst h1)
  | scr ns => exact absurd rfl (h ns)
theorem kit_of_ok {T : String} (h : kitOk T = true) (a : A) : kitB (tyN a) T = some (isTy (tyN a) T) := by
  have := List.all_eq_true.mp h (tyN a) (by cases a <;> simp [tyN])
  exact beq_iff_eq.mp this
section
variable {X : Cx} {Wx : WX} {p p2 pos : Pos} {e : Expr} {te : TE} {c : DE} {T : String} {tx : Str}
theorem sim_isTy {K : PySem.W.Frag} (hk : kitOk T = true) (h : SimP K Wx te c) : SimE K Wx (tCB (rIsi K) (tCons te (tCons (tC (.ty T)) tNil))) (cUn (fIsTy T) c) := by
  intro S W e σ H Q EQ Qv R hc q x
  refine h S W e σ H _ EQ _ R hc (fun a e1 W1 v H1 s1 R1 r1 h1 => ?_) x
  have hs : ∀ ns, a ≠ .scr ns := fun ns z => by subst z; exact h1.elim
  have h1 : Q (.bl (isTy (tyN a) T)) e1 := by
    cases a <;> first | exact h1 | exact h1.elim
  exact ⟨v, .ty T, _, _, _, rfl, .ty T, tyx_of R1.sub r1 hs, kit_ty (kit_of_ok hk a), q (.bl (isTy (tyN a) T)) e1 W1 _ H1 s1 R1 rfl h1⟩
theorem cv_isTy (hk : kitOk T = true) (hm : X.mg "isinstance" = none) (hmT : X.mg tx = none) (h : CP X Wx e te c) (hvT : bootBuiltins tx = some (.type T) := by decide +kernel) (hv : bootBuiltins "isinstance" = some (.builtin "isinstance") := by decide +kernel) (hg : Gl X "isinstance" := by rfl) (hgT : Gl X tx := by rfl)
    (hnT : tx ≠ "__name__" := by decide) (hdT : (tx == ("__debug__" : Str)) = false := by decide) (he : starEach [e, .Name tx p2] X.env = (false, eval e X.env) :: starEach [.Name tx p2] X.env := by rfl) (he2 : starEach [.Name tx p2] X.env = (false, eval (.Name tx p2) X.env) :: starEach [] X.env := by rfl)
    (hpl : (backTo pos (starEach [.Name tx p2] X.env)).any (·.1) = false := by rfl) : CV X Wx (.Call (.Name "isinstance" p) [e, .Name tx p2] [] pos) (tCB (rIsi X.K) (tCons te (tCons (tC (.ty T)) tNil))) (cUn (fIsTy T) c) :=
  ⟨pe_callB call_isi hg hm hv (pa_cons h.pe (pa_cons (pe_bltn hgT hmT hvT rfl hnT hdT) pa_nil he2) he) (by decide) (by decide) he hpl, sim_isTy hk h.sim⟩
end
end AL
/-! AL11: the rule for a def. -/
namespace AL
open PySem PySem.Spec PyProof.Rows L2

/-- what the borrowed parameters hold at the end -/
def collect : List Slot → Ev → (List (List A) → Prop) → Prop
  | [], _, P => P []
  | .ow _ _ :: r, s :: e, P => match s with
    | .ow true xs => collect r e fun o => P (xs :: o)
    | _ => False
  | .sh _ :: r, _ :: e, P => collect r e P
  | .no :: r, _ :: e, P => collect r e P
  | _ :: _, [], _ => False
def noPin : List Slot → Bool
  | [] => true
  | .ow _ _ :: _ => false
  | _ :: r => noPin r
/-- a body run on its arguments, n further names -/
def denF (c : DS) (n : Nat) (args : List Slot) (P : Res → List (List A) → Prop) (EP : Ex → Prop) : Prop :=
  c { nx := fun e => collect args e fun o => P (.sh .non) o, rt := fun r e => collect args e fun o => P r o, bk := fun _ => False, ct := fun _ => False } (fun x _ => noPin args = true ∧ EP x) (args ++ List.replicate n .no)
def pinAt : List Slot → List V → Nat → Option Addr
  | .ow _ _ :: _, v :: _, 0 => some (refA v)
  | _ :: r, _ :: vs, i + 1 => pinAt r vs i
  | _, _, _ => none
section
variable {K : PySem.W.Frag} {W H : Hp}
theorem pinAt_mem : ∀ {args : List Slot} {vs : List V} {i : Nat} {p : Addr}, pinAt args vs i = some p → p ∈ pinA args vs
  | .ow _ _ :: r, v :: vs, 0, p, h => by
    have h' : some (refA v) = some p := h
    cases h'
    exact List.mem_cons_self
  | .ow _ _ :: r, v :: vs, i + 1, p, h => List.mem_cons_of_mem _ (pinAt_mem (args := r) (vs := vs) (i := i) h)
  | .sh _ :: r, v :: vs, i + 1, p, h => pinAt_mem (args := r) (vs := vs) (i := i) h
  | .no :: r, v :: vs, i + 1, p, h => pinAt_mem (args := r) (vs := vs) (i := i) h
  | .sh _ :: _, _ :: _, 0, _, h => by cases h
  | .no :: _, _ :: _, 0, _, h => by cases h
  | [], _, _, _, h => by unfold pinAt at h; cases h
  | .ow _ _ :: _, [], _, _, h => by unfold pinAt at h; cases h
  | .sh _ :: _, [], _, _, h => by unfold pinAt at h; cases h
  | .no :: _, [], _, _, h => by unfold pinAt at h; cases h
theorem pin_inj : ∀ {args : List Slot} {vs : List V} {i j : Nat} {p : Addr}, (pinA args vs).Nodup → pinAt args vs i = some p → pinAt args vs j = some p → i = j
  | .ow _ _ :: r, v :: vs, 0, 0, p, _, _, _ => rfl
  | .ow _ _ :: r, v :: vs, 0, j + 1, p, nd, h, h2 => by
    have h' : some (refA v) = some p := h
    cases h'
    exact absurd (pinAt_mem (args := r) (vs := vs) (i := j) h2) (List.nodup_cons.mp nd).1
  | .ow _ _ :: r, v :: vs, i + 1, 0, p, nd, h, h2 => by
    have h' : some (refA v) = some p := h2
    cases h'
    exact absurd (pinAt_mem (args := r) (vs := vs) (i := i) h) (List.nodup_cons.mp nd).1
  | .ow _ _ :: r, v :: vs, i + 1, j + 1, p, nd, h, h2 => congrArg Nat.succ (pin_inj (args := r) (vs := vs) (List.nodup_cons.mp nd).2 h h2)
  | .sh _ :: r, v :: vs, i + 1, j + 1, p, nd, h, h2 => congrArg Nat.succ (pin_inj (args := r) (vs := vs) nd h h2)
  | .no :: r, v :: vs, i + 1, j + 1, p, nd, h, h2 => congrArg Nat.succ (pin_inj (args := r) (vs := vs) nd h h2)
  | .sh _ :: _, _ :: _, 0, _, _, _, h, _ => by cases h
  | .no :: _, _ :: _, 0, _, _, _, h, _ => by cases h
  | .sh _ :: _, _ :: _, _ + 1, 0, _, _, _, h => by cases h
  | .no :: _, _ :: _, _ + 1, 0, _, _, _, h => by cases h
  | [], _, _, _, _, _, h, _ => by unfold pinAt at h; cases h
  | .ow _ _ :: _, [], _, _, _, _, h, _ => by unfold pinAt at h; cases h
  | .sh _ :: _, [], _, _, _, _, h, _ => by unfold pinAt at h; cases h
  | .no :: _, [], _, _, _, _, h, _ => by unfold pinAt at h; cases h
/-- an argument's slot at the entry -/
theorem arg_slot : ∀ {args : List Slot} {vs : List V} {i : Nat} {s : Slot}, ArgsR K W H args vs → args[i]? = some s → ∃ v, vs[i]? = some v ∧ ArgR K W H s v ∧ ∀ b xs, s = .ow b xs → pinAt args vs i = some (refA v)
  | [], _, i, s, _, h => by simp at h
  | a :: r, _, 0, s, h, e => by
    obtain ⟨v, q, rfl, h1, h2⟩ := h
    simp at e; subst e
    exact ⟨v, rfl, h1, fun b xs z => by subst z; rfl⟩
  | a :: r, _, i + 1, s, h, e => by
    obtain ⟨v, q, rfl, h1, h2⟩ := h
    obtain ⟨w, k1, k2, k3⟩ := arg_slot (i := i) h2 (by simpa using e)
    exact ⟨w, by simpa using k1, k2, fun b xs z => by
      have := k3 b xs z
      cases a <;> exact this⟩
theorem gt_get : ∀ {e : Ev} {i : Nat}, gt e i = (e[i]?).getD .no
  | [], i => by cases i <;> rfl
  | s :: e, 0 => rfl
  | s :: e, i + 1 => by
    show gt e i = _
    rw [gt_get (e := e) (i := i)]; simp
theorem gt_append_no (args : List Slot) (n i : Nat) : gt (args ++ List.replicate n .no) i = (args[i]?).getD .no := by
  rw [gt_get]
  by_cases hi : i < args.length
  · rw [List.getElem?_append_left hi]
  · rw [List.getElem?_append_right (by omega), List.getElem?_eq_none (by omega : args.length ≤ i), List.getElem?_replicate]
    split <;> rfl
def fx0 (W H : Hp) (args : List Slot) (vs : List V) : Fx := ⟨H, W, pinAt args vs⟩
theorem pinAt_owns : ∀ {args : List Slot} {vs : List V} {i : Nat} {p : Addr}, ArgsR K W H args vs → pinAt args vs i = some p → ∃ ws, H p = some (.lst ws) ∧ W p = none
  | [], _, _, _, _, h => by unfold pinAt at h; cases h
  | a :: r, _, 0, p, h, e => by
    obtain ⟨v, q, rfl, h1, h2⟩ := h
    cases a with
    | no => cases e
    | sh a => cases e
    | ow b xs =>
      have e' : some (refA v) = some p := e
      cases e'
      obtain ⟨_, p', ws, rfl, k1, _, k2⟩ := h1
      exact ⟨ws, k1, k2⟩
  | a :: r, _, i + 1, p, h, e => by
    obtain ⟨v, q, rfl, h1, h2⟩ := h
    exact pinAt_owns (i := i) h2 (by cases a <;> exact e)
/-- the state at a body's entry -/
theorem rel_start {args : List Slot} {vs : List V} {N : List Str} (s : Same W H) (ha : ArgsR K W H args vs) (nd : (pinA args vs).Nodup) (hl : args.length ≤ N.length) : Rel K (fx0 W H args vs) W (args ++ List.replicate (N.length - args.length) .no) (L2.start N vs) H := by
  have hlen := sp_len ha
  have st : ∀ {i : Nat} {v : V}, vs[i]? = some v → (L2.start N vs)[i]? = some (some v) := fun {i v} h => by
    unfold L2.start
    rw [List.getElem?_append_left (by rw [List.length_map]; exact (List.getElem?_eq_some_iff.mp h).1), List.getElem?_map, h]; rfl
  have sl : ∀ {i : Nat} {x : Slot}, gt (args ++ List.replicate (N.length - args.length) .no) i = x → x ≠ .no → args[i]? = some x := fun {i x} h n => by
    rw [gt_append_no] at h
    cases q : args[i]? with
    | none => rw [q] at h; exact absurd h.symm n
    | some y => rw [q] at h; rw [← h]; rfl
  refine ⟨?_, s, fun p o h _ => h, fun p h => h, fun p o _ => rfl, s, fun i p h => ?_, fun i => ?_, fun i j b xs c ys p hij g1 g2 e1 e2 => ?_⟩
  · unfold L2.start
    rw [List.length_append, List.length_append, List.length_replicate, List.length_replicate, List.length_map, hlen]
  · obtain ⟨ws, k1, k2⟩ := pinAt_owns ha h
    exact ⟨by rw [show (fx0 W H args vs).H0 p = H p from rfl, k1]; simp, k2⟩
  · cases q : gt (args ++ List.replicate (N.length - args.length) .no) i with
    | no => trivial
    | sh a =>
      obtain ⟨v, k1, k2, _⟩ := arg_slot ha (sl q (by simp))
      exact ⟨v, st k1, k2⟩
    | ow b xs =>
      obtain ⟨v, k1, k2, k3⟩ := arg_slot ha (sl q (by simp))
      obtain ⟨hb, p, ws, rfl, m1, m2, m3⟩ := k2
      subst hb
      exact ⟨p, ws, st k1, m1, m2, m3, by rw [if_pos rfl]; exact k3 _ _ rfl⟩
  · obtain ⟨v, k1, k2, k3⟩ := arg_slot ha (sl g1 (by simp))
    obtain ⟨w, l1, l2, l3⟩ := arg_slot ha (sl g2 (by simp))
    rw [st k1] at e1
    rw [st l1] at e2
    cases e1; cases e2
    exact hij (pin_inj nd (k3 _ _ rfl) (l3 _ _ rfl))
/-- what is handed back of the borrowed lists -/
theorem outs_of {S : Fx} {W' H' : Hp} {σ' : L2.St} : ∀ {args : List Slot} {vs : List V} {e e' : Ev} {P : List (List A) → Prop} (k : Nat), ArgsR K W H args vs → (∀ j, gt e' j = gt e (k + j)) → (∀ j, pinAt args vs j = S.pin (k + j)) → (∀ i, SlotR K S W' H' σ' i (gt e i)) →
    collect args e' P → ∃ o, P o ∧ OutsR K W' H' o (pinA args vs)
  | [], _, e, e', P, k, ha, _, _, _, h => by
    rw [show _ = [] from ha]
    exact ⟨[], h, rfl⟩
  | a :: r, _, e, [], P, k, ha, _, _, _, h => by cases a <;> exact h.elim
  | a :: r, _, e, s :: e', P, k, ha, he, hp, hs, h => by
    obtain ⟨v, q, rfl, h1, h2⟩ := ha
    have he' : ∀ j, gt e' j = gt e (k + 1 + j) := fun j => by
      have := he (j + 1)
      rw [show k + 1 + j = k + (j + 1) by omega]; exact this
    have hp' : ∀ j, pinAt r q j = S.pin (k + 1 + j) := fun j => by
      have := hp (j + 1)
      rw [show k + 1 + j = k + (j + 1) by omega, ← this]
      cases a <;> rfl
    cases a with
    | no => exact h1.elim
    | sh a => exact outs_of (args := r) (vs := q) (e' := e') (k + 1) h2 he' hp' hs h
    | ow b xs =>
      cases s with
      | no => exact h.elim
      | sh _ => exact h.elim
      | ow b' ys =>
        cases b' with
        | false => exact h.elim
        | true =>
          obtain ⟨o, k1, k2⟩ := outs_of (k + 1) h2 he' hp' hs (show collect r e' (fun o => P (ys :: o)) from h)
          have hk := hs k
          have g : gt e k = .ow true ys := by
            have := he 0
            rw [Nat.add_zero] at this; exact this.symm
          rw [g] at hk
          obtain ⟨p, ws, _, m1, m2, m3, m4⟩ := hk
          have m4 : S.pin k = some p := by simpa using m4
          have e0 : some (refA v) = some p := by
            have := hp 0
            rw [Nat.add_zero, m4] at this; exact this
          cases e0
          exact ⟨ys :: o, k1, _, _, ws, rfl, m1, m2, k2⟩
theorem pinA_nil : ∀ {args : List Slot} {vs : List V}, noPin args = true → pinA args vs = []
  | [], _, _ => by unfold pinA; rfl
  | .sh _ :: r, [], _ => by unfold pinA; rfl
  | .no :: r, [], _ => by unfold pinA; rfl
  | .sh _ :: r, v :: vs, h => pinA_nil (args := r) (vs := vs) h
  | .no :: r, v :: vs, h => pinA_nil (args := r) (vs := vs) h
  | .ow _ _ :: _, _, h => by cases h
end
/-- THE RULE for a def: its body's derivation, and what its denotation gives -/
theorem fn_okF {P : Program} {w : World} {K : PySem.W.Frag} {mg : Str → Option Value} {base : Heap} {k : Nat} {x qual : Str} {params : Arguments} {body : List Stmt} {scope : Scope} {f : Addr} {fd : FuncData} {N ps : List Str} {m : FnM} {c : DS}
    (F : FunD K x qual params body scope [] [] f fd) (Sc : FnScope N ps scope)
    (hbody : ∀ (cdv : Value) (A : Around) (outer : List Env) (s : Shared) (H : Hp) (E : XK), Room k (A.deeper (envOfC qual scope s.heap.objs.size f cdv)) →
      Takes (cxOf (L2.CX P w) P w K mg base N qual scope f cdv A outer s H E) (fun cls d _ H => E cls d H) → PassesOwn (model P w) (A.deeper (envOfC qual scope s.heap.objs.size f cdv)) (envOfC qual scope s.heap.objs.size f cdv) (cxOf (L2.CX P w) P w K mg base N qual scope f cdv A outer s H E).xe →
      ∃ t, CSs (cxOf (L2.CX P w) P w K mg base N qual scope f cdv A outer s H E) (fun cls d _ H => E cls d H) body t c)
    (hm : ∀ args P EP, m args P EP → args.length = ps.length ∧ denF c (N.length - ps.length) args P EP) : FnOk P w K mg base (L2.CX P w) (k + 1) f fd ps (spA K m) := by
  have hpl : ps.length ≤ N.length := by have := congrArg List.length Sc.pre; rw [List.length_take] at this; omega
  refine F.ok Sc (fun vs H Q E h => ?_) (fun cdv A outer s H vs Q E hr h => ?_)
  · obtain ⟨W, args, P', EP, h1, h2, h3, h4, h5, h6⟩ := h
    rw [sp_len h2]
    exact (hm args P' EP h4).1
  · obtain ⟨W, args, P', EP, h1, h2, h3, h4, h5, h6⟩ := h
    obtain ⟨hl, hd⟩ := hm args P' EP h4
    obtain ⟨t, D⟩ := hbody cdv A outer s H E hr (takes_of rfl rfl rfl rfl) (by first | exact PassesOwn.leaving | exact PassesOwn.looking | exact PassesOwn.never)
    refine ⟨t, D.ps, ?_⟩
    have hA : args.length = ps.length := hl
    have R := rel_start (N := N) h1 h2 h3 (by rw [hA]; exact hpl)
    rw [hA] at R
    have S0 : ∀ {W' H' : Hp} {e' : Ev} {σ' : L2.St}, Rel K (fx0 W H args vs) W' e' σ' H' → Aft W H W' H' (pinA args vs) := fun {W' H' e' σ'} R' => ⟨R'.sub, fun p o h => R'.fro p o h, fun p o h n => R'.old p o h fun i z => n (pinAt_mem z)⟩
    refine D.sim (fx0 W H args vs) W _ (L2.start N vs) H _ _ _ R hd ⟨fun e' W' σ' H' s' R' q => ?_, fun _ _ _ _ _ _ q => q.elim, fun _ _ _ _ _ _ q => q.elim, fun r e' W' σ' v H' s' R' rr q => ?_, fun σ x e' W' cls d H' s' R' xr q => ?_⟩
    · obtain ⟨o, k1, k2⟩ := outs_of (S := fx0 W H args vs) (e := e') 0 h2 (fun j => by rw [Nat.zero_add]) (fun j => by rw [Nat.zero_add]; rfl) R'.slot q
      exact h5 _ o k1 W' .non H' (S0 R') k2 rfl
    · obtain ⟨o, k1, k2⟩ := outs_of (S := fx0 W H args vs) (e := e') 0 h2 (fun j => by rw [Nat.zero_add]) (fun j => by rw [Nat.zero_add]; rfl) R'.slot q
      refine h5 r o k1 W' v H' (S0 R') k2 ?_
      cases r with
      | sh a => exact rr
      | ow xs =>
        obtain ⟨p, ws, e1, m1, m2, m3, m4, _⟩ := rr
        exact ⟨p, ws, e1, m4, m1, m2, m3⟩
    · obtain ⟨np, q⟩ := q
      exact h6 x q W' cls d H' (S0 R') (pinA_nil np) xr
theorem fn_ok {P : Program} {w : World} {K : PySem.W.Frag} {mg : Str → Option Value} {base : Heap} {k : Nat} {x qual : Str} {params : Arguments} {body : List Stmt} {scope : Scope} {f : Addr} {fd : FuncData} {N ps : List Str} {m : FnM} {c : DS}
    (F : FunD K x qual params body scope [] [] f fd) (Sc : FnScope N ps scope) (hmg : mg x = some (.ref f)) (hb : Binds K fd ps [])
    (hbody : ∀ (cdv : Value) (A : Around) (outer : List Env) (s : Shared) (H : Hp) (E : XK), Room k (A.deeper (envOfC qual scope s.heap.objs.size f cdv)) →
      Takes (cxOf (L2.CX P w) P w K mg base N qual scope f cdv A outer s H E) (fun cls d _ H => E cls d H) → PassesOwn (model P w) (A.deeper (envOfC qual scope s.heap.objs.size f cdv)) (envOfC qual scope s.heap.objs.size f cdv) (cxOf (L2.CX P w) P w K mg base N qual scope f cdv A outer s H E).xe →
      ∃ t, CSs (cxOf (L2.CX P w) P w K mg base N qual scope f cdv A outer s H E) (fun cls d _ H => E cls d H) body t c)
    (hm : ∀ args P EP, m args P EP → args.length = ps.length ∧ denF c (N.length - ps.length) args P EP) : Fn P w K mg base (k + 1) x m :=
  ⟨f, fd, ps, fn_okF F Sc hbody hm, hmg, F.kp, hb⟩
/-- nothing is promised -/
theorem fn_never {P : Program} {w : World} {K : PySem.W.Frag} {mg : Str → Option Value} {base : Heap} {k : Nat} {x qual : Str} {params : Arguments} {body : List Stmt} {scope : Scope} {f : Addr} {fd : FuncData} {N ps : List Str}
    (F : FunD K x qual params body scope [] [] f fd) (Sc : FnScope N ps scope) (hmg : mg x = some (.ref f)) (hb : Binds K fd ps []) : Fn P w K mg base (k + 1) x (fun _ _ _ => False) :=
  ⟨f, fd, ps, F.ok Sc (fun vs H Q E ⟨_, _, _, _, _, _, _, h, _⟩ => h.elim) (fun cdv A outer s H vs Q E hr ⟨_, _, _, _, _, _, _, h, _⟩ => h.elim), hmg, F.kp, hb⟩
end AL
/-! AL12: named operators; the head's facts. -/
namespace AL
open PySem PySem.Spec PyProof.Rows L2

def fSub : A → A → (A → Prop) → Prop := fI0 fun i j => .int (i - j)
def fMul : A → A → (A → Prop) → Prop := fI MulOk fun i j => .int (i * j)
def fDiv : A → A → (A → Prop) → Prop := fI CDivW fun i j => .int (i / j)
def fMod : A → A → (A → Prop) → Prop := fI (fun _ j => 0 < j) fun i j => .int (i % j)
def fPow : A → A → (A → Prop) → Prop := fI CPow fun i j => .int (i ^ j.toNat)
def fShl : A → A → (A → Prop) → Prop := fI CPow fun i j => .int (i * 2 ^ j.toNat)
def fAnd : A → A → (A → Prop) → Prop := fI0 fun i j => .int (Builtin.bitAnd i j)
def fLt : A → A → (A → Prop) → Prop := fI0 fun i j => .bl (decide (i < j))
def fLe : A → A → (A → Prop) → Prop := fI0 fun i j => .bl (decide (i ≤ j))
def fGt : A → A → (A → Prop) → Prop := fI0 fun i j => .bl (decide (j < i))
def fGe : A → A → (A → Prop) → Prop := fI0 fun i j => .bl (decide (j ≤ i))
section
variable {K : PySem.W.Frag}
theorem so_sub : SimOp K (rI0 fun i j => .int (i - j)) fSub := so_I0 fun _ _ _ => rfl
theorem so_mulM : SimOp K rMulA fMul := so_mul
theorem so_div : SimOp K (rI CDivW fun i j => .int (i / j)) fDiv := so_I fun _ _ _ => rfl
theorem so_mod : SimOp K (rI (fun _ j => 0 < j) fun i j => .int (i % j)) fMod := so_I fun _ _ _ => rfl
theorem so_pow : SimOp K (rI CPow fun i j => .int (i ^ j.toNat)) fPow := so_I fun _ _ _ => rfl
theorem so_shl : SimOp K (rI CPow fun i j => .int (i * 2 ^ j.toNat)) fShl := so_I fun _ _ _ => rfl
theorem so_bitand : SimOp K (rI0 fun i j => .int (Builtin.bitAnd i j)) fAnd := so_I0 fun _ _ _ => rfl
theorem so_lt : SimOp K (rI0 fun i j => .bl (decide (i < j))) fLt := so_I0 fun _ _ _ => rfl
theorem so_le : SimOp K (rI0 fun i j => .bl (decide (i ≤ j))) fLe := so_I0 fun _ _ _ => rfl
theorem so_gt : SimOp K (rI0 fun i j => .bl (decide (j < i))) fGt := so_I0 fun _ _ _ => rfl
theorem so_ge : SimOp K (rI0 fun i j => .bl (decide (j ≤ i))) fGe := so_I0 fun _ _ _ => rfl
end
def f2Max : List A → (A → Prop) → Prop := f2I fun i j => if j > i then j else i
def f2Min : List A → (A → Prop) → Prop := f2I fun i j => if j < i then j else i
def f2Gcd : List A → (A → Prop) → Prop := f2I fun i j => ((Nat.gcd i.natAbs j.natAbs : Nat) : Int)
theorem sc_max2 {K : PySem.W.Frag} : SimC K (fun xs H Q => ∃ i j, xs = [.int i, .int j] ∧ Q (.int (if j > i then j else i)) H) f2Max := sc_2
theorem sc_min2 {K : PySem.W.Frag} : SimC K (fun xs H Q => ∃ i j, xs = [.int i, .int j] ∧ Q (.int (if j < i then j else i)) H) f2Min := sc_2
theorem sc_gcdM {K : PySem.W.Frag} : SimC K rGcd f2Gcd := sc_2

/-- code that is never reached -/
def cNever : DS := fun _ _ _ => False
theorem cs_never {X : Cx} {Wx : WX} {st : Stmt} : CS X Wx st tNever cNever := ⟨ps_never, fun _ _ _ _ _ _ _ _ _ h _ => h.elim⟩
/-! ### the head's facts by names, and further checks of the written part -/
abbrev AlA : Type := He.AlD × Bool
def hookA (n : Nat) (fa : List He.Fa) (fn : List He.DefD) (ex : PySem.W.Frag → Bool) : PySem.W.Hook where
  α := AlA
  obs := fun s => (He.obsD fa fn (He.frG s.heap.get? (He.asD s.heap.get? n)), ex (He.frG s.heap.get? (He.asD s.heap.get? n)))
  val := fun _ => (He.valD fn, true)
  says := fun _ h => ∃ K : PySem.W.Frag, K.In h ∧ He.SaysD fa fn K ∧ ex K = true
  of := fun _ _ e => ⟨_, He.frG_in, congrArg (fun z : AlA => z.1) e, congrArg (fun z : AlA => z.2) e⟩
  keeps := fun _ _ _ ⟨K, hK, c⟩ k => ⟨K, PySem.W.Frag.In.keeps hK k, c⟩
def obsA (n : Nat) (fa : List He.Fa) (fn : List He.DefD) (ex : PySem.W.Frag → Bool) (g : Addr → Option Obj) : AlA := (He.obsD fa fn (He.frG g (He.asD g n)), ex (He.frG g (He.asD g n)))
theorem obsA_eq {n : Nat} {fa : List He.Fa} {fn : List He.DefD} {ex : PySem.W.Frag → Bool} {g : Addr → Option Obj} {s : Shared} (h : ∀ a, g a = s.heap.get? a) : obsA n fa fn ex g = (hookA n fa fn ex).obs s := by
  have e : g = s.heap.get? := funext h
  rw [e] <;> rfl
theorem says_def {fa : List He.Fa} {fn : List He.DefD} {K : PySem.W.Frag} (c : He.SaysD fa fn K) (i : Nat) {d : He.DefD} (h : fn[i]? = some d := by rfl) : ∃ fd, FunD K d.name d.qual d.params d.body d.scope (d.dvs K) (d.kws K) (He.fAd K d.at_) fd := c.def_ i h
/-- a module's name for a built-in function -/
def bfunB (x : Str) (id : String) (K : PySem.W.Frag) : Bool := He.eqO (PySem.W.nsIn K mainGlobals x) (some (some (.builtin id)))
theorem bfun_ok {K : PySem.W.Frag} {h : Heap} {mg : Str → Option Value} (X : K.In h) (G : h.Ns mainGlobals mg) {x : Str} {id : String} (c : bfunB x id K = true) : mg x = some (.builtin id) := PySem.W.mg_of X G (He.eqO_ok c)
/-- a module's constant that is a tuple of ints -/
def tupI (x : Str) (ns : List Int) (K : PySem.W.Frag) : Bool := He.tupB K x (ns.map He.Dv.int)
theorem tupI_ok {K : PySem.W.Frag} {x : Str} {ns : List Int} (h : tupI x ns K = true) (W : Hp) : VR K W (.tup (ns.map A.int)) (.ref (He.ga K x)) := by
  refine ⟨_, ns.map V.int, rfl, ?_, VRs.of_ints ns⟩
  have := He.tupB_ok h W
  rw [List.map_map] at this
  exact this
end AL
/-! AL13: plain law: fractions as Rat, sizes. -/
namespace AL
open PySem

/-- a fraction's value -/
def qA (q : Rat) : A := .tup [.int q.num, .int q.den]
/-- a fraction of fewer than B bits -/
structure Sz (B : Nat) (q : Rat) : Prop where
  n : q.num.natAbs < 2 ^ B
  d : q.den < 2 ^ B
theorem two_le {a b : Nat} (h : a ≤ b) : 2 ^ a ≤ 2 ^ b := Nat.pow_le_pow_right (by omega) h
theorem Sz.mono {B C : Nat} {q : Rat} (h : Sz B q) (l : B ≤ C) : Sz C q := ⟨Nat.lt_of_lt_of_le h.n (two_le l), Nat.lt_of_lt_of_le h.d (two_le l)⟩
theorem den0 (q : Rat) : (q.den : Int) ≠ 0 := by
  have := q.den_nz
  omega
theorem denp (q : Rat) : (0 : Int) < q.den := by
  have := q.den_nz
  omega
theorem q_add (a b : Rat) : Rat.divInt (a.num * b.den + b.num * a.den) (a.den * b.den) = a + b := by
  rw [← Rat.divInt_add_divInt _ _ (den0 a) (den0 b), Rat.num_divInt_den, Rat.num_divInt_den]
theorem q_sub (a b : Rat) : Rat.divInt (a.num * b.den - b.num * a.den) (a.den * b.den) = a - b := by
  rw [← Rat.divInt_sub_divInt _ _ (den0 a) (den0 b), Rat.num_divInt_den, Rat.num_divInt_den]
theorem q_mul (a b : Rat) : Rat.divInt (a.num * b.num) (a.den * b.den) = a * b := by
  rw [← Rat.divInt_mul_divInt, Rat.num_divInt_den, Rat.num_divInt_den]
theorem q_div (a b : Rat) : Rat.divInt (a.num * b.den) (a.den * b.num) = a / b := by
  rw [← Rat.divInt_mul_divInt, Rat.num_divInt_den, Rat.div_def]
  congr 1
  rw [← Rat.inv_divInt, Rat.num_divInt_den]
theorem fr_num {n d : Int} (h : 0 < d) : n / ((Nat.gcd n.natAbs d.natAbs : Nat) : Int) = (Rat.divInt n d).num := by
  rw [Rat.num_divInt, Int.sign_eq_one_of_pos h, Int.one_mul, Int.gcd_comm]
  rfl
theorem fr_den {n d : Int} (h : 0 < d) : d / ((Nat.gcd n.natAbs d.natAbs : Nat) : Int) = ((Rat.divInt n d).den : Int) := by
  rw [Rat.den_divInt, if_neg (by omega), Int.gcd_comm]
  have : (d.natAbs : Int) = d := by omega
  show d / ((Int.gcd n d : Nat) : Int) = ((d.natAbs / Int.gcd n d : Nat) : Int)
  rw [Int.natCast_ediv, this]
theorem divInt_neg2 (n d : Int) : Rat.divInt (-n) (-d) = Rat.divInt n d := by rw [Rat.divInt_neg', Int.neg_neg]
theorem sz_divInt {B : Nat} {n d : Int} (h : d ≠ 0) (hn : n.natAbs < 2 ^ B) (hd : d.natAbs < 2 ^ B) : Sz B (Rat.divInt n d) := by
  refine ⟨?_, ?_⟩
  · rw [Rat.num_divInt]
    refine Nat.lt_of_le_of_lt ?_ hn
    rw [Int.natAbs_ediv_of_dvd]
    · refine Nat.le_trans (Nat.div_le_self _ _) ?_
      rw [Int.natAbs_mul, Int.natAbs_sign, if_neg h, Nat.one_mul]
      exact Nat.le_refl _
    · exact Int.dvd_trans (Int.gcd_dvd_right _ _) (Int.dvd_mul_left _ _)
  · rw [Rat.den_divInt, if_neg h]
    exact Nat.lt_of_le_of_lt (Nat.div_le_self _ _) hd
theorem na_mul {a b : Int} {B C : Nat} (ha : a.natAbs < 2 ^ B) (hb : b.natAbs < 2 ^ C) : (a * b).natAbs < 2 ^ (B + C) := L2.wide_lt ha hb
theorem na_add {a b : Int} {B : Nat} (ha : a.natAbs < 2 ^ B) (hb : b.natAbs < 2 ^ B) : (a + b).natAbs < 2 ^ (B + 1) := by
  have := Int.natAbs_add_le a b
  rw [Nat.pow_succ]; omega
theorem na_sub {a b : Int} {B : Nat} (ha : a.natAbs < 2 ^ B) (hb : b.natAbs < 2 ^ B) : (a - b).natAbs < 2 ^ (B + 1) := by
  have := Int.natAbs_sub_le a b
  rw [Nat.pow_succ]; omega
theorem na_up {a : Int} {B C : Nat} (ha : a.natAbs < 2 ^ B) (h : B ≤ C) : a.natAbs < 2 ^ C := Nat.lt_of_lt_of_le ha (two_le h)
theorem Sz.dz {B : Nat} {q : Rat} (h : Sz B q) : (q.den : Int).natAbs < 2 ^ B := by rw [Int.natAbs_natCast]; exact h.d
theorem Sz.add {B : Nat} {a b : Rat} (ha : Sz B a) (hb : Sz B b) : Sz (B + B + 1) (a + b) := by
  rw [← q_add]
  exact sz_divInt (Int.mul_ne_zero (den0 a) (den0 b)) (na_add (na_mul ha.n hb.dz) (na_mul hb.n ha.dz)) (na_up (na_mul ha.dz hb.dz) (by omega))
theorem Sz.sub {B : Nat} {a b : Rat} (ha : Sz B a) (hb : Sz B b) : Sz (B + B + 1) (a - b) := by
  rw [← q_sub]
  exact sz_divInt (Int.mul_ne_zero (den0 a) (den0 b)) (na_sub (na_mul ha.n hb.dz) (na_mul hb.n ha.dz)) (na_up (na_mul ha.dz hb.dz) (by omega))
theorem Sz.mul {B : Nat} {a b : Rat} (ha : Sz B a) (hb : Sz B b) : Sz (B + B) (a * b) := by
  rw [← q_mul]
  exact sz_divInt (Int.mul_ne_zero (den0 a) (den0 b)) (na_mul ha.n hb.n) (na_mul ha.dz hb.dz)
theorem num0 {b : Rat} (h : b ≠ 0) : b.num ≠ 0 := fun z => h (Rat.num_eq_zero.mp z)
theorem Sz.div {B : Nat} {a b : Rat} (ha : Sz B a) (hb : Sz B b) (h : b ≠ 0) : Sz (B + B) (a / b) := by
  rw [← q_div]
  exact sz_divInt (Int.mul_ne_zero (den0 a) (num0 h)) (na_mul ha.n hb.dz) (na_mul ha.dz hb.n)
theorem Sz.zero {B : Nat} (h : 0 < B) : Sz B 0 := ⟨by show 0 < 2 ^ B; exact Nat.two_pow_pos B, by show 1 < 2 ^ B; exact Nat.one_lt_two_pow (by omega)⟩
theorem Sz.one {B : Nat} (h : 0 < B) : Sz B 1 := ⟨by show 1 < 2 ^ B; exact Nat.one_lt_two_pow (by omega), by show 1 < 2 ^ B; exact Nat.one_lt_two_pow (by omega)⟩
/-- * of two ints of few bits -/
theorem mulOk {i j : Int} {B C : Nat} (hi : i.natAbs < 2 ^ B) (hj : j.natAbs < 2 ^ C) (h : B + C < 900000) : MulOk i j :=
  .inr (L2.wide_mul (a := B + 1) (b := C + 1) (na_up hi (by omega)) (na_up hj (by omega)) (by omega) (by omega) (by omega))
theorem mulOkL {i j : Int} (h : i.natAbs < 2 ^ 64) : MulOk i j := .inl (.inl (by omega))
theorem mulOkR {i j : Int} (h : j.natAbs < 2 ^ 64) : MulOk i j := .inl (.inr (by omega))
theorem divOk {i j : Int} {B : Nat} (h : 0 < j) (hj : j.natAbs < 2 ^ B) (hB : B ≤ 9000) : L2.CDivW i j := by
  refine L2.wide_div (b := B) h hj ?_ hB
  rcases Nat.eq_zero_or_pos B with rfl | h0
  · rw [Nat.pow_zero] at hj; omega
  · exact h0
end AL
/-! AL14: plain law: tools for denotations. -/
namespace AL
open PySem

theorem iteY {c : Prop} [Decidable c] {A B : Prop} (h : c) (a : A) : if c then A else B := by rw [if_pos h]; exact a
theorem iteN {c : Prop} [Decidable c] {A B : Prop} (h : ¬c) (b : B) : if c then A else B := by rw [if_neg h]; exact b
theorem iteD {c : Prop} [Decidable c] {A B : Prop} (a : c → A) (b : ¬c → B) : if c then A else B := by
  by_cases h : c
  · rw [if_pos h]; exact a h
  · rw [if_neg h]; exact b h
abbrev nd0 : ([] : List Nat).Nodup := List.nodup_nil
theorem nd1 (i : Nat) : [i].Nodup := List.nodup_cons.mpr ⟨by simp, List.nodup_nil⟩
theorem eqA_int (i j : Int) : eqA (.int i) (.int j) = decide (i = j) := by
  show PyData.eqv (.int i) (.int j) = _
  simp only [PyData.eqv]; rfl
theorem eqOk_int (i : Int) : EqOk (.int i) := ⟨rfl, rfl⟩
theorem eqOk_q (q : Rat) : EqOk (qA q) := ⟨rfl, rfl⟩
theorem eqOk_ii (i j : Int) : EqOk (.tup [.int i, .int j]) := ⟨rfl, rfl⟩
theorem eqA_ii (i j k l : Int) : eqA (.tup [.int i, .int j]) (.tup [.int k, .int l]) = (decide (i = k) && decide (j = l)) := by
  show PyData.eqv (.tuple [.int i, .int j]) (.tuple [.int k, .int l]) = _
  simp only [PyData.eqv, PyData.eqvAll, Bool.and_true]; rfl
theorem eqA_q (a b : Rat) : eqA (qA a) (qA b) = decide (a = b) := by
  unfold qA
  rw [eqA_ii]
  rw [Bool.eq_iff_iff]
  simp only [Bool.and_eq_true, decide_eq_true_eq]
  refine ⟨fun ⟨h1, h2⟩ => Rat.ext h1 (by omega), fun h => by rw [h]; exact ⟨rfl, rfl⟩⟩
theorem onAt_of {xs : List A} {i : Nat} {a : A} {P : A → Prop} (h : xs[i]? = some a) (p : P a) : onAt xs (i : Int) P := by
  have hl := (List.getElem?_eq_some_iff.mp h).1
  have e : L2.atI xs (i : Int) = some a := by
    unfold L2.atI
    rw [ixN_of (by omega) (by simpa using hl)]
    simpa using h
  unfold onAt
  rw [e]
  exact p
theorem onAt_i {xs : List A} {i : Int} {a : A} {P : A → Prop} (h0 : 0 ≤ i) (h : xs[i.toNat]? = some a) (p : P a) : onAt xs i P := by
  have := onAt_of (P := P) h p
  rwa [Int.toNat_of_nonneg h0] at this
/-- x[i], i from the end -/
theorem onAt_neg {xs : List A} {i : Int} {a : A} {P : A → Prop} (h0 : i < 0) (h1 : 0 ≤ i + xs.length) (h : xs[(i + xs.length).toNat]? = some a) (p : P a) : onAt xs i P := by
  have e : L2.atI xs i = some a := by
    unfold L2.atI L2.ixN
    rw [if_neg (by omega), if_pos (by omega)]
    exact h
  unfold onAt
  rw [e]
  exact p
/-- a row by places -/
def tab (n : Nat) (f : Nat → A) : List A := (List.range n).map f
theorem tab_length (n : Nat) (f : Nat → A) : (tab n f).length = n := by unfold tab; rw [List.length_map, List.length_range]
theorem tab_get {n : Nat} {f : Nat → A} {i : Nat} (h : i < n) : (tab n f)[i]? = some (f i) := by
  unfold tab
  rw [List.getElem?_map, List.getElem?_range h]; rfl
theorem onTab {n : Nat} {f : Nat → A} {i : Nat} {P : A → Prop} (h : i < n) (p : P (f i)) : onAt (tab n f) (i : Int) P := onAt_of (tab_get h) p
theorem tab_congr {n : Nat} {f g : Nat → A} (h : ∀ i, i < n → f i = g i) : tab n f = tab n g := List.map_congr_left fun i hi => h i (by simpa using hi)
theorem rgA_tab (n : Nat) : rgA 0 n = tab n fun i => .int i := by
  unfold rgA tab
  exact List.map_congr_left fun i _ => by rw [Int.zero_add]
/-! ### comprehensions -/
abbrev noX : XQ := fun _ _ => False
theorem comp_go {g : DG} {te : DE} {vs : List Nat} {Q : List A → Ev → Prop} {α : Type} {toA f : α → A} {e : Ev} : ∀ (items : List α) (acc : List A), (∀ x ∈ items, ∀ k : A → Ev → Prop, (∀ e', wipeE e' vs = e → k (f x) e') → g (toA x) e fun e1 => te e1 k noX) →
    acc.length + items.length ≤ sizeLine → Q (acc ++ items.map f) e → compA g cYes te vs Q (items.map toA) acc e
  | [], acc, _, _, q => by rw [List.map_nil, List.append_nil] at q; exact q
  | x :: r, acc, h, hl, q => by
    rw [List.length_cons] at hl
    refine h x List.mem_cons_self (fun y e3 => acc.length < sizeLine ∧ compA g cYes te vs Q (r.map toA) (acc ++ [y]) (wipeE e3 vs)) fun e' he' => ⟨by omega, ?_⟩
    rw [he']
    refine comp_go r (acc ++ [f x]) (fun z hz => h z (List.mem_cons_of_mem _ hz)) (by rw [List.length_append]; simp only [List.length_cons, List.length_nil]; omega) ?_
    rw [List.append_assoc]; exact q
/-- each item's value by itself -/
theorem comp_map {g : DG} {te : DE} {vs : List Nat} {Q : List A → Ev → Prop} {α : Type} {toA : α → A} (f : α → A) {e : Ev} (items : List α) (h : ∀ x ∈ items, ∀ k : A → Ev → Prop, (∀ e', wipeE e' vs = e → k (f x) e') → g (toA x) e fun e1 => te e1 k noX)
    (hl : items.length ≤ 1000) (q : Q (items.map f) e) : compA g cYes te vs Q (items.map toA) [] e :=
  comp_go items [] h (Nat.le_trans (by rw [List.length_nil, Nat.zero_add]; exact hl) (by decide)) q
theorem comp_self {g : DG} {te : DE} {vs : List Nat} {Q : List A → Ev → Prop} (f : A → A) {e : Ev} {items : List A} (h : ∀ x ∈ items, ∀ k : A → Ev → Prop, (∀ e', wipeE e' vs = e → k (f x) e') → g x e fun e1 => te e1 k noX)
    (hl : items.length ≤ 1000) (q : Q (items.map f) e) : compA g cYes te vs Q items [] e := by
  have := comp_map (toA := fun x : A => x) (Q := Q) f items h hl q
  rwa [List.map_id''] at this
  intro _; rfl
theorem onInts {ns : List Int} {P : List Int → Prop} (h : P ns) : onSome (intsA (ns.map A.int)) P := by rw [intsA_map]; exact h
theorem onBools {ns : List Bool} {P : List Bool → Prop} (h : P ns) : onSome (bls (ns.map A.bl)) P := by rw [bls_map]; exact h
theorem comp_rg {g : DG} {te : DE} {vs : List Nat} {Q : List A → Ev → Prop} (f : Nat → A) {e : Ev} {n : Nat} (h : ∀ i, i < n → ∀ k : A → Ev → Prop, (∀ e', wipeE e' vs = e → k (f i) e') → g (.int i) e fun e1 => te e1 k noX)
    (hl : n ≤ 1000) (q : Q (tab n f) e) : compA g cYes te vs Q (rgA 0 n) [] e := by
  rw [rgA_tab]
  exact comp_map f (List.range n) (fun i hi => h i (by simpa using hi)) (by rw [List.length_range]; exact hl) q
theorem comp_tab {g : DG} {te : DE} {vs : List Nat} {Q : List A → Ev → Prop} {a : Nat → A} (f : Nat → A) {e : Ev} {n : Nat} (h : ∀ i, i < n → ∀ k : A → Ev → Prop, (∀ e', wipeE e' vs = e → k (f i) e') → g (a i) e fun e1 => te e1 k noX)
    (hl : n ≤ 1000) (q : Q (tab n f) e) : compA g cYes te vs Q (tab n a) [] e :=
  comp_map f (List.range n) (fun i hi => h i (by simpa using hi)) (by rw [List.length_range]; exact hl) q
theorem comp_invGo {g : DG} {te : DE} {vs : List Nat} {Q : List A → Ev → Prop} (I : List A → Ev → Prop) : ∀ (items acc : List A) (e : Ev), I acc e →
    (∀ x ∈ items, ∀ acc e, I acc e → ∀ k : A → Ev → Prop, (∀ y e', I (acc ++ [y]) (wipeE e' vs) → k y e') → g x e fun e1 => te e1 k noX) → acc.length + items.length ≤ sizeLine → (∀ acc' e, I acc' e → acc'.length = acc.length + items.length → Q acc' e) → compA g cYes te vs Q items acc e
  | [], acc, e, h0, _, _, q => q acc e h0 rfl
  | x :: r, acc, e, h0, h, hl, q => by
    rw [List.length_cons] at hl
    refine h x List.mem_cons_self acc e h0 _ fun y e' he' => ⟨by omega, ?_⟩
    refine comp_invGo I r (acc ++ [y]) _ he' (fun z hz => h z (List.mem_cons_of_mem _ hz)) (by rw [List.length_append]; simp only [List.length_cons, List.length_nil]; omega) fun acc' e2 h2 l2 => q acc' e2 h2 ?_
    rw [l2, List.length_append]; simp only [List.length_cons, List.length_nil]; omega
/-- by an invariant of the list so far and the names -/
theorem comp_inv {g : DG} {te : DE} {vs : List Nat} {Q : List A → Ev → Prop} {items : List A} {e : Ev} (I : List A → Ev → Prop) (h0 : I [] e) (h : ∀ x ∈ items, ∀ acc e, I acc e → ∀ k : A → Ev → Prop, (∀ y e', I (acc ++ [y]) (wipeE e' vs) → k y e') → g x e fun e1 => te e1 k noX)
    (hl : items.length ≤ 1000) (q : ∀ acc e, I acc e → acc.length = items.length → Q acc e) : compA g cYes te vs Q items [] e :=
  comp_invGo I items [] e h0 h (Nat.le_trans (by rw [List.length_nil, Nat.zero_add]; exact hl) (by decide)) fun acc e h l => q acc e h (by rw [l, List.length_nil, Nat.zero_add])
/-! ### for -/
theorem for_go {g : DG} {body : DS} {AD : AEnds} {EQ : XQ} (I : Nat → Ev → Prop) : ∀ (items : List A) (k : Nat) (e : Ev), I k e →
    (∀ (j : Nat) (x : A), items[j]? = some x → ∀ e, I (k + j) e → ∀ nx : Ev → Prop, (∀ e', I (k + j + 1) e' → nx e') → g x e fun e1 => body { nx := nx, rt := AD.rt, bk := AD.nx, ct := nx } EQ e1) →
    (∀ e, I (k + items.length) e → AD.nx e) → forL g body AD EQ items e
  | [], k, e, h0, _, q => q e h0
  | x :: r, k, e, h0, h, q => by
    refine h 0 x rfl e h0 _ fun e' h1 => ?_
    refine for_go I r (k + 1) e' h1 (fun j y hy e2 h2 nx hn => h (j + 1) y (by simpa using hy) e2 (by rw [show k + (j + 1) = k + 1 + j by omega]; exact h2) nx (by rw [show k + (j + 1) = k + 1 + j by omega]; exact hn)) fun e2 h2 => q e2 ?_
    rw [List.length_cons, show k + (r.length + 1) = k + 1 + r.length by omega]; exact h2
theorem for_inv {g : DG} {body : DS} {AD : AEnds} {EQ : XQ} {items : List A} {e : Ev} (I : Nat → Ev → Prop) (h0 : I 0 e)
    (h : ∀ (j : Nat) (x : A), items[j]? = some x → ∀ e, I j e → ∀ nx : Ev → Prop, (∀ e', I (j + 1) e' → nx e') → g x e fun e1 => body { nx := nx, rt := AD.rt, bk := AD.nx, ct := nx } EQ e1)
    (q : ∀ e, I items.length e → AD.nx e) : forL g body AD EQ items e :=
  for_go I items 0 e h0 (fun j x hx e h1 nx hn => h j x hx e (by rwa [Nat.zero_add] at h1) nx (by rwa [Nat.zero_add] at hn)) (by rw [Nat.zero_add]; exact q)
theorem for_rg {g : DG} {body : DS} {AD : AEnds} {EQ : XQ} {n : Nat} {e : Ev} (I : Nat → Ev → Prop) (h0 : I 0 e)
    (h : ∀ (j : Nat), j < n → ∀ e, I j e → ∀ nx : Ev → Prop, (∀ e', I (j + 1) e' → nx e') → g (.int j) e fun e1 => body { nx := nx, rt := AD.rt, bk := AD.nx, ct := nx } EQ e1)
    (q : ∀ e, I n e → AD.nx e) : forL g body AD EQ (rgA 0 n) e := by
  refine for_inv I h0 (fun j x hx e h1 nx hn => ?_) (by rw [rgA_length]; exact q)
  have hj : j < n := by
    have := (List.getElem?_eq_some_iff.mp hx).1
    rwa [rgA_length] at this
  rw [rgA_tab, tab_get hj] at hx
  cases hx
  exact h j hj e h1 nx hn
/-! ### a call's arguments -/
section
variable {e : Ev} {P : List Slot → Prop} {a b c d : A} {i : Nat} {k : Bool} {xs : List A}
theorem cV1 (h : P [.sh a]) : (bors [.v a]).Nodup ∧ argSs e [.v a] P := ⟨nd0, h⟩
theorem cV2 (h : P [.sh a, .sh b]) : (bors [.v a, .v b]).Nodup ∧ argSs e [.v a, .v b] P := ⟨nd0, h⟩
theorem cV3 (h : P [.sh a, .sh b, .sh c]) : (bors [.v a, .v b, .v c]).Nodup ∧ argSs e [.v a, .v b, .v c] P := ⟨nd0, h⟩
theorem cV4 (h : P [.sh a, .sh b, .sh c, .sh d]) : (bors [.v a, .v b, .v c, .v d]).Nodup ∧ argSs e [.v a, .v b, .v c, .v d] P := ⟨nd0, h⟩
theorem bor_of {r : List Arg} (g : gt e i = .ow k xs) (h : argSs e r fun s => P (.ow true xs :: s)) : argSs e (.bor i :: r) P := by
  show (match gt e i with
    | .ow _ xs => argSs e r fun s => P (.ow true xs :: s)
    | _ => False)
  rw [g]; exact h
theorem cB0 (g : gt e i = .ow k xs) (h : P [.ow true xs]) : (bors [.bor i]).Nodup ∧ argSs e [.bor i] P := ⟨nd1 i, bor_of g h⟩
theorem cB1 (g : gt e i = .ow k xs) (h : P [.ow true xs, .sh a]) : (bors [.bor i, .v a]).Nodup ∧ argSs e [.bor i, .v a] P := ⟨nd1 i, bor_of g h⟩
theorem cB2 (g : gt e i = .ow k xs) (h : P [.ow true xs, .sh a, .sh b]) : (bors [.bor i, .v a, .v b]).Nodup ∧ argSs e [.bor i, .v a, .v b] P := ⟨nd1 i, bor_of g h⟩
theorem cB3 (g : gt e i = .ow k xs) (h : P [.ow true xs, .sh a, .sh b, .sh c]) : (bors [.bor i, .v a, .v b, .v c]).Nodup ∧ argSs e [.bor i, .v a, .v b, .v c] P := ⟨nd1 i, bor_of g h⟩
end
/-! ### sums of Rat -/
def sm : Nat → (Nat → Rat) → Rat
  | 0, _ => 0
  | n + 1, f => sm n f + f n
theorem sm_congr {f g : Nat → Rat} : ∀ n, (∀ i, i < n → f i = g i) → sm n f = sm n g
  | 0, _ => rfl
  | n + 1, h => by
    show sm n f + f n = sm n g + g n
    rw [sm_congr n fun i hi => h i (by omega), h n (by omega)]
theorem sm_add (f g : Nat → Rat) : ∀ n, sm n (fun i => f i + g i) = sm n f + sm n g
  | 0 => by show (0 : Rat) = 0 + 0; grind
  | n + 1 => by
    show sm n (fun i => f i + g i) + (f n + g n) = sm n f + f n + (sm n g + g n)
    rw [sm_add f g n]; grind
theorem sm_mul (c : Rat) (f : Nat → Rat) : ∀ n, sm n (fun i => c * f i) = c * sm n f
  | 0 => by show (0 : Rat) = c * 0; grind
  | n + 1 => by
    show sm n (fun i => c * f i) + c * f n = c * (sm n f + f n)
    rw [sm_mul c f n]; grind
theorem sm_nonneg {f : Nat → Rat} : ∀ n, (∀ i, i < n → 0 ≤ f i) → 0 ≤ sm n f
  | 0, _ => by show (0 : Rat) ≤ 0; grind
  | n + 1, h => by
    show 0 ≤ sm n f + f n
    have h1 := sm_nonneg n fun i hi => h i (by omega)
    have h2 := h n (by omega)
    grind
theorem sm_le {f g : Nat → Rat} : ∀ n, (∀ i, i < n → f i ≤ g i) → sm n f ≤ sm n g
  | 0, _ => by show (0 : Rat) ≤ 0; grind
  | n + 1, h => by
    show sm n f + f n ≤ sm n g + g n
    have h1 := sm_le n fun i hi => h i (by omega)
    have h2 := h n (by omega)
    grind
/-- one place put to zero -/
theorem sm_but {f : Nat → Rat} {q : Nat} : ∀ n, q < n → sm n (fun i => if i = q then 0 else f i) = sm n f - f q
  | 0, h => absurd h (Nat.not_lt_zero _)
  | n + 1, h => by
    show sm n (fun i => if i = q then 0 else f i) + (if n = q then 0 else f n) = sm n f + f n - f q
    by_cases e : n = q
    · subst e
      rw [if_pos rfl, sm_congr (g := f) n fun i hi => if_neg (by omega)]; grind
    · rw [if_neg e, sm_but n (by omega)]; grind
theorem sm_one {f : Nat → Rat} {n i : Nat} (hi : i < n) (h : ∀ j, j < n → 0 ≤ f j) : f i ≤ sm n f := by
  have h1 := sm_but (f := f) n hi
  have h2 : 0 ≤ sm n (fun j => if j = i then 0 else f j) := sm_nonneg n fun j hj => by
    show 0 ≤ if j = i then 0 else f j
    split
    · grind
    · exact h j hj
  grind
theorem sm_list {f : Nat → Rat} : ∀ n, sm n f = ((List.range n).map f).foldl (· + ·) 0
  | 0 => rfl
  | n + 1 => by
    rw [List.range_succ, List.map_append, List.foldl_append, ← sm_list n]; rfl
end AL
/-! AL15: plain law: things of any kind, fractions among them. -/
namespace AL
open PySem

mutual
/-- nothing but None, bools, texts, ints of fewer than B bits and tuples of such -/
def bnd (B : Nat) : A → Bool
  | .non => true
  | .bl _ => true
  | .str _ => true
  | .int i => decide (i.natAbs < 2 ^ B)
  | .tup xs => bnds B xs
  | .lst _ => false
  | .scr _ => false
def bnds (B : Nat) : List A → Bool
  | [] => true
  | x :: xs => bnd B x && bnds B xs
end
theorem bnd_tup {B : Nat} {xs : List A} : bnd B (.tup xs) = bnds B xs := by unfold bnd; rfl
theorem bnd_int {B : Nat} {i : Int} : bnd B (.int i) = decide (i.natAbs < 2 ^ B) := by unfold bnd; rfl
theorem bnds_iff {B : Nat} : ∀ {xs : List A}, bnds B xs = true ↔ ∀ x ∈ xs, bnd B x = true
  | [] => by simp [bnds]
  | x :: xs => by
    simp only [bnds, Bool.and_eq_true, List.mem_cons]
    rw [bnds_iff (xs := xs)]
    exact ⟨fun ⟨h1, h2⟩ y hy => by rcases hy with rfl | hy; exact h1; exact h2 y hy, fun h => ⟨h x (.inl rfl), fun y hy => h y (.inr hy)⟩⟩
theorem bnd_q {B : Nat} {q : Rat} (h : Sz B q) : bnd B (qA q) = true := by
  unfold qA
  rw [bnd_tup]
  simp only [bnds, bnd, Bool.and_true, Bool.and_eq_true, decide_eq_true_eq]
  exact ⟨h.n, h.dz⟩
mutual
theorem bnd_up {B C : Nat} (l : B ≤ C) : ∀ x : A, bnd B x = true → bnd C x = true
  | .non, _ => by simp [bnd]
  | .bl _, _ => by simp [bnd]
  | .str _, _ => by simp [bnd]
  | .int i, h => by
    rw [bnd_int, decide_eq_true_eq] at h ⊢
    exact na_up h l
  | .tup xs, h => by
    rw [bnd_tup] at h ⊢
    exact bnds_up l xs h
  | .lst _, h => by simp [bnd] at h
  | .scr _, h => by simp [bnd] at h
theorem bnds_up {B C : Nat} (l : B ≤ C) : ∀ xs : List A, bnds B xs = true → bnds C xs = true
  | [], _ => by simp [bnds]
  | x :: xs, h => by
    simp only [bnds, Bool.and_eq_true] at h ⊢
    exact ⟨bnd_up l x h.1, bnds_up l xs h.2⟩
end
theorem isTy_tuple (x : A) : isTy (tyN x) "tuple" = (match x with | .tup _ => true | _ => false) := by cases x <;> simp [isTy, tyN]
theorem isTy_int (x : A) : isTy (tyN x) "int" = (match x with | .int _ => true | .bl _ => true | _ => false) := by cases x <;> simp [isTy, tyN]
theorem isTy_bool (x : A) : isTy (tyN x) "bool" = (match x with | .bl _ => true | _ => false) := by cases x <;> simp [isTy, tyN]
def isInt : A → Bool
  | .int _ => true
  | _ => false
def isTup : A → Bool
  | .tup _ => true
  | _ => false
/-- what a fraction tells -/
def frOf : A → Option Rat
  | .tup [.int n, .int d] => if 1 ≤ d ∧ Nat.gcd n.natAbs d.natAbs = 1 then some (Rat.divInt n d) else none
  | _ => none
theorem frOf_q (q : Rat) : frOf (qA q) = some q := by
  unfold qA frOf
  have h : 1 ≤ (q.den : Int) ∧ Nat.gcd q.num.natAbs (q.den : Int).natAbs = 1 := ⟨by have := denp q; omega, by rw [Int.natAbs_natCast]; exact q.reduced⟩
  show (if 1 ≤ (q.den : Int) ∧ Nat.gcd q.num.natAbs (q.den : Int).natAbs = 1 then some (Rat.divInt q.num q.den) else none) = some q
  rw [if_pos h, Rat.num_divInt_den]
theorem frOf_ii {n d : Int} : frOf (.tup [.int n, .int d]) = if 1 ≤ d ∧ Nat.gcd n.natAbs d.natAbs = 1 then some (Rat.divInt n d) else none := rfl
theorem frOf_eq {x : A} {q : Rat} (h : frOf x = some q) : x = qA q := by
  unfold frOf at h
  split at h
  · rename_i n d
    split at h
    · rename_i hc
      cases h
      unfold qA
      have hp : 0 < d := by omega
      have e1 := fr_num (n := n) hp
      have e2 := fr_den (n := n) hp
      rw [hc.2] at e1 e2
      rw [← e1, ← e2]
      simp
    · cases h
  · cases h
def isAmt (x : A) : Bool := match frOf x with
  | some q => decide (0 ≤ q)
  | none => false
theorem isAmt_q (q : Rat) : isAmt (qA q) = decide (0 ≤ q) := by unfold isAmt; rw [frOf_q]
theorem isAmt_ex {x : A} (h : isAmt x = true) : ∃ q, x = qA q ∧ 0 ≤ q := by
  unfold isAmt at h
  split at h
  · rename_i q hq
    exact ⟨q, frOf_eq hq, of_decide_eq_true h⟩
  · cases h
theorem amts_ex : ∀ {xs : List A}, xs.all isAmt = true → ∃ qs : List Rat, xs = qs.map qA ∧ ∀ q ∈ qs, 0 ≤ q
  | [], _ => ⟨[], rfl, fun _ h => absurd h (by simp)⟩
  | x :: xs, h => by
    rw [List.all_cons, Bool.and_eq_true] at h
    obtain ⟨q, rfl, hq⟩ := isAmt_ex h.1
    obtain ⟨qs, rfl, hqs⟩ := amts_ex h.2
    exact ⟨q :: qs, rfl, fun z hz => by rcases List.mem_cons.mp hz with rfl | hz; exact hq; exact hqs z hz⟩
theorem sz_of_bnd {B : Nat} {q : Rat} (h : bnd B (qA q) = true) : Sz B q := by
  unfold qA at h
  rw [bnd_tup] at h
  simp only [bnds, bnd, Bool.and_true, Bool.and_eq_true, decide_eq_true_eq] at h
  exact ⟨h.1, by have := h.2; rwa [Int.natAbs_natCast] at this⟩
end AL
/-! AL16: plain law: sums of fractions over one bottom, gcd. -/
namespace AL
open PySem
theorem divInt_addS {a b L : Int} (h : L ≠ 0) : Rat.divInt a L + Rat.divInt b L = Rat.divInt (a + b) L := by
  rw [Rat.divInt_add_divInt _ _ h h, Rat.divInt_eq_divInt_iff (Int.mul_ne_zero h h) h]
  grind
theorem divInt_top {q : Rat} {L : Int} (h : L ≠ 0) (hd : (q.den : Int) ∣ L) : Rat.divInt (q.num * (L / q.den)) L = q := by
  obtain ⟨k, rfl⟩ := hd
  rw [Int.mul_ediv_cancel_left _ (den0 q)]
  have : Rat.divInt (q.num * k) (q.den * k) = Rat.divInt q.num q.den := by
    rw [Rat.divInt_eq_divInt_iff h (den0 q)]
    grind
  rw [this, Rat.num_divInt_den]
theorem divInt_sum {L : Int} (h : L ≠ 0) : ∀ {qs : List Rat}, (∀ q ∈ qs, (q.den : Int) ∣ L) → Rat.divInt (qs.map fun q => q.num * (L / q.den)).sum L = qs.sum
  | [], _ => by
    show Rat.divInt 0 L = 0
    exact Rat.zero_divInt L
  | q :: qs, hd => by
    rw [List.map_cons, List.sum_cons, List.sum_cons, ← divInt_addS h, divInt_top h (hd q List.mem_cons_self), divInt_sum h fun z hz => hd z (List.mem_cons_of_mem _ hz)]
theorem na_sum {B : Nat} : ∀ {xs : List Int}, (∀ x ∈ xs, x.natAbs < 2 ^ B) → xs.sum.natAbs < 2 ^ (B + xs.length)
  | [], _ => Nat.two_pow_pos _
  | x :: xs, h => by
    rw [List.sum_cons, List.length_cons]
    have h1 := h x List.mem_cons_self
    have h2 := na_sum fun z hz => h z (List.mem_cons_of_mem _ hz)
    exact na_add (na_up h1 (Nat.le_add_right _ _)) h2
/-- the lesser common bottom -/
theorem gcdI_pos {a b : Int} (h : 0 < b) : (0 : Int) < ((Nat.gcd a.natAbs b.natAbs : Nat) : Int) := by
  have := Nat.gcd_pos_of_pos_right a.natAbs (show 0 < b.natAbs by omega)
  omega
theorem gcdI_dl (a b : Int) : ((Nat.gcd a.natAbs b.natAbs : Nat) : Int) ∣ a := Int.gcd_dvd_left a b
theorem gcdI_dr (a b : Int) : ((Nat.gcd a.natAbs b.natAbs : Nat) : Int) ∣ b := Int.gcd_dvd_right a b
theorem gcdI_lt {a b : Int} {B : Nat} (h : 0 < b) (hb : b.natAbs < 2 ^ B) : ((Nat.gcd a.natAbs b.natAbs : Nat) : Int).natAbs < 2 ^ B := by
  have := Nat.gcd_le_right a.natAbs (show 0 < b.natAbs by omega)
  omega
theorem na_div {a b : Int} {B : Nat} (ha : a.natAbs < 2 ^ B) (hb : 0 < b) (hd : b ∣ a) : (a / b).natAbs < 2 ^ B := by
  rw [Int.natAbs_ediv_of_dvd hd]
  exact Nat.lt_of_le_of_lt (Nat.div_le_self _ _) ha
theorem div_pos' {a b : Int} (ha : 0 < a) (hb : 0 < b) (hd : b ∣ a) : 0 < a / b := by
  obtain ⟨k, rfl⟩ := hd
  rw [Int.mul_ediv_cancel_left _ (by omega)]
  exact Int.pos_of_mul_pos_right ha (by omega)
/-- one step of a sum -/
theorem sum_step {t b n d : Int} (hb : 0 < b) (hd : 0 < d) : Rat.divInt (t * (d / ((Nat.gcd b.natAbs d.natAbs : Nat) : Int)) + n * (b / ((Nat.gcd b.natAbs d.natAbs : Nat) : Int))) (b * (d / ((Nat.gcd b.natAbs d.natAbs : Nat) : Int))) = Rat.divInt t b + Rat.divInt n d := by
  have hg := gcdI_pos (a := b) hd
  obtain ⟨d', h1⟩ := gcdI_dr b d
  obtain ⟨b', h2⟩ := gcdI_dl b d
  generalize ((Nat.gcd b.natAbs d.natAbs : Nat) : Int) = g at hg h1 h2
  subst h1
  have hd' : d' ≠ 0 := fun z => by rw [z] at hd; simp at hd
  rw [Int.mul_ediv_cancel_left _ (by omega : g ≠ 0), h2, Int.mul_ediv_cancel_left _ (by omega : g ≠ 0), ← h2, Rat.divInt_add_divInt _ _ (by omega) (by omega), Rat.divInt_eq_divInt_iff (Int.mul_ne_zero (by omega) hd') (Int.mul_ne_zero (by omega) (by omega))]
  rw [h2]
  grind
theorem na_mulS {a b : Int} {B C D : Nat} (ha : a.natAbs < 2 ^ B) (hb : b.natAbs < 2 ^ C) (h : B + C ≤ D) : (a * b).natAbs < 2 ^ D := na_up (na_mul ha hb) h
/-- Euclid -/
theorem gcd_step {a b : Int} (ha : 0 ≤ a) (hb : 0 < b) : Nat.gcd a.natAbs b.natAbs = Nat.gcd b.natAbs (a % b).natAbs := by
  obtain ⟨x, rfl⟩ := Int.eq_ofNat_of_zero_le ha
  obtain ⟨y, rfl⟩ := Int.eq_ofNat_of_zero_le (Int.le_of_lt hb)
  rw [← Int.natCast_emod, Int.natAbs_natCast, Int.natAbs_natCast, Int.natAbs_natCast, Nat.gcd_comm, Nat.gcd_rec, Nat.gcd_comm]
end AL
/-! AL17: plain law: graphs of questions that pass on. -/
namespace AL
open PySem
def passesA (n : Nat) (p : Nat → Nat → Rat) : A := .tup (tab n fun i => .tup (tab n fun j => qA (p i j)))
def ratesA (n : Nat) (r : Nat → Rat) : A := .tup (tab n fun i => qA (r i))
def gA (n : Nat) (r : Nat → Rat) (p : Nat → Nat → Rat) : A := .tup [ratesA n r, passesA n p]
def takenP (p : Nat → Nat → Rat) (q i j : Nat) : Rat := if i = j ∨ i = q ∨ j = q then 0 else if p i q * p q i = 1 then 0 else (p i j + p i q * p q j) / (1 - p i q * p q i)
def takenR (r : Nat → Rat) (p : Nat → Nat → Rat) (q i : Nat) : Rat := if i = q then 0 else r i + r q * p q i
/-- of few bits -/
structure GSz (n B : Nat) (r : Nat → Rat) (p : Nat → Nat → Rat) : Prop where
  n5 : n ≤ 5
  b0 : 0 < B
  r : ∀ i, i < n → Sz B (r i)
  p : ∀ i j, i < n → j < n → Sz B (p i j)
/-- rates and rows that sum to at most 1 -/
structure GOk (n : Nat) (r : Nat → Rat) (p : Nat → Nat → Rat) : Prop where
  n1 : 1 ≤ n
  n5 : n ≤ 5
  r0 : ∀ i, i < n → 0 ≤ r i
  r1 : sm n r ≤ 1
  p0 : ∀ i j, i < n → j < n → 0 ≤ p i j
  p1 : ∀ i, i < n → sm n (p i) ≤ 1
  d0 : ∀ i, i < n → p i i = 0
theorem div_le1 {a b : Rat} (hb : 0 < b) (h : a ≤ b) : a / b ≤ 1 := by
  have h1 : 0 ≤ b⁻¹ := Rat.le_of_lt (Rat.inv_pos.mpr hb)
  have h2 := Rat.mul_le_mul_of_nonneg_right h h1
  have h3 : b * b⁻¹ = 1 := Rat.mul_inv_cancel b (fun z => by rw [z] at hb; exact absurd hb (by decide))
  rw [Rat.div_def]; grind
theorem div_nn {a b : Rat} (hb : 0 < b) (h : 0 ≤ a) : 0 ≤ a / b := by
  rw [Rat.div_def]
  exact Rat.mul_nonneg h (Rat.le_of_lt (Rat.inv_pos.mpr hb))
section
variable {n : Nat} {r : Nat → Rat} {p : Nat → Nat → Rat}
theorem GOk.le (g : GOk n r p) {i j : Nat} (hi : i < n) (hj : j < n) : p i j ≤ 1 := by
  have := sm_one hj fun k hk => g.p0 i k hi hk
  have := g.p1 i hi
  grind
theorem GOk.back (g : GOk n r p) {i j : Nat} (hi : i < n) (hj : j < n) : p i j * p j i ≤ 1 := by
  have h1 := g.le hi hj
  have h2 := g.le hj hi
  have h3 := Rat.mul_le_mul_of_nonneg_left h2 (g.p0 i j hi hj)
  grind
theorem GOk.taken (g : GOk n r p) {q : Nat} (hq : q < n) : GOk n (takenR r p q) (takenP p q) := by
  have bk : ∀ i, i < n → ¬ p i q * p q i = 1 → 0 < 1 - p i q * p q i := fun i hi hne => by
    have := g.back hi hq
    grind
  refine ⟨g.n1, g.n5, fun i hi => ?_, ?_, fun i j hi hj => ?_, fun i hi => ?_, fun i hi => ?_⟩
  · unfold takenR
    split
    · exact Rat.le_refl
    · have := Rat.mul_nonneg (g.r0 q hq) (g.p0 q i hq hi)
      have := g.r0 i hi
      grind
  · have e : sm n (takenR r p q) = sm n (fun i => r i + r q * p q i) - (r q + r q * p q q) := by
      rw [← sm_but (f := fun i => r i + r q * p q i) n hq]
      exact sm_congr n fun i _ => rfl
    rw [e, sm_add, sm_mul, g.d0 q hq]
    have h1 := g.r1
    have h2 := Rat.mul_le_mul_of_nonneg_left (g.p1 q hq) (g.r0 q hq)
    grind
  · unfold takenP
    split
    · exact Rat.le_refl
    · split
      · exact Rat.le_refl
      · rename_i h
        refine div_nn (bk i hi h) ?_
        have := Rat.mul_nonneg (g.p0 i q hi hq) (g.p0 q j hq hj)
        have := g.p0 i j hi hj
        grind
  · by_cases hiq : i = q
    · have : sm n (takenP p q i) = sm n fun _ => 0 := sm_congr n fun j _ => by unfold takenP; rw [if_pos (.inr (.inl hiq))]
      rw [this]
      have z : sm n (fun _ => (0 : Rat)) = 0 := by
        have := sm_mul 0 (fun _ => 0) n
        rw [show (fun (_ : Nat) => (0 : Rat) * 0) = fun _ => 0 from funext fun _ => by grind] at this
        rw [this]; grind
      rw [z]; decide
    · by_cases hb : p i q * p q i = 1
      · have : sm n (takenP p q i) = sm n fun _ => 0 := sm_congr n fun j _ => by
          unfold takenP
          split
          · rfl
          · rfl
        rw [this]
        have z : sm n (fun _ => (0 : Rat)) = 0 := by
          have := sm_mul 0 (fun _ => 0) n
          rw [show (fun (_ : Nat) => (0 : Rat) * 0) = fun _ => 0 from funext fun _ => by grind] at this
          rw [this]; grind
        rw [z]; decide
      · have hp := bk i hi hb
        have e : sm n (takenP p q i) = sm n (fun j => (1 - p i q * p q i)⁻¹ * (if j = i then 0 else if j = q then 0 else p i j + p i q * p q j)) := sm_congr n fun j _ => by
          unfold takenP
          by_cases h1 : j = i
          · rw [if_pos (.inl h1.symm), if_pos h1]; grind
          · by_cases h2 : j = q
            · rw [if_pos (.inr (.inr h2)), if_neg h1, if_pos h2]; grind
            · rw [if_neg (fun z => by rcases z with z | z | z; exact h1 z.symm; exact hiq z; exact h2 z), if_neg hb, if_neg h1, if_neg h2, Rat.div_def]; grind
        rw [e, sm_mul, sm_but (f := fun j => if j = q then 0 else p i j + p i q * p q j) n hi, sm_but (f := fun j => p i j + p i q * p q j) n hq, sm_add, sm_mul, if_neg hiq, g.d0 i hi, g.d0 q hq]
        have h1 := g.p1 i hi
        have h2 := Rat.mul_le_mul_of_nonneg_left (g.p1 q hq) (g.p0 i q hi hq)
        have h3 := div_le1 hp (a := sm n (p i) + p i q * sm n (p q) - (p i q + p i q * 0) - (0 + p i q * p q i)) (by grind)
        rw [Rat.div_def] at h3
        grind
  · unfold takenP
    rw [if_pos (.inl rfl)]
theorem GSz.up {B C : Nat} (g : GSz n B r p) (h : B ≤ C) : GSz n C r p := ⟨g.n5, Nat.lt_of_lt_of_le g.b0 h, fun i hi => (g.r i hi).mono h, fun i j hi hj => (g.p i j hi hj).mono h⟩
theorem sz_takenP {B : Nat} (g : GSz n B r p) {q i j : Nat} (hq : q < n) (hi : i < n) (hj : j < n) : Sz (8 * B + 2) (takenP p q i j) := by
  have b0 := g.b0
  unfold takenP
  split
  · exact Sz.zero (by omega)
  · split
    · exact Sz.zero (by omega)
    · rename_i h
      have h1 := ((g.p i j hi hj).mono (show B ≤ B + B by omega)).add ((g.p i q hi hq).mul (g.p q j hq hj))
      have h2 := (Sz.one (B := B + B) (by omega)).sub ((g.p i q hi hq).mul (g.p q i hq hi))
      exact (h1.div h2 (by grind)).mono (by omega)
theorem sz_takenR {B : Nat} (g : GSz n B r p) {q i : Nat} (hq : q < n) (hi : i < n) : Sz (8 * B + 2) (takenR r p q i) := by
  have b0 := g.b0
  unfold takenR
  split
  · exact Sz.zero (by omega)
  · exact (((g.r i hi).mono (show B ≤ B + B by omega)).add ((g.r q hq).mul (g.p q i hq hi))).mono (by omega)
theorem GSz.taken {B : Nat} (g : GSz n B r p) {q : Nat} (hq : q < n) : GSz n (8 * B + 2) (takenR r p q) (takenP p q) := ⟨g.n5, by omega, fun i hi => sz_takenR g hq hi, fun i j hi hj => sz_takenP g hq hi hj⟩
theorem bnds_tab {B : Nat} {f : Nat → A} (h : ∀ i, i < n → bnd B (f i) = true) : bnds B (tab n f) = true := bnds_iff.mpr fun x hx => by
  unfold tab at hx
  obtain ⟨i, hi, rfl⟩ := List.mem_map.mp hx
  exact h i (by simpa using hi)
theorem bnd_rates {B : Nat} (h : ∀ i, i < n → Sz B (r i)) : bnd B (ratesA n r) = true := by
  unfold ratesA
  rw [bnd_tup]
  exact bnds_tab fun i hi => bnd_q (h i hi)
theorem bnd_passes {B : Nat} (h : ∀ i j, i < n → j < n → Sz B (p i j)) : bnd B (passesA n p) = true := by
  unfold passesA
  rw [bnd_tup]
  exact bnds_tab fun i hi => bnd_rates (r := p i) fun j hj => h i j hi hj
theorem bnd_g {B : Nat} (g : GSz n B r p) : bnd B (gA n r p) = true := by
  unfold gA
  rw [bnd_tup]
  simp only [bnds, Bool.and_true, Bool.and_eq_true]
  exact ⟨bnd_rates g.r, bnd_passes g.p⟩
end
end AL
/-! AL18: plain law: cuts, comprehensions with their place, rows. -/
namespace AL
open PySem
theorem cut_take (xs : List A) {k : Int} (h : 0 ≤ k) : cutA xs none (some k) = xs.take k.toNat := by
  obtain ⟨n, rfl⟩ := Int.eq_ofNat_of_zero_le h
  unfold cutA
  rw [HT.sIx_none, HT.sIx_nat, List.drop_zero, Int.toNat_natCast, Nat.sub_zero]
  rcases Nat.le_total n xs.length with h1 | h1
  · rw [Nat.min_eq_left h1]
  · rw [Nat.min_eq_right h1, List.take_of_length_le (Nat.le_refl _), List.take_of_length_le h1]
theorem cut_drop (xs : List A) {k : Int} (h : 0 ≤ k) : cutA xs (some k) none = xs.drop k.toNat := by
  obtain ⟨n, rfl⟩ := Int.eq_ofNat_of_zero_le h
  unfold cutA
  rw [HT.sIx_none, HT.sIx_nat, Int.toNat_natCast]
  rcases Nat.le_total n xs.length with h1 | h1
  · rw [Nat.min_eq_left h1, List.take_of_length_le (by rw [List.length_drop]; exact Nat.le_refl _)]
  · rw [Nat.min_eq_right h1, List.drop_of_length_le (Nat.le_refl _), List.drop_of_length_le h1]; simp
theorem cut_sub {xs : List A} {lo hi : Option Int} {x : A} (h : x ∈ cutA xs lo hi) : x ∈ xs := List.mem_of_mem_drop (List.mem_of_mem_take h)
theorem cut_len (xs : List A) (lo hi : Option Int) : (cutA xs lo hi).length ≤ xs.length := by
  unfold cutA
  rw [List.length_take, List.length_drop]; omega
theorem comp_goI {g : DG} {te : DE} {vs : List Nat} {Q : List A → Ev → Prop} {n : Nat} (I : List A → Ev → Prop) (hl : n ≤ 1000) (h : ∀ acc e, acc.length < n → I acc e → ∀ k : A → Ev → Prop, (∀ y e', I (acc ++ [y]) (wipeE e' vs) → k y e') → g (.int (acc.length : Nat)) e fun e1 => te e1 k noX)
    (q : ∀ acc e, I acc e → acc.length = n → Q acc e) : ∀ (m : Nat) (acc : List A) (e : Ev), I acc e → acc.length + m = n → compA g cYes te vs Q ((List.range' acc.length m).map fun (k : Nat) => A.int (k : Int)) acc e
  | 0, acc, e, hi, hn => q acc e hi (by omega)
  | m + 1, acc, e, hi, hn => by
    rw [List.range'_succ, List.map_cons]
    refine h acc e (by omega) hi _ fun y e' hy => ⟨Nat.lt_of_lt_of_le (show acc.length < 1001 by omega) (by decide), ?_⟩
    have := comp_goI I hl h q m (acc ++ [y]) _ hy (by rw [List.length_append]; simp only [List.length_cons, List.length_nil]; omega)
    rw [List.length_append] at this
    exact this
/-- by an invariant, the place being told -/
theorem comp_rgI {g : DG} {te : DE} {vs : List Nat} {Q : List A → Ev → Prop} {n : Nat} {e : Ev} (I : List A → Ev → Prop) (h0 : I [] e) (h : ∀ acc e, acc.length < n → I acc e → ∀ k : A → Ev → Prop, (∀ y e', I (acc ++ [y]) (wipeE e' vs) → k y e') → g (.int (acc.length : Nat)) e fun e1 => te e1 k noX)
    (hl : n ≤ 1000) (q : ∀ acc e, I acc e → acc.length = n → Q acc e) : compA g cYes te vs Q (rgA 0 n) [] e := by
  have := comp_goI I hl h q n [] e h0 (by simp)
  rw [rgA_tab]
  unfold tab
  rw [List.range_eq_range']
  exact this
theorem tab_set {n i : Nat} {f : Nat → A} {a : A} (h : i < n) : (tab n f).set i a = tab n fun k => if k = i then a else f k := by
  refine List.ext_getElem? fun j => ?_
  by_cases hj : j < n
  · rw [tab_get hj]
    by_cases e : i = j
    · subst e
      rw [List.getElem?_set_self (by rw [tab_length]; exact h), if_pos rfl]
    · rw [List.getElem?_set_ne e, tab_get hj, if_neg (fun z => e z.symm)]
  · rw [List.getElem?_eq_none (by rw [List.length_set, tab_length]; omega), List.getElem?_eq_none (by rw [tab_length]; omega)]
theorem map_tab {α : Type} (f : α → A) (d : α) (ts : List α) : ts.map f = tab ts.length fun i => f (ts.getD i d) := by
  refine List.ext_getElem? fun j => ?_
  by_cases hj : j < ts.length
  · rw [tab_get hj, List.getElem?_map, List.getElem?_eq_getElem hj]
    rw [List.getD_eq_getElem?_getD, List.getElem?_eq_getElem hj]; rfl
  · rw [List.getElem?_eq_none (by rw [List.length_map]; omega), List.getElem?_eq_none (by rw [tab_length]; omega)]
theorem divInt_ints {L : Int} (h : L ≠ 0) : ∀ ts : List Int, (ts.map fun t => Rat.divInt t L).sum = Rat.divInt ts.sum L
  | [] => (Rat.zero_divInt L).symm
  | t :: ts => by rw [List.map_cons, List.sum_cons, List.sum_cons, divInt_ints h ts, divInt_addS h]
theorem sm_ind (q : Nat) : ∀ n, sm n (fun i => if i = q then 1 else 0) = if q < n then 1 else 0
  | 0 => by rw [if_neg (Nat.not_lt_zero _)]; rfl
  | n + 1 => by
    show sm n (fun i => if i = q then 1 else 0) + (if n = q then 1 else 0) = _
    rw [sm_ind q n]
    by_cases h1 : q < n
    · rw [if_pos h1, if_neg (by omega), if_pos (by omega)]; grind
    · by_cases h2 : n = q
      · rw [if_neg h1, if_pos h2, if_pos (by omega)]; grind
      · rw [if_neg h1, if_neg h2, if_neg (by omega)]; grind
end AL
/-! AL19: from a law's promise to its row. -/
namespace AL
open PySem PySem.Spec PyProof.Rows L2
theorem spA_law {K : PySem.W.Frag} {m : FnM} {H : Hp} {a : Addr} {ns : List Int} (hS : SqL K H a (ns.map V.int)) (hm : m [.sh (.scr ns)] (fun r _ => r = .sh (.bl true)) (fun _ => False)) :
    spA K m [.ref a] H (fun v _ => v = .bl true) fun _ _ _ => False := by
  refine ⟨H, [.sh (.scr ns)], _, _, Same.refl _, ⟨_, [], rfl, ⟨a, rfl, hS⟩, rfl⟩, ?_, hm, fun r outs hr W' v H' _ _ rr => ?_, fun x hx => hx.elim⟩
  · show ([] : List Addr).Nodup
    exact List.nodup_nil
  · subst hr
    exact rr
theorem walkA {l : PySem.W.OpenLaw} {n k : Nat} {q : Program} {loose : List Str} {XP : (Str → Option Value) → Heap → Prop} {YP : World → Heap → Prop} {d : DefRec} {x : Str}
    (hn : l.most = some n) (hn2 : n ≤ sizeLine) (hdf : d.params.defaults = []) (hr : Room k callerA)
    (F : ∀ (w : World) (mg : Str → Option Value) (fa : Addr) (h : Heap), YP w h → h.Ns mainGlobals mg → mg d.name = some (.ref fa) →
      ∃ (K : PySem.W.Frag) (fd : FuncData) (m : FnM), K.In h ∧ (∀ (s : Shared) (u : Value), BindsTo s fd ⟨[u], []⟩ [(x, u)]) ∧
        (∀ ns : List Int, ns.length ≤ n → m [.sh (.scr ns)] (fun r _ => r = .sh (.bl true)) (fun _ => False)) ∧
        ∀ base : Heap, K.In base → base.Ns mainGlobals mg → FnOk l.prog w K mg base (L2.CX l.prog w) k fa fd [x] (spA K m)) :
    PySem.W.WalkO q loose XP YP l.row.toRowW d [] (fun f vs => PySem.call f vs) := by
  refine Att.attach_call hn hdf fun w s₀ s₁ mg mb fa o pm cd doc a vs ns G Y ho hd hcd hmg hobj hints hlen hg => ?_
  obtain ⟨K, fd, m, KX, hb, hm, hF⟩ := F w mg fa _ Y G.T.g hmg
  refine law_call KX G.T.g G.T.b G.T.builtins G.T.nolimit hg hobj hints (Nat.le_trans hlen hn2) hr hF hb (fun H _ hS => spA_law hS (hm ns hlen)) fun H e s' h => ?_
  obtain ⟨_, _, _, _, _, _, _, _, _, _, _, _, hE⟩ := h
  exact hE
end AL
/-! denotations of the defs; printed by gen.py from the linked text (it only parses) -/
namespace K59
open PySem AL
def a_ZERO : A := .tup ([0, 1].map A.int)
def a_ONE : A := .tup ([1, 1].map A.int)
/-- is_whole(thing); slots: 0 thing -/
def den_is_whole : DS :=
  (cRet (cSh (cAndV (cUn (fIsTy "int") (cPeek 0)) (cNotV (cUn (fIsTy "bool") (cPeek 0))))))
/-- is_fraction(thing); slots: 0 thing -/
def den_is_fraction (m_is_whole : FnM) : DS :=
  (cSeq (cIf (cOrT (cNotT (cB (cUn (fIsTy "tuple") (cPeek 0)))) (cB (cOp fNe (cUn fLen (cPeek 0)) (cK (.int 2))))) (cRet (cSh (cK (.bl false)))) cNext)
    (cSeq (cIf (cOrT (cNotT (cB (cFz (cCall m_is_whole (cConsA (cIxN 0 (cK (.int 0))) cNilA))))) (cNotT (cB (cFz (cCall m_is_whole (cConsA (cIxN 0 (cK (.int 1))) cNilA)))))) (cRet (cSh (cK (.bl false)))) cNext)
    (cRet (cSh (cAndV (cOp fGe (cIxN 0 (cK (.int 1))) (cK (.int 1))) (cOp fEq (cCBn f2Gcd [(cIxN 0 (cK (.int 0))), (cIxN 0 (cK (.int 1)))]) (cK (.int 1))))))))
/-- is_amount(thing); slots: 0 thing -/
def den_is_amount (m_is_fraction : FnM) : DS :=
  (cRet (cSh (cAndV (cFz (cCall m_is_fraction (cConsA (cVar 0) cNilA))) (cOp fGe (cIxN 0 (cK (.int 0))) (cK (.int 0))))))
/-- fraction(n, d); slots: 0 n, 1 d, 2 common -/
def den_fraction : DS :=
  (cSeq (cIf (cB (cOp fEq (cVar 1) (cK (.int 0)))) cNever cNext)
    (cSeq (cIf (cB (cOp fLt (cVar 1) (cK (.int 0)))) (cPar 0 1 (cUn fNeg (cPeek 0)) (cUn fNeg (cPeek 1))) cNext)
    (cSeq (cSet 2 (cSh (cCBn f2Gcd [(cVar 0), (cVar 1)])))
    (cRet (cSh (cTup [(cOp fDiv (cVar 0) (cPeek 2)), (cOp fDiv (cVar 1) (cPeek 2))]))))))
/-- plus(a, b); slots: 0 a, 1 b -/
def den_plus (m_fraction : FnM) : DS :=
  (cRet (cCall m_fraction (cConsA (cOp fAdd (cOp fMul (cIxN 0 (cK (.int 0))) (cIxN 1 (cK (.int 1)))) (cOp fMul (cIxN 1 (cK (.int 0))) (cIxN 0 (cK (.int 1))))) (cConsA (cOp fMul (cIxN 0 (cK (.int 1))) (cIxN 1 (cK (.int 1)))) cNilA))))
/-- minus(a, b); slots: 0 a, 1 b -/
def den_minus (m_fraction : FnM) : DS :=
  (cRet (cCall m_fraction (cConsA (cOp fSub (cOp fMul (cIxN 0 (cK (.int 0))) (cIxN 1 (cK (.int 1)))) (cOp fMul (cIxN 1 (cK (.int 0))) (cIxN 0 (cK (.int 1))))) (cConsA (cOp fMul (cIxN 0 (cK (.int 1))) (cIxN 1 (cK (.int 1)))) cNilA))))
/-- times(a, b); slots: 0 a, 1 b -/
def den_times (m_fraction : FnM) : DS :=
  (cRet (cCall m_fraction (cConsA (cOp fMul (cIxN 0 (cK (.int 0))) (cIxN 1 (cK (.int 0)))) (cConsA (cOp fMul (cIxN 0 (cK (.int 1))) (cIxN 1 (cK (.int 1)))) cNilA))))
/-- over(a, b); slots: 0 a, 1 b -/
def den_over (m_fraction : FnM) : DS :=
  (cRet (cCall m_fraction (cConsA (cOp fMul (cIxN 0 (cK (.int 0))) (cIxN 1 (cK (.int 1)))) (cConsA (cOp fMul (cIxN 0 (cK (.int 1))) (cIxN 1 (cK (.int 0)))) cNilA))))
/-- less(a, b); slots: 0 a, 1 b -/
def den_less : DS :=
  (cRet (cSh (cOp fLt (cOp fMul (cIxN 0 (cK (.int 0))) (cIxN 1 (cK (.int 1)))) (cOp fMul (cIxN 1 (cK (.int 0))) (cIxN 0 (cK (.int 1)))))))
/-- shared(row); slots: 0 row, 1 bottom, 2 top, 3 under -/
def den_shared : DS :=
  (cSeq (cSet 1 (cSh (cK (.int 1))))
    (cSeq (cFor (cSeqI (cVar 0)) (gT [2, 3]) (cSet 1 (cSh (cOp fMul (cOp fDiv (cVar 1) (cCBn f2Gcd [(cVar 1), (cVar 3)])) (cPeek 3)))))
    (cRet (cSh (cTup [(cUn fTuple (cFz (cLC (cSeqI (cVar 0)) (gT [2, 3]) cYes (cOp fMul (cVar 2) (cOp fDiv (cVar 1) (cPeek 3))) [2, 3]))), (cVar 1)])))))
/-- total(row); slots: 0 row, 1 tops, 2 bottom -/
def den_total (m_shared : FnM) (m_fraction : FnM) : DS :=
  (cSeq (cAsg (cFz (cCall m_shared (cConsA (cVar 0) cNilA))) (gT [1, 2]))
    (cRet (cCall m_fraction (cConsA (cUn fSum (cPeek 1)) (cConsA (cVar 2) cNilA)))))
/-- is_amount_row(thing, many); slots: 0 thing, 1 many, 2 one -/
def den_is_amount_row (m_is_amount : FnM) (m_less : FnM) (m_total : FnM) : DS :=
  (cSeq (cIf (cOrT (cNotT (cB (cUn (fIsTy "tuple") (cPeek 0)))) (cB (cOp fNe (cUn fLen (cPeek 0)) (cPeek 1)))) (cRet (cSh (cK (.bl false)))) cNext)
    (cSeq (cIf (cNotT (cB (cUn fAll (cFz (cLC (cSeqI (cVar 0)) (gN 2) cYes (cFz (cCall m_is_amount (cConsA (cVar 2) cNilA))) [2]))))) (cRet (cSh (cK (.bl false)))) cNext)
    (cRet (cSh (cNotV (cFz (cCall m_less (cConsA (cK a_ONE) (cConsA (cFz (cCall m_total (cConsA (cVar 0) cNilA))) cNilA)))))))))
/-- is_graph(thing); slots: 0 thing, 1 rates, 2 passes, 3 at, 4 row -/
def den_is_graph (m_is_amount_row : FnM) : DS :=
  (cSeq (cIf (cOrT (cNotT (cB (cUn (fIsTy "tuple") (cPeek 0)))) (cB (cOp fNe (cUn fLen (cPeek 0)) (cK (.int 2))))) (cRet (cSh (cK (.bl false)))) cNext)
    (cSeq (cAsg (cVar 0) (gT [1, 2]))
    (cSeq (cIf (cOrT (cNotT (cB (cUn (fIsTy "tuple") (cPeek 1)))) (cOrT (cNotT (cB (cChain fLe fLe (cK (.int 1)) (cUn fLen (cPeek 1)) (cK (.int 5))))) (cNotT (cB (cFz (cCall m_is_amount_row (cConsA (cVar 1) (cConsA (cUn fLen (cPeek 1)) cNilA)))))))) (cRet (cSh (cK (.bl false)))) cNext)
    (cSeq (cIf (cOrT (cNotT (cB (cUn (fIsTy "tuple") (cPeek 2)))) (cB (cOp fNe (cUn fLen (cPeek 2)) (cUn fLen (cPeek 1))))) (cRet (cSh (cK (.bl false)))) cNext)
    (cSeq (cIf (cNotT (cB (cUn fAll (cFz (cLC (cSeqI (cVar 2)) (gN 4) cYes (cFz (cCall m_is_amount_row (cConsA (cVar 4) (cConsA (cUn fLen (cPeek 1)) cNilA)))) [4]))))) (cRet (cSh (cK (.bl false)))) cNext)
    (cRet (cSh (cUn fAll (cFz (cLC (cRg1 (cUn fLen (cPeek 2))) (gN 3) cYes (cOp fEq (cOp fIx (cIxN 2 (cVar 3)) (cPeek 3)) (cK a_ZERO)) [3]))))))))))
/-- passed_part(passes, question, one, other); slots: 0 passes, 1 question, 2 one, 3 other, 4 left -/
def den_passed_part (m_minus : FnM) (m_times : FnM) (m_over : FnM) (m_plus : FnM) : DS :=
  (cSeq (cIf (cOrT (cB (cOp fEq (cVar 2) (cPeek 3))) (cOrT (cB (cOp fEq (cVar 2) (cPeek 1))) (cB (cOp fEq (cVar 3) (cPeek 1))))) (cRet (cSh (cK a_ZERO))) cNext)
    (cSeq (cSet 4 (cCall m_minus (cConsA (cK a_ONE) (cConsA (cFz (cCall m_times (cConsA (cOp fIx (cIxN 0 (cVar 2)) (cPeek 1)) (cConsA (cOp fIx (cIxN 0 (cVar 1)) (cPeek 2)) cNilA)))) cNilA))))
    (cSeq (cIf (cB (cOp fEq (cVar 4) (cK a_ZERO))) (cRet (cSh (cK a_ZERO))) cNext)
    (cRet (cCall m_over (cConsA (cFz (cCall m_plus (cConsA (cOp fIx (cIxN 0 (cVar 2)) (cPeek 3)) (cConsA (cFz (cCall m_times (cConsA (cOp fIx (cIxN 0 (cVar 2)) (cPeek 1)) (cConsA (cOp fIx (cIxN 0 (cVar 1)) (cPeek 3)) cNilA)))) cNilA)))) (cConsA (cVar 4) cNilA)))))))
/-- without(graph, question); slots: 0 graph, 1 question, 2 rates, 3 passes, 4 many, 5 later, 6 at, 7 grown, 8 rows, 9 one, 10 other -/
def den_without (m_plus : FnM) (m_times : FnM) (m_passed_part : FnM) : DS :=
  (cSeq (cAsg (cVar 0) (gT [2, 3]))
    (cSeq (cSet 4 (cSh (cUn fLen (cPeek 2))))
    (cSeq (cSet 5 (cLst []))
    (cSeq (cFor (cRg1 (cVar 4)) (gN 6) (cSeq (cSet 7 (cCall m_plus (cConsA (cIxN 2 (cVar 6)) (cConsA (cFz (cCall m_times (cConsA (cIxN 2 (cVar 1)) (cConsA (cOp fIx (cIxN 3 (cVar 1)) (cPeek 6)) cNilA)))) cNilA))))
    (cExpr (cSh (cApp 5 (cIfE (cB (cOp fEq (cVar 6) (cPeek 1))) (cK a_ZERO) (cVar 7)))))))
    (cSeq (cSet 8 (cLC (cRg1 (cVar 4)) (gN 9) cYes (cUn fTuple (cFz (cLC (cRg1 (cVar 4)) (gN 10) cYes (cFz (cCall m_passed_part (cConsA (cVar 3) (cConsA (cVar 1) (cConsA (cVar 9) (cConsA (cVar 10) cNilA)))))) [10]))) [9]))
    (cRet (cSh (cTup [(cUn fTuple (cPeek 5)), (cUn fTuple (cPeek 8))]))))))))
/-- _law_begin(script); slots: 0 script, 1 cell -/
def den__law_begin : DS :=
  (cRet (cLst [(cFz (cLC (cSeqI (cVar 0)) (gN 1) cYes (cUn fInt (cPeek 1)) [1])), (cK (.int 0)), (cK (.int 0)), (cK (.int 5))]))
/-- _law_draw(d, many); slots: 0 d, 1 many, 2 found, 3 size, 4 cell -/
def den__law_draw : DS :=
  (cSeq (cIf (cB (cOp fGt (cIxN 0 (cK (.int 2))) (cK (.int 0)))) (cSeq (cSet 2 (cSh (cIxN 0 (cK (.int 2)))))
    (cSeq (cSetIx 0 (cOp fDiv (cVar 2) (cPeek 1)) (cK (.int 2)))
    (cRet (cSh (cOp fMod (cUn fInt (cPeek 2)) (cPeek 1)))))) cNext)
    (cSeq (cSet 3 (cSh (cK (.int 0))))
    (cSeq (cIf (cB (cOp fLt (cIxN 0 (cK (.int 1))) (cUn fLen (cIxN 0 (cK (.int 0)))))) (cSeq (cSet 4 (cSh (cOp fIx (cIxN 0 (cK (.int 0))) (cIxN 0 (cK (.int 1))))))
    (cSet 3 (cSh (cOp fAdd (cOp fMul (cK (.int 2)) (cUn fAbs (cPeek 4))) (cUn fInt (cOp fLt (cVar 4) (cK (.int 0)))))))) cNext)
    (cSeq (cAugIx 0 (cK (.int 1)) (cK (.int 1)))
    (cSeq (cIf (cB (cOp fGe (cVar 3) (cOp fMul (cK (.int 2)) (cOp fPow (cK (.int 10)) (cK (.int 18)))))) (cSeq (cSet 2 (cSh (cOp fMod (cUn fInt (cOp fDiv (cVar 3) (cK (.int 2)))) (cOp fShl (cK (.int 1)) (cK (.int 6000))))))
    (cSeq (cSetIx 0 (cOp fDiv (cVar 2) (cPeek 1)) (cK (.int 2)))
    (cRet (cSh (cOp fMod (cUn fInt (cPeek 2)) (cPeek 1)))))) cNext)
    (cSeq (cSetIx 0 (cOp fMod (cUn fInt (cOp fAdd (cOp fAdd (cOp fAdd (cOp fMul (cIxN 0 (cK (.int 3))) (cK (.int 48271))) (cOp fMul (cOp fMod (cUn fInt (cPeek 3)) (cK (.int 2147483629))) (cK (.int 16807)))) (cOp fMul (cIxN 0 (cK (.int 1))) (cK (.int 69621)))) (cK (.int 11)))) (cK (.int 2147483647))) (cK (.int 3)))
    (cRet (cSh (cOp fMod (cUn fInt (cOp fDiv (cIxN 0 (cK (.int 3))) (cK (.int 16)))) (cPeek 1))))))))))
/-- _law_pick(d, row); slots: 0 d, 1 row -/
def den__law_pick (m__law_draw : FnM) : DS :=
  (cRet (cSh (cIxN 1 (cFz (cCall m__law_draw (cBorA 0 (cConsA (cUn fLen (cPeek 1)) cNilA)))))))
/-- _law_rare(d, many); slots: 0 d, 1 many -/
def den__law_rare (m__law_draw : FnM) : DS :=
  (cRet (cSh (cOp fEq (cFz (cCall m__law_draw (cBorA 0 (cConsA (cVar 1) cNilA)))) (cOp fDiv (cVar 1) (cK (.int 2))))))
/-- _law_shuffled(d, row); slots: 0 d, 1 row, 2 left, 3 found, 4 k -/
def den__law_shuffled (m__law_draw : FnM) : DS :=
  (cSeq (cSet 2 (cListOf (cPeek 1)))
    (cSeq (cSet 3 (cLst []))
    (cSeq (cFor (cRg1 (cUn fLen (cPeek 2))) (gN 4) (cExpr (cSh (cApp 3 (cPopAt 2 (cFz (cCall m__law_draw (cBorA 0 (cConsA (cUn fLen (cPeek 2)) cNilA)))))))))
    (cRet (cMove 3)))))
/-- _law_is_int(thing); slots: 0 thing -/
def den__law_is_int : DS :=
  (cRet (cSh (cAndV (cUn (fIsTy "int") (cPeek 0)) (cNotV (cUn (fIsTy "bool") (cPeek 0))))))
/-- _law_gcd(a, b); slots: 0 a, 1 b -/
def den__law_gcd : DS :=
  (cSeq (cPar 0 1 (cUn fAbs (cPeek 0)) (cUn fAbs (cPeek 1)))
    (cSeq (cWhile (cB (cOp fNe (cVar 1) (cK (.int 0)))) (cPar 0 1 (cVar 1) (cOp fMod (cUn fInt (cPeek 0)) (cPeek 1))))
    (cRet (cMove 0))))
/-- _law_frac(n, d); slots: 0 n, 1 d, 2 common -/
def den__law_frac (m__law_gcd : FnM) : DS :=
  (cSeq (cIf (cB (cOp fLt (cVar 1) (cK (.int 0)))) (cPar 0 1 (cUn fNeg (cPeek 0)) (cUn fNeg (cPeek 1))) cNext)
    (cSeq (cSet 2 (cCall m__law_gcd (cConsA (cVar 0) (cConsA (cVar 1) cNilA))))
    (cRet (cSh (cTup [(cOp fDiv (cVar 0) (cPeek 2)), (cOp fDiv (cVar 1) (cPeek 2))])))))
/-- _law_is_frac(thing); slots: 0 thing -/
def den__law_is_frac (m__law_is_int : FnM) (m__law_gcd : FnM) : DS :=
  (cSeq (cIf (cOrT (cNotT (cB (cUn (fIsTy "tuple") (cPeek 0)))) (cB (cOp fNe (cUn fLen (cPeek 0)) (cK (.int 2))))) (cRet (cSh (cK (.bl false)))) cNext)
    (cSeq (cIf (cNotT (cAndT (cB (cFz (cCall m__law_is_int (cConsA (cIxN 0 (cK (.int 0))) cNilA)))) (cB (cFz (cCall m__law_is_int (cConsA (cIxN 0 (cK (.int 1))) cNilA)))))) (cRet (cSh (cK (.bl false)))) cNext)
    (cRet (cSh (cAndV (cOp fGe (cIxN 0 (cK (.int 1))) (cK (.int 1))) (cOp fEq (cFz (cCall m__law_gcd (cConsA (cIxN 0 (cK (.int 0))) (cConsA (cIxN 0 (cK (.int 1))) cNilA)))) (cK (.int 1))))))))
/-- _law_plus(a, b); slots: 0 a, 1 b -/
def den__law_plus (m__law_frac : FnM) : DS :=
  (cRet (cCall m__law_frac (cConsA (cOp fAdd (cOp fMul (cIxN 0 (cK (.int 0))) (cIxN 1 (cK (.int 1)))) (cOp fMul (cIxN 1 (cK (.int 0))) (cIxN 0 (cK (.int 1))))) (cConsA (cOp fMul (cIxN 0 (cK (.int 1))) (cIxN 1 (cK (.int 1)))) cNilA))))
/-- _law_minus(a, b); slots: 0 a, 1 b -/
def den__law_minus (m__law_frac : FnM) : DS :=
  (cRet (cCall m__law_frac (cConsA (cOp fSub (cOp fMul (cIxN 0 (cK (.int 0))) (cIxN 1 (cK (.int 1)))) (cOp fMul (cIxN 1 (cK (.int 0))) (cIxN 0 (cK (.int 1))))) (cConsA (cOp fMul (cIxN 0 (cK (.int 1))) (cIxN 1 (cK (.int 1)))) cNilA))))
/-- _law_times(a, b); slots: 0 a, 1 b -/
def den__law_times (m__law_frac : FnM) : DS :=
  (cRet (cCall m__law_frac (cConsA (cOp fMul (cIxN 0 (cK (.int 0))) (cIxN 1 (cK (.int 0)))) (cConsA (cOp fMul (cIxN 0 (cK (.int 1))) (cIxN 1 (cK (.int 1)))) cNilA))))
/-- _law_over(a, b); slots: 0 a, 1 b -/
def den__law_over (m__law_frac : FnM) : DS :=
  (cRet (cCall m__law_frac (cConsA (cOp fMul (cIxN 0 (cK (.int 0))) (cIxN 1 (cK (.int 1)))) (cConsA (cOp fMul (cIxN 0 (cK (.int 1))) (cIxN 1 (cK (.int 0)))) cNilA))))
/-- _law_less(a, b); slots: 0 a, 1 b -/
def den__law_less : DS :=
  (cRet (cSh (cOp fLt (cOp fMul (cIxN 0 (cK (.int 0))) (cIxN 1 (cK (.int 1)))) (cOp fMul (cIxN 1 (cK (.int 0))) (cIxN 0 (cK (.int 1)))))))
/-- _law_sum(row); slots: 0 row, 1 top, 2 bottom, 3 n, 4 d, 5 common -/
def den__law_sum (m__law_gcd : FnM) (m__law_frac : FnM) : DS :=
  (cSeq (cAsg (cTup [(cK (.int 0)), (cK (.int 1))]) (gT [1, 2]))
    (cSeq (cFor (cSeqI (cVar 0)) (gT [3, 4]) (cSeq (cSet 5 (cCall m__law_gcd (cConsA (cVar 2) (cConsA (cVar 4) cNilA))))
    (cPar 1 2 (cOp fAdd (cOp fMul (cVar 1) (cOp fDiv (cVar 4) (cPeek 5))) (cOp fMul (cVar 3) (cOp fDiv (cVar 2) (cPeek 5)))) (cOp fMul (cVar 2) (cOp fDiv (cVar 4) (cPeek 5))))))
    (cRet (cCall m__law_frac (cConsA (cVar 1) (cConsA (cVar 2) cNilA))))))
/-- _law_parted(tops, slack); slots: 0 tops, 1 slack, 2 whole, 3 top -/
def den__law_parted (m__law_frac : FnM) : DS :=
  (cSeq (cSet 2 (cSh (cCBn f2Max [(cK (.int 1)), (cOp fAdd (cUn fSum (cPeek 0)) (cPeek 1))])))
    (cRet (cSh (cUn fTuple (cFz (cLC (cSeqI (cVar 0)) (gN 3) cYes (cFz (cCall m__law_frac (cConsA (cVar 3) (cConsA (cVar 2) cNilA)))) [3]))))))
/-- _law_pass_row(d, many, at); slots: 0 d, 1 many, 2 at, 3 kind, 4 tops, 5 slack, 6 most, 7 other -/
def den__law_pass_row (m__law_draw : FnM) (m__law_rare : FnM) (m__law_parted : FnM) : DS :=
  (cSeq (cSet 3 (cCall m__law_draw (cBorA 0 (cConsA (cK (.int 5)) cNilA))))
    (cSeq (cParR 4 5 (cLC (cRg1 (cVar 1)) (gN 7) cYes (cK (.int 0)) [7]) (cSh (cK (.int 0))))
    (cSeq (cIf (cB (cOp fEq (cVar 3) (cK (.int 0)))) (cSetIx 4 (cK (.int 1)) (cOp fMod (cUn fInt (cOp fAdd (cOp fAdd (cVar 2) (cK (.int 1))) (cFz (cCall m__law_draw (cBorA 0 (cConsA (cCBn f2Max [(cK (.int 1)), (cOp fSub (cVar 1) (cK (.int 1)))]) cNilA)))))) (cPeek 1))) (cIf (cB (cOp fEq (cVar 3) (cK (.int 1)))) (cSet 4 (cLC (cRg1 (cVar 1)) (gN 7) cYes (cK (.int 1)) [7])) (cIf (cB (cOp fGt (cVar 3) (cK (.int 2)))) (cSeq (cSet 6 (cSh (cIfE (cB (cFz (cCall m__law_rare (cBorA 0 (cConsA (cK (.int 9)) cNilA))))) (cK (.int 1000)) (cK (.int 4)))))
    (cParR 4 5 (cLC (cRg1 (cVar 1)) (gN 7) cYes (cFz (cCall m__law_draw (cBorA 0 (cConsA (cVar 6) cNilA)))) [7]) (cSh (cFz (cCall m__law_draw (cBorA 0 (cConsA (cK (.int 3)) cNilA))))))) cNext)))
    (cSeq (cSetIx 4 (cK (.int 0)) (cVar 2))
    (cRet (cCall m__law_parted (cConsA (cVar 4) (cConsA (cVar 5) cNilA))))))))
/-- _law_graph(d, many); slots: 0 d, 1 many, 2 most, 3 tops, 4 rates, 5 rows, 6 ring, 7 k, 8 at, 9 other -/
def den__law_graph (m__law_rare : FnM) (m__law_draw : FnM) (m__law_parted : FnM) (m__law_pass_row : FnM) (m__law_shuffled : FnM) : DS :=
  (cSeq (cSet 2 (cSh (cIfE (cB (cFz (cCall m__law_rare (cBorA 0 (cConsA (cK (.int 9)) cNilA))))) (cK (.int 1000)) (cK (.int 4)))))
    (cSeq (cSet 3 (cLC (cRg1 (cVar 1)) (gN 8) cYes (cFz (cCall m__law_draw (cBorA 0 (cConsA (cVar 2) cNilA)))) [8]))
    (cSeq (cSet 4 (cCall m__law_parted (cConsA (cVar 3) (cConsA (cFz (cCall m__law_draw (cBorA 0 (cConsA (cK (.int 3)) cNilA)))) cNilA))))
    (cSeq (cSet 5 (cLC (cRg1 (cVar 1)) (gN 8) cYes (cFz (cCall m__law_pass_row (cBorA 0 (cConsA (cVar 1) (cConsA (cVar 8) cNilA))))) [8]))
    (cSeq (cIf (cAndT (cB (cOp fGt (cVar 1) (cK (.int 1)))) (cB (cOp fEq (cFz (cCall m__law_draw (cBorA 0 (cConsA (cK (.int 4)) cNilA)))) (cK (.int 1))))) (cSeq (cSet 6 (cSh (cSl (cFz (cCall m__law_shuffled (cBorA 0 (cConsA (cFz (cListRg (cVar 1))) cNilA)))) cNoP (cPart (cOp fAdd (cK (.int 2)) (cFz (cCall m__law_draw (cBorA 0 (cConsA (cOp fSub (cVar 1) (cK (.int 1))) cNilA)))))))))
    (cFor (cRg1 (cUn fLen (cPeek 6))) (gN 7) (cSetIx 5 (cUn fTuple (cFz (cLC (cRg1 (cVar 1)) (gN 9) cYes (cTup [(cUn fInt (cOp fEq (cVar 9) (cIxN 6 (cOp fSub (cVar 7) (cK (.int 1)))))), (cK (.int 1))]) [9]))) (cIxN 6 (cVar 7))))) cNext)
    (cRet (cSh (cTup [(cVar 4), (cUn fTuple (cPeek 5))]))))))))
/-- _law_same(told, due); slots: 0 told, 1 due, 2 k -/
def den__law_same (m__law_same : FnM) (m__law_is_int : FnM) : DS :=
  (cSeq (cIf (cB (cUn (fIsTy "tuple") (cPeek 1))) (cSeq (cIf (cOrT (cNotT (cB (cUn (fIsTy "tuple") (cPeek 0)))) (cB (cOp fNe (cUn fLen (cPeek 0)) (cUn fLen (cPeek 1))))) (cRet (cSh (cK (.bl false)))) cNext)
    (cRet (cSh (cUn fAll (cFz (cLC (cRg1 (cUn fLen (cPeek 1))) (gN 2) cYes (cFz (cCall m__law_same (cConsA (cIxN 0 (cVar 2)) (cConsA (cIxN 1 (cVar 2)) cNilA)))) [2])))))) cNext)
    (cRet (cSh (cAndV (cFz (cCall m__law_is_int (cConsA (cVar 0) cNilA))) (cOp fEq (cVar 0) (cPeek 1))))))
/-- _law_taken_part(passes, question, one, other); slots: 0 passes, 1 question, 2 one, 3 other, 4 back, 5 way -/
def den__law_taken_part (m__law_times : FnM) (m__law_over : FnM) (m__law_minus : FnM) (m__law_plus : FnM) : DS :=
  (cSeq (cIf (cOrT (cB (cOp fEq (cVar 2) (cPeek 3))) (cOrT (cB (cOp fEq (cVar 2) (cPeek 1))) (cB (cOp fEq (cVar 3) (cPeek 1))))) (cRet (cSh (cTup [(cK (.int 0)), (cK (.int 1))]))) cNext)
    (cSeq (cSet 4 (cCall m__law_times (cConsA (cOp fIx (cIxN 0 (cVar 2)) (cPeek 1)) (cConsA (cOp fIx (cIxN 0 (cVar 1)) (cPeek 2)) cNilA))))
    (cSeq (cIf (cB (cOp fEq (cVar 4) (cTup [(cK (.int 1)), (cK (.int 1))]))) (cRet (cSh (cTup [(cK (.int 0)), (cK (.int 1))]))) cNext)
    (cSeq (cSet 5 (cCall m__law_times (cConsA (cOp fIx (cIxN 0 (cVar 2)) (cPeek 1)) (cConsA (cOp fIx (cIxN 0 (cVar 1)) (cPeek 3)) cNilA))))
    (cRet (cCall m__law_over (cConsA (cFz (cCall m__law_plus (cConsA (cOp fIx (cIxN 0 (cVar 2)) (cPeek 3)) (cConsA (cVar 5) cNilA)))) (cConsA (cFz (cCall m__law_minus (cConsA (cTup [(cK (.int 1)), (cK (.int 1))]) (cConsA (cVar 4) cNilA)))) cNilA))))))))
/-- _law_taken(graph, question); slots: 0 graph, 1 question, 2 rates, 3 passes, 4 many, 5 later, 6 rows, 7 at, 8 grown, 9 other -/
def den__law_taken (m__law_plus : FnM) (m__law_times : FnM) (m__law_taken_part : FnM) : DS :=
  (cSeq (cAsg (cVar 0) (gT [2, 3]))
    (cSeq (cSet 4 (cSh (cUn fLen (cPeek 2))))
    (cSeq (cParR 5 6 (cLst []) (cLst []))
    (cSeq (cFor (cRg1 (cVar 4)) (gN 7) (cSeq (cSet 8 (cCall m__law_plus (cConsA (cIxN 2 (cVar 7)) (cConsA (cFz (cCall m__law_times (cConsA (cIxN 2 (cVar 1)) (cConsA (cOp fIx (cIxN 3 (cVar 1)) (cPeek 7)) cNilA)))) cNilA))))
    (cSeq (cExpr (cSh (cApp 5 (cIfE (cB (cOp fEq (cVar 7) (cPeek 1))) (cTup [(cK (.int 0)), (cK (.int 1))]) (cVar 8)))))
    (cExpr (cSh (cApp 6 (cUn fTuple (cFz (cLC (cRg1 (cVar 4)) (gN 9) cYes (cFz (cCall m__law_taken_part (cConsA (cVar 3) (cConsA (cVar 1) (cConsA (cVar 7) (cConsA (cVar 9) cNilA)))))) [9])))))))))
    (cRet (cSh (cTup [(cUn fTuple (cPeek 5)), (cUn fTuple (cPeek 6))])))))))
/-- _law_is_amounts(thing, many); slots: 0 thing, 1 many, 2 one -/
def den__law_is_amounts (m__law_is_frac : FnM) (m__law_less : FnM) (m__law_sum : FnM) : DS :=
  (cSeq (cIf (cOrT (cNotT (cB (cUn (fIsTy "tuple") (cPeek 0)))) (cB (cOp fNe (cUn fLen (cPeek 0)) (cPeek 1)))) (cRet (cSh (cK (.bl false)))) cNext)
    (cSeq (cIf (cNotT (cB (cUn fAll (cFz (cLC (cSeqI (cVar 0)) (gN 2) cYes (cAndV (cFz (cCall m__law_is_frac (cConsA (cVar 2) cNilA))) (cOp fGe (cIxN 2 (cK (.int 0))) (cK (.int 0)))) [2]))))) (cRet (cSh (cK (.bl false)))) cNext)
    (cRet (cSh (cNotV (cFz (cCall m__law_less (cConsA (cTup [(cK (.int 1)), (cK (.int 1))]) (cConsA (cFz (cCall m__law_sum (cConsA (cVar 0) cNilA))) cNilA)))))))))
/-- _law_is_right(thing); slots: 0 thing, 1 rates, 2 passes, 3 at, 4 row -/
def den__law_is_right (m__law_is_amounts : FnM) : DS :=
  (cSeq (cIf (cOrT (cNotT (cB (cUn (fIsTy "tuple") (cPeek 0)))) (cB (cOp fNe (cUn fLen (cPeek 0)) (cK (.int 2))))) (cRet (cSh (cK (.bl false)))) cNext)
    (cSeq (cAsg (cVar 0) (gT [1, 2]))
    (cSeq (cIf (cOrT (cNotT (cB (cUn (fIsTy "tuple") (cPeek 1)))) (cOrT (cNotT (cB (cChain fLe fLe (cK (.int 1)) (cUn fLen (cPeek 1)) (cK (.int 5))))) (cNotT (cB (cFz (cCall m__law_is_amounts (cConsA (cVar 1) (cConsA (cUn fLen (cPeek 1)) cNilA)))))))) (cRet (cSh (cK (.bl false)))) cNext)
    (cSeq (cIf (cOrT (cNotT (cB (cUn (fIsTy "tuple") (cPeek 2)))) (cB (cOp fNe (cUn fLen (cPeek 2)) (cUn fLen (cPeek 1))))) (cRet (cSh (cK (.bl false)))) cNext)
    (cSeq (cIf (cNotT (cB (cUn fAll (cFz (cLC (cSeqI (cVar 2)) (gN 4) cYes (cFz (cCall m__law_is_amounts (cConsA (cVar 4) (cConsA (cUn fLen (cPeek 1)) cNilA)))) [4]))))) (cRet (cSh (cK (.bl false)))) cNext)
    (cRet (cSh (cUn fAll (cFz (cLC (cRg1 (cUn fLen (cPeek 2))) (gN 3) cYes (cOp fEq (cOp fIx (cIxN 2 (cVar 3)) (cPeek 3)) (cTup [(cK (.int 0)), (cK (.int 1))])) [3]))))))))))
/-- _law_odd(d); slots: 0 d, 1 found -/
def den__law_odd (m__law_pick : FnM) : DS :=
  (cSeq (cSet 1 (cLst [(cTup [(cUn fNeg (cK (.int 1))), (cK (.int 3))]), (cTup [(cK (.int 2)), (cK (.int 4))]), (cTup [(cK (.int 0)), (cK (.int 2))]), (cTup [(cK (.int 1)), (cK (.int 0))]), (cTup [(cK (.int 0)), (cK (.int 0))]), (cTup [(cK (.int 1)), (cUn fNeg (cK (.int 2)))]), (cTup [(cK (.int 0)), (cUn fNeg (cK (.int 1)))]), (cTup [(cK (.bl true)), (cK (.int 1))]), (cTup [(cK (.int 0)), (cK (.bl true))]), (cTup [(cK (.bl false)), (cK (.int 1))]), (cTup [(cK (.int 1)), (cK (.int 2)), (cK (.int 1))])]))
    (cSeq (cExpr (cSh (cExt 1 (cFz (cLst [(cTup [(cK (.int 1))]), (cTup []), (cK (.int 0)), (cK (.int 1)), (cK (.str (PySem.Str.ofString "0"))), (cK (.str (PySem.Str.ofString "a"))), (cK .non), (cK (.bl true)), (cK (.bl false)), (cTup [(cTup [(cK (.int 0)), (cK (.int 1))]), (cTup [(cK (.int 0)), (cK (.int 1))])]), (cTup [(cK .non), (cK (.int 1))]), (cTup [(cK (.str (PySem.Str.ofString "0"))), (cK (.str (PySem.Str.ofString "1")))]), (cTup [(cTup [(cK (.int 0)), (cK (.int 1))]), (cK (.int 1))])])))))
    (cRet (cCall m__law_pick (cBorA 0 (cConsA (cVar 1) cNilA))))))
/-- _law_put(row, at, thing); slots: 0 row, 1 at, 2 thing -/
def den__law_put : DS :=
  (cRet (cSh (cOp fAdd (cOp fAdd (cSl (cVar 0) cNoP (cPart (cVar 1))) (cTup [(cVar 2)])) (cSl (cVar 0) (cPart (cOp fAdd (cVar 1) (cK (.int 1)))) cNoP))))
/-- _law_filled(d, row, at); slots: 0 d, 1 row, 2 at, 3 full -/
def den__law_filled (m__law_plus : FnM) (m__law_minus : FnM) (m__law_sum : FnM) (m__law_draw : FnM) : DS :=
  (cSeq (cSet 3 (cCall m__law_plus (cConsA (cIxN 1 (cVar 2)) (cConsA (cFz (cCall m__law_minus (cConsA (cTup [(cK (.int 1)), (cK (.int 1))]) (cConsA (cFz (cCall m__law_sum (cConsA (cVar 1) cNilA))) cNilA)))) cNilA))))
    (cSeq (cIf (cB (cOp fEq (cFz (cCall m__law_draw (cBorA 0 (cConsA (cK (.int 2)) cNilA)))) (cK (.int 0)))) (cRet (cMove 3)) cNext)
    (cRet (cCall m__law_plus (cConsA (cVar 3) (cConsA (cTup [(cK (.int 1)), (cOp fAdd (cK (.int 1)) (cFz (cCall m__law_draw (cBorA 0 (cConsA (cOp fPow (cK (.int 10)) (cK (.int 9))) cNilA)))))]) cNilA))))))
/-- _law_nothing(many); slots: 0 many, 1 row, 2 at -/
def den__law_nothing : DS :=
  (cSeq (cSet 1 (cSh (cUn fTuple (cFz (cLC (cRg1 (cVar 0)) (gN 2) cYes (cTup [(cK (.int 0)), (cK (.int 1))]) [2])))))
    (cRet (cSh (cTup [(cVar 1), (cUn fTuple (cFz (cLC (cRg1 (cVar 0)) (gN 2) cYes (cVar 1) [2])))]))))
/-- _law_bent_whole(d, graph, kind); slots: 0 d, 1 graph, 2 kind, 3 rates, 4 passes, 5 found, 6 more, 7 last, 8 at, 9 row -/
def den__law_bent_whole (m__law_pick : FnM) (m__law_nothing : FnM) : DS :=
  (cSeq (cAsg (cVar 1) (gT [3, 4]))
    (cSeq (cIf (cB (cOp fEq (cVar 2) (cK (.int 0)))) (cSeq (cSet 5 (cLst [(cK .non), (cK (.int 0)), (cK (.str (PySem.Str.ofString "graph"))), (cK (.bl true)), (cTup []), (cTup [(cVar 3)]), (cTup [(cVar 3), (cVar 4), (cVar 4)]), (cTup [(cVar 4), (cVar 3)]), (cVar 3), (cVar 4)]))
    (cRet (cCall m__law_pick (cBorA 0 (cConsA (cVar 5) cNilA))))) cNext)
    (cSeq (cIf (cB (cOp fEq (cVar 2) (cK (.int 1)))) (cSeq (cSet 6 (cSh (cOp fAdd (cVar 3) (cTup [(cTup [(cK (.int 0)), (cK (.int 1))])]))))
    (cRet (cSh (cTup [(cFz (cCall m__law_pick (cBorA 0 (cConsA (cFz (cLst [(cK .non), (cK (.int 1)), (cK (.str (PySem.Str.ofString ""))), (cTup []), (cVar 6), (cSl (cVar 3) (cPart (cK (.int 1))) cNoP), (cTup [(cVar 3)]), (cIxN 3 (cK (.int 0)))])) cNilA)))), (cVar 4)])))) cNext)
    (cSeq (cIf (cB (cOp fEq (cVar 2) (cK (.int 2)))) (cSeq (cSet 6 (cSh (cOp fAdd (cVar 4) (cTup [(cIxN 4 (cK (.int 0)))]))))
    (cRet (cSh (cTup [(cVar 3), (cFz (cCall m__law_pick (cBorA 0 (cConsA (cFz (cLst [(cK .non), (cK (.int 0)), (cK (.str (PySem.Str.ofString ""))), (cTup []), (cSl (cVar 4) (cPart (cK (.int 1))) cNoP), (cVar 6), (cOp fAdd (cVar 4) (cTup [(cTup [])])), (cIxN 4 (cK (.int 0)))])) cNilA))))])))) cNext)
    (cSeq (cIf (cB (cOp fEq (cVar 2) (cK (.int 3)))) (cSeq (cSet 7 (cSh (cUn fTuple (cFz (cLC (cRg1 (cOp fAdd (cUn fLen (cPeek 3)) (cK (.int 1)))) (gN 8) cYes (cTup [(cK (.int 0)), (cK (.int 1))]) [8])))))
    (cRet (cSh (cTup [(cOp fAdd (cVar 3) (cTup [(cTup [(cK (.int 0)), (cK (.int 1))])])), (cOp fAdd (cUn fTuple (cFz (cLC (cSeqI (cVar 4)) (gN 9) cYes (cOp fAdd (cVar 9) (cTup [(cTup [(cK (.int 0)), (cK (.int 1))])])) [9]))) (cTup [(cVar 7)]))])))) cNext)
    (cSeq (cIf (cB (cOp fEq (cVar 2) (cK (.int 4)))) (cRet (cCall m__law_nothing (cConsA (cFz (cCall m__law_pick (cBorA 0 (cConsA (cFz (cLst [(cK (.int 0)), (cK (.int 6)), (cK (.int 1)), (cK (.int 5)), (cK (.int 7))])) cNilA)))) cNilA))) cNext)
    (cRet (cSh (cTup [(cVar 3), (cOp fAdd (cSl (cVar 4) (cPart (cK (.int 1))) cNoP) (cSl (cVar 4) cNoP (cPart (cK (.int 1)))))])))))))))
/-- _law_bent_part(d, graph, kind); slots: 0 d, 1 graph, 2 kind, 3 rates, 4 passes, 5 at, 6 other, 7 row, 8 thing, 9 halves, 10 part -/
def den__law_bent_part (m__law_draw : FnM) (m__law_put : FnM) (m__law_odd : FnM) (m__law_filled : FnM) (m__law_pick : FnM) (m__law_times : FnM) : DS :=
  (cSeq (cAsg (cVar 1) (gT [3, 4]))
    (cSeq (cPar 5 6 (cFz (cCall m__law_draw (cBorA 0 (cConsA (cUn fLen (cPeek 3)) cNilA)))) (cFz (cCall m__law_draw (cBorA 0 (cConsA (cUn fLen (cPeek 3)) cNilA)))))
    (cSeq (cSet 7 (cSh (cIxN 4 (cVar 5))))
    (cSeq (cIf (cB (cOp fEq (cVar 2) (cK (.int 6)))) (cRet (cSh (cTup [(cFz (cCall m__law_put (cConsA (cVar 3) (cConsA (cVar 5) (cConsA (cFz (cCall m__law_odd (cBorA 0 cNilA))) cNilA))))), (cVar 4)]))) cNext)
    (cSeq (cIf (cB (cOp fEq (cVar 2) (cK (.int 7)))) (cRet (cSh (cTup [(cFz (cCall m__law_put (cConsA (cVar 3) (cConsA (cVar 5) (cConsA (cFz (cCall m__law_filled (cBorA 0 (cConsA (cVar 3) (cConsA (cVar 5) cNilA))))) cNilA))))), (cVar 4)]))) cNext)
    (cSeq (cIf (cB (cOp fEq (cVar 2) (cK (.int 8)))) (cSeq (cSet 8 (cCall m__law_pick (cBorA 0 (cConsA (cFz (cLst [(cK .non), (cK (.int 1)), (cK (.str (PySem.Str.ofString "ab"))), (cTup []), (cSl (cVar 7) (cPart (cK (.int 1))) cNoP), (cOp fAdd (cVar 7) (cTup [(cTup [(cK (.int 0)), (cK (.int 1))])])), (cIxN 7 (cK (.int 0)))])) cNilA))))
    (cRet (cSh (cTup [(cVar 3), (cFz (cCall m__law_put (cConsA (cVar 4) (cConsA (cVar 5) (cConsA (cVar 8) cNilA)))))])))) cNext)
    (cSeq (cIf (cB (cOp fEq (cVar 2) (cK (.int 9)))) (cRet (cSh (cTup [(cVar 3), (cFz (cCall m__law_put (cConsA (cVar 4) (cConsA (cVar 5) (cConsA (cFz (cCall m__law_put (cConsA (cVar 7) (cConsA (cVar 6) (cConsA (cFz (cCall m__law_odd (cBorA 0 cNilA))) cNilA))))) cNilA)))))]))) cNext)
    (cSeq (cIf (cB (cOp fEq (cVar 2) (cK (.int 10)))) (cRet (cSh (cTup [(cVar 3), (cFz (cCall m__law_put (cConsA (cVar 4) (cConsA (cVar 5) (cConsA (cFz (cCall m__law_put (cConsA (cVar 7) (cConsA (cVar 6) (cConsA (cFz (cCall m__law_filled (cBorA 0 (cConsA (cVar 7) (cConsA (cVar 6) cNilA))))) cNilA))))) cNilA)))))]))) cNext)
    (cSeq (cSet 9 (cSh (cUn fTuple (cFz (cLC (cSeqI (cVar 7)) (gN 10) cYes (cFz (cCall m__law_times (cConsA (cVar 10) (cConsA (cTup [(cK (.int 1)), (cK (.int 2))]) cNilA)))) [10])))))
    (cRet (cSh (cTup [(cVar 3), (cFz (cCall m__law_put (cConsA (cVar 4) (cConsA (cVar 5) (cConsA (cFz (cCall m__law_put (cConsA (cVar 9) (cConsA (cVar 5) (cConsA (cTup [(cK (.int 1)), (cOp fAdd (cK (.int 2)) (cFz (cCall m__law_draw (cBorA 0 (cConsA (cK (.int 3)) cNilA)))))]) cNilA))))) cNilA)))))]))))))))))))
/-- _law_is_judged(thing); slots: 0 thing, 1 told -/
def den__law_is_judged (m_is_graph : FnM) (m__law_is_right : FnM) : DS :=
  (cSeq (cSet 1 (cCall m_is_graph (cConsA (cVar 0) cNilA)))
    (cRet (cSh (cAndV (cUn (fIsTy "bool") (cPeek 1)) (cOp fEq (cVar 1) (cFz (cCall m__law_is_right (cConsA (cVar 0) cNilA))))))))
/-- _law_is_taken(graph, question); slots: 0 graph, 1 question, 2 told -/
def den__law_is_taken (m_without : FnM) (m_is_graph : FnM) (m__law_same : FnM) (m__law_taken : FnM) : DS :=
  (cSeq (cSet 2 (cCall m_without (cConsA (cVar 0) (cConsA (cVar 1) cNilA))))
    (cRet (cSh (cAndV (cFz (cCall m__law_same (cConsA (cVar 2) (cConsA (cFz (cCall m__law_taken (cConsA (cVar 0) (cConsA (cVar 1) cNilA)))) cNilA)))) (cOp fIs (cFz (cCall m_is_graph (cConsA (cVar 2) cNilA))) (cK (.bl true)))))))
/-- law(script); slots: 0 script, 1 d, 2 graph, 3 mate, 4 kind, 5 thing, 6 questions, 7 first, 8 taken, 9 question -/
def den_law (m__law_begin : FnM) (m__law_graph : FnM) (m__law_draw : FnM) (m_is_graph : FnM) (m__law_bent_whole : FnM) (m__law_bent_part : FnM) (m__law_is_judged : FnM) (m__law_is_taken : FnM) (m__law_pick : FnM) (m__law_taken : FnM) : DS :=
  (cSeq (cSet 1 (cCall m__law_begin (cConsA (cVar 0) cNilA)))
    (cSeq (cSet 2 (cCall m__law_graph (cBorA 1 (cConsA (cOp fAdd (cK (.int 1)) (cFz (cCall m__law_draw (cBorA 1 (cConsA (cK (.int 5)) cNilA))))) cNilA))))
    (cSeq (cSet 3 (cCall m__law_graph (cBorA 1 (cConsA (cOp fAdd (cK (.int 1)) (cFz (cCall m__law_draw (cBorA 1 (cConsA (cK (.int 5)) cNilA))))) cNilA))))
    (cSeq (cIf (cOrT (cB (cOp fIsN (cFz (cCall m_is_graph (cConsA (cVar 2) cNilA))) (cK (.bl true)))) (cB (cOp fIsN (cFz (cCall m_is_graph (cConsA (cVar 3) cNilA))) (cK (.bl true))))) (cRet (cSh (cK (.bl false)))) cNext)
    (cSeq (cFor (cRg1 (cK (.int 12))) (gN 4) (cSeq (cSet 5 (cSh (cIfE (cB (cOp fLt (cVar 4) (cK (.int 6)))) (cFz (cCall m__law_bent_whole (cBorA 1 (cConsA (cVar 2) (cConsA (cVar 4) cNilA))))) (cFz (cCall m__law_bent_part (cBorA 1 (cConsA (cVar 2) (cConsA (cVar 4) cNilA))))))))
    (cIf (cNotT (cB (cFz (cCall m__law_is_judged (cConsA (cVar 5) cNilA))))) (cRet (cSh (cK (.bl false)))) cNext)))
    (cSeq (cSet 6 (cListRg (cUn fLen (cIxN 2 (cK (.int 0))))))
    (cSeq (cIf (cNotT (cB (cUn fAll (cFz (cLC (cSeqI (cVar 6)) (gN 9) cYes (cFz (cCall m__law_is_taken (cConsA (cVar 2) (cConsA (cVar 9) cNilA)))) [9]))))) (cRet (cSh (cK (.bl false)))) cNext)
    (cSeq (cIf (cNotT (cB (cUn fAll (cFz (cLC (cRg1 (cUn fLen (cIxN 3 (cK (.int 0))))) (gN 9) cYes (cFz (cCall m__law_is_taken (cConsA (cVar 3) (cConsA (cVar 9) cNilA)))) [9]))))) (cRet (cSh (cK (.bl false)))) cNext)
    (cSeq (cSet 7 (cCall m__law_pick (cBorA 1 (cConsA (cVar 6) cNilA))))
    (cSeq (cSet 8 (cCall m__law_taken (cConsA (cVar 2) (cConsA (cVar 7) cNilA))))
    (cSeq (cIf (cNotT (cB (cUn fAll (cFz (cLC (cSeqI (cVar 6)) (gN 9) cYes (cFz (cCall m__law_is_taken (cConsA (cVar 8) (cConsA (cVar 9) cNilA)))) [9]))))) (cRet (cSh (cK (.bl false)))) cNext)
    (cRet (cSh (cAndV (cFz (cCall m__law_is_taken (cConsA (cVar 2) (cConsA (cVar 7) cNilA)))) (cAndV (cOp fIs (cFz (cCall m_is_graph (cConsA (cVar 2) cNilA))) (cK (.bl true))) (cFz (cCall m__law_is_judged (cConsA (cFz (cCall m__law_bent_part (cBorA 1 (cConsA (cVar 3) (cConsA (cK (.int 10)) cNilA))))) cNilA))))))))))))))))))
end K59
/-! derivations of the defs; printed by gen.py from the linked text (it only parses) -/
namespace K59
open PySem PySem.Spec PyProof.Rows L2 AL
abbrev pw : Program := PySem.Challenge.pw_carriedstakes_k59_graphs_passed
def top (i : Nat) : Stmt := pw.main.body.getD i (.Pass ⟨0, 0, 0, 0⟩)
abbrev s_is_whole : Stmt := top 7
theorem sc_is_whole : FnScope ["thing"] ["thing"] (defScope s_is_whole) := ⟨rfl, rfl, rfl, by decide +kernel, rfl, by decide +kernel, by decide +kernel⟩
def d_is_whole : He.DefD := ⟨("is_whole", none), "is_whole", "is_whole", defArgs s_is_whole, defBody s_is_whole, defScope s_is_whole, [], []⟩
abbrev s_is_fraction : Stmt := top 8
theorem sc_is_fraction : FnScope ["thing"] ["thing"] (defScope s_is_fraction) := ⟨rfl, rfl, rfl, by decide +kernel, rfl, by decide +kernel, by decide +kernel⟩
def d_is_fraction : He.DefD := ⟨("is_fraction", none), "is_fraction", "is_fraction", defArgs s_is_fraction, defBody s_is_fraction, defScope s_is_fraction, [], []⟩
abbrev s_is_amount : Stmt := top 9
theorem sc_is_amount : FnScope ["thing"] ["thing"] (defScope s_is_amount) := ⟨rfl, rfl, rfl, by decide +kernel, rfl, by decide +kernel, by decide +kernel⟩
def d_is_amount : He.DefD := ⟨("is_amount", none), "is_amount", "is_amount", defArgs s_is_amount, defBody s_is_amount, defScope s_is_amount, [], []⟩
abbrev s_fraction : Stmt := top 10
theorem sc_fraction : FnScope ["n", "d", "common"] ["n", "d"] (defScope s_fraction) := ⟨rfl, rfl, rfl, by decide +kernel, rfl, by decide +kernel, by decide +kernel⟩
def d_fraction : He.DefD := ⟨("fraction", none), "fraction", "fraction", defArgs s_fraction, defBody s_fraction, defScope s_fraction, [], []⟩
abbrev s_plus : Stmt := top 11
theorem sc_plus : FnScope ["a", "b"] ["a", "b"] (defScope s_plus) := ⟨rfl, rfl, rfl, by decide +kernel, rfl, by decide +kernel, by decide +kernel⟩
def d_plus : He.DefD := ⟨("plus", none), "plus", "plus", defArgs s_plus, defBody s_plus, defScope s_plus, [], []⟩
abbrev s_minus : Stmt := top 12
theorem sc_minus : FnScope ["a", "b"] ["a", "b"] (defScope s_minus) := ⟨rfl, rfl, rfl, by decide +kernel, rfl, by decide +kernel, by decide +kernel⟩
def d_minus : He.DefD := ⟨("minus", none), "minus", "minus", defArgs s_minus, defBody s_minus, defScope s_minus, [], []⟩
abbrev s_times : Stmt := top 13
theorem sc_times : FnScope ["a", "b"] ["a", "b"] (defScope s_times) := ⟨rfl, rfl, rfl, by decide +kernel, rfl, by decide +kernel, by decide +kernel⟩
def d_times : He.DefD := ⟨("times", none), "times", "times", defArgs s_times, defBody s_times, defScope s_times, [], []⟩
abbrev s_over : Stmt := top 14
theorem sc_over : FnScope ["a", "b"] ["a", "b"] (defScope s_over) := ⟨rfl, rfl, rfl, by decide +kernel, rfl, by decide +kernel, by decide +kernel⟩
def d_over : He.DefD := ⟨("over", none), "over", "over", defArgs s_over, defBody s_over, defScope s_over, [], []⟩
abbrev s_less : Stmt := top 15
theorem sc_less : FnScope ["a", "b"] ["a", "b"] (defScope s_less) := ⟨rfl, rfl, rfl, by decide +kernel, rfl, by decide +kernel, by decide +kernel⟩
def d_less : He.DefD := ⟨("less", none), "less", "less", defArgs s_less, defBody s_less, defScope s_less, [], []⟩
abbrev s_shared : Stmt := top 16
theorem sc_shared : FnScope ["row", "bottom", "top", "under"] ["row"] (defScope s_shared) := ⟨rfl, rfl, rfl, by decide +kernel, rfl, by decide +kernel, by decide +kernel⟩
def d_shared : He.DefD := ⟨("shared", none), "shared", "shared", defArgs s_shared, defBody s_shared, defScope s_shared, [], []⟩
abbrev s_total : Stmt := top 17
theorem sc_total : FnScope ["row", "tops", "bottom"] ["row"] (defScope s_total) := ⟨rfl, rfl, rfl, by decide +kernel, rfl, by decide +kernel, by decide +kernel⟩
def d_total : He.DefD := ⟨("total", none), "total", "total", defArgs s_total, defBody s_total, defScope s_total, [], []⟩
abbrev s_is_amount_row : Stmt := top 19
theorem sc_is_amount_row : FnScope ["thing", "many", "one"] ["thing", "many"] (defScope s_is_amount_row) := ⟨rfl, rfl, rfl, by decide +kernel, rfl, by decide +kernel, by decide +kernel⟩
def d_is_amount_row : He.DefD := ⟨("is_amount_row", none), "is_amount_row", "is_amount_row", defArgs s_is_amount_row, defBody s_is_amount_row, defScope s_is_amount_row, [], []⟩
abbrev s_is_graph : Stmt := top 20
theorem sc_is_graph : FnScope ["thing", "rates", "passes", "at", "row"] ["thing"] (defScope s_is_graph) := ⟨rfl, rfl, rfl, by decide +kernel, rfl, by decide +kernel, by decide +kernel⟩
def d_is_graph : He.DefD := ⟨("is_graph", none), "is_graph", "is_graph", defArgs s_is_graph, defBody s_is_graph, defScope s_is_graph, [], []⟩
abbrev s_passed_part : Stmt := top 21
theorem sc_passed_part : FnScope ["passes", "question", "one", "other", "left"] ["passes", "question", "one", "other"] (defScope s_passed_part) := ⟨rfl, rfl, rfl, by decide +kernel, rfl, by decide +kernel, by decide +kernel⟩
def d_passed_part : He.DefD := ⟨("passed_part", none), "passed_part", "passed_part", defArgs s_passed_part, defBody s_passed_part, defScope s_passed_part, [], []⟩
abbrev s_without : Stmt := top 22
theorem sc_without : FnScope ["graph", "question", "rates", "passes", "many", "later", "at", "grown", "rows", "one", "other"] ["graph", "question"] (defScope s_without) := ⟨rfl, rfl, rfl, by decide +kernel, rfl, by decide +kernel, by decide +kernel⟩
def d_without : He.DefD := ⟨("without", none), "without", "without", defArgs s_without, defBody s_without, defScope s_without, [], []⟩
abbrev s__law_begin : Stmt := top 24
theorem sc__law_begin : FnScope ["script", "cell"] ["script"] (defScope s__law_begin) := ⟨rfl, rfl, rfl, by decide +kernel, rfl, by decide +kernel, by decide +kernel⟩
def d__law_begin : He.DefD := ⟨("_law_begin", none), "_law_begin", "_law_begin", defArgs s__law_begin, defBody s__law_begin, defScope s__law_begin, [], []⟩
abbrev s__law_draw : Stmt := top 25
theorem sc__law_draw : FnScope ["d", "many", "found", "size", "cell"] ["d", "many"] (defScope s__law_draw) := ⟨rfl, rfl, rfl, by decide +kernel, rfl, by decide +kernel, by decide +kernel⟩
def d__law_draw : He.DefD := ⟨("_law_draw", none), "_law_draw", "_law_draw", defArgs s__law_draw, defBody s__law_draw, defScope s__law_draw, [], []⟩
abbrev s__law_pick : Stmt := top 26
theorem sc__law_pick : FnScope ["d", "row"] ["d", "row"] (defScope s__law_pick) := ⟨rfl, rfl, rfl, by decide +kernel, rfl, by decide +kernel, by decide +kernel⟩
def d__law_pick : He.DefD := ⟨("_law_pick", none), "_law_pick", "_law_pick", defArgs s__law_pick, defBody s__law_pick, defScope s__law_pick, [], []⟩
abbrev s__law_rare : Stmt := top 27
theorem sc__law_rare : FnScope ["d", "many"] ["d", "many"] (defScope s__law_rare) := ⟨rfl, rfl, rfl, by decide +kernel, rfl, by decide +kernel, by decide +kernel⟩
def d__law_rare : He.DefD := ⟨("_law_rare", none), "_law_rare", "_law_rare", defArgs s__law_rare, defBody s__law_rare, defScope s__law_rare, [], []⟩
abbrev s__law_shuffled : Stmt := top 28
theorem sc__law_shuffled : FnScope ["d", "row", "left", "found", "k"] ["d", "row"] (defScope s__law_shuffled) := ⟨rfl, rfl, rfl, by decide +kernel, rfl, by decide +kernel, by decide +kernel⟩
def d__law_shuffled : He.DefD := ⟨("_law_shuffled", none), "_law_shuffled", "_law_shuffled", defArgs s__law_shuffled, defBody s__law_shuffled, defScope s__law_shuffled, [], []⟩
abbrev s__law_is_int : Stmt := top 29
theorem sc__law_is_int : FnScope ["thing"] ["thing"] (defScope s__law_is_int) := ⟨rfl, rfl, rfl, by decide +kernel, rfl, by decide +kernel, by decide +kernel⟩
def d__law_is_int : He.DefD := ⟨("_law_is_int", none), "_law_is_int", "_law_is_int", defArgs s__law_is_int, defBody s__law_is_int, defScope s__law_is_int, [], []⟩
abbrev s__law_gcd : Stmt := top 30
theorem sc__law_gcd : FnScope ["a", "b"] ["a", "b"] (defScope s__law_gcd) := ⟨rfl, rfl, rfl, by decide +kernel, rfl, by decide +kernel, by decide +kernel⟩
def d__law_gcd : He.DefD := ⟨("_law_gcd", none), "_law_gcd", "_law_gcd", defArgs s__law_gcd, defBody s__law_gcd, defScope s__law_gcd, [], []⟩
abbrev s__law_frac : Stmt := top 31
theorem sc__law_frac : FnScope ["n", "d", "common"] ["n", "d"] (defScope s__law_frac) := ⟨rfl, rfl, rfl, by decide +kernel, rfl, by decide +kernel, by decide +kernel⟩
def d__law_frac : He.DefD := ⟨("_law_frac", none), "_law_frac", "_law_frac", defArgs s__law_frac, defBody s__law_frac, defScope s__law_frac, [], []⟩
abbrev s__law_is_frac : Stmt := top 32
theorem sc__law_is_frac : FnScope ["thing"] ["thing"] (defScope s__law_is_frac) := ⟨rfl, rfl, rfl, by decide +kernel, rfl, by decide +kernel, by decide +kernel⟩
def d__law_is_frac : He.DefD := ⟨("_law_is_frac", none), "_law_is_frac", "_law_is_frac", defArgs s__law_is_frac, defBody s__law_is_frac, defScope s__law_is_frac, [], []⟩
abbrev s__law_plus : Stmt := top 33
theorem sc__law_plus : FnScope ["a", "b"] ["a", "b"] (defScope s__law_plus) := ⟨rfl, rfl, rfl, by decide +kernel, rfl, by decide +kernel, by decide +kernel⟩
def d__law_plus : He.DefD := ⟨("_law_plus", none), "_law_plus", "_law_plus", defArgs s__law_plus, defBody s__law_plus, defScope s__law_plus, [], []⟩
abbrev s__law_minus : Stmt := top 34
theorem sc__law_minus : FnScope ["a", "b"] ["a", "b"] (defScope s__law_minus) := ⟨rfl, rfl, rfl, by decide +kernel, rfl, by decide +kernel, by decide +kernel⟩
def d__law_minus : He.DefD := ⟨("_law_minus", none), "_law_minus", "_law_minus", defArgs s__law_minus, defBody s__law_minus, defScope s__law_minus, [], []⟩
abbrev s__law_times : Stmt := top 35
theorem sc__law_times : FnScope ["a", "b"] ["a", "b"] (defScope s__law_times) := ⟨rfl, rfl, rfl, by decide +kernel, rfl, by decide +kernel, by decide +kernel⟩
def d__law_times : He.DefD := ⟨("_law_times", none), "_law_times", "_law_times", defArgs s__law_times, defBody s__law_times, defScope s__law_times, [], []⟩
abbrev s__law_over : Stmt := top 36
theorem sc__law_over : FnScope ["a", "b"] ["a", "b"] (defScope s__law_over) := ⟨rfl, rfl, rfl, by decide +kernel, rfl, by decide +kernel, by decide +kernel⟩
def d__law_over : He.DefD := ⟨("_law_over", none), "_law_over", "_law_over", defArgs s__law_over, defBody s__law_over, defScope s__law_over, [], []⟩
abbrev s__law_less : Stmt := top 37
theorem sc__law_less : FnScope ["a", "b"] ["a", "b"] (defScope s__law_less) := ⟨rfl, rfl, rfl, by decide +kernel, rfl, by decide +kernel, by decide +kernel⟩
def d__law_less : He.DefD := ⟨("_law_less", none), "_law_less", "_law_less", defArgs s__law_less, defBody s__law_less, defScope s__law_less, [], []⟩
abbrev s__law_sum : Stmt := top 38
theorem sc__law_sum : FnScope ["row", "top", "bottom", "n", "d", "common"] ["row"] (defScope s__law_sum) := ⟨rfl, rfl, rfl, by decide +kernel, rfl, by decide +kernel, by decide +kernel⟩
def d__law_sum : He.DefD := ⟨("_law_sum", none), "_law_sum", "_law_sum", defArgs s__law_sum, defBody s__law_sum, defScope s__law_sum, [], []⟩
abbrev s__law_parted : Stmt := top 39
theorem sc__law_parted : FnScope ["tops", "slack", "whole", "top"] ["tops", "slack"] (defScope s__law_parted) := ⟨rfl, rfl, rfl, by decide +kernel, rfl, by decide +kernel, by decide +kernel⟩
def d__law_parted : He.DefD := ⟨("_law_parted", none), "_law_parted", "_law_parted", defArgs s__law_parted, defBody s__law_parted, defScope s__law_parted, [], []⟩
abbrev s__law_pass_row : Stmt := top 40
theorem sc__law_pass_row : FnScope ["d", "many", "at", "kind", "tops", "slack", "most", "other"] ["d", "many", "at"] (defScope s__law_pass_row) := ⟨rfl, rfl, rfl, by decide +kernel, rfl, by decide +kernel, by decide +kernel⟩
def d__law_pass_row : He.DefD := ⟨("_law_pass_row", none), "_law_pass_row", "_law_pass_row", defArgs s__law_pass_row, defBody s__law_pass_row, defScope s__law_pass_row, [], []⟩
abbrev s__law_graph : Stmt := top 41
theorem sc__law_graph : FnScope ["d", "many", "most", "tops", "rates", "rows", "ring", "k", "at", "other"] ["d", "many"] (defScope s__law_graph) := ⟨rfl, rfl, rfl, by decide +kernel, rfl, by decide +kernel, by decide +kernel⟩
def d__law_graph : He.DefD := ⟨("_law_graph", none), "_law_graph", "_law_graph", defArgs s__law_graph, defBody s__law_graph, defScope s__law_graph, [], []⟩
abbrev s__law_same : Stmt := top 42
theorem sc__law_same : FnScope ["told", "due", "k"] ["told", "due"] (defScope s__law_same) := ⟨rfl, rfl, rfl, by decide +kernel, rfl, by decide +kernel, by decide +kernel⟩
def d__law_same : He.DefD := ⟨("_law_same", none), "_law_same", "_law_same", defArgs s__law_same, defBody s__law_same, defScope s__law_same, [], []⟩
abbrev s__law_taken_part : Stmt := top 43
theorem sc__law_taken_part : FnScope ["passes", "question", "one", "other", "back", "way"] ["passes", "question", "one", "other"] (defScope s__law_taken_part) := ⟨rfl, rfl, rfl, by decide +kernel, rfl, by decide +kernel, by decide +kernel⟩
def d__law_taken_part : He.DefD := ⟨("_law_taken_part", none), "_law_taken_part", "_law_taken_part", defArgs s__law_taken_part, defBody s__law_taken_part, defScope s__law_taken_part, [], []⟩
abbrev s__law_taken : Stmt := top 44
theorem sc__law_taken : FnScope ["graph", "question", "rates", "passes", "many", "later", "rows", "at", "grown", "other"] ["graph", "question"] (defScope s__law_taken) := ⟨rfl, rfl, rfl, by decide +kernel, rfl, by decide +kernel, by decide +kernel⟩
def d__law_taken : He.DefD := ⟨("_law_taken", none), "_law_taken", "_law_taken", defArgs s__law_taken, defBody s__law_taken, defScope s__law_taken, [], []⟩
abbrev s__law_is_amounts : Stmt := top 45
theorem sc__law_is_amounts : FnScope ["thing", "many", "one"] ["thing", "many"] (defScope s__law_is_amounts) := ⟨rfl, rfl, rfl, by decide +kernel, rfl, by decide +kernel, by decide +kernel⟩
def d__law_is_amounts : He.DefD := ⟨("_law_is_amounts", none), "_law_is_amounts", "_law_is_amounts", defArgs s__law_is_amounts, defBody s__law_is_amounts, defScope s__law_is_amounts, [], []⟩
abbrev s__law_is_right : Stmt := top 46
theorem sc__law_is_right : FnScope ["thing", "rates", "passes", "at", "row"] ["thing"] (defScope s__law_is_right) := ⟨rfl, rfl, rfl, by decide +kernel, rfl, by decide +kernel, by decide +kernel⟩
def d__law_is_right : He.DefD := ⟨("_law_is_right", none), "_law_is_right", "_law_is_right", defArgs s__law_is_right, defBody s__law_is_right, defScope s__law_is_right, [], []⟩
abbrev s__law_odd : Stmt := top 47
theorem sc__law_odd : FnScope ["d", "found"] ["d"] (defScope s__law_odd) := ⟨rfl, rfl, rfl, by decide +kernel, rfl, by decide +kernel, by decide +kernel⟩
def d__law_odd : He.DefD := ⟨("_law_odd", none), "_law_odd", "_law_odd", defArgs s__law_odd, defBody s__law_odd, defScope s__law_odd, [], []⟩
abbrev s__law_put : Stmt := top 48
theorem sc__law_put : FnScope ["row", "at", "thing"] ["row", "at", "thing"] (defScope s__law_put) := ⟨rfl, rfl, rfl, by decide +kernel, rfl, by decide +kernel, by decide +kernel⟩
def d__law_put : He.DefD := ⟨("_law_put", none), "_law_put", "_law_put", defArgs s__law_put, defBody s__law_put, defScope s__law_put, [], []⟩
abbrev s__law_filled : Stmt := top 49
theorem sc__law_filled : FnScope ["d", "row", "at", "full"] ["d", "row", "at"] (defScope s__law_filled) := ⟨rfl, rfl, rfl, by decide +kernel, rfl, by decide +kernel, by decide +kernel⟩
def d__law_filled : He.DefD := ⟨("_law_filled", none), "_law_filled", "_law_filled", defArgs s__law_filled, defBody s__law_filled, defScope s__law_filled, [], []⟩
abbrev s__law_nothing : Stmt := top 50
theorem sc__law_nothing : FnScope ["many", "row", "at"] ["many"] (defScope s__law_nothing) := ⟨rfl, rfl, rfl, by decide +kernel, rfl, by decide +kernel, by decide +kernel⟩
def d__law_nothing : He.DefD := ⟨("_law_nothing", none), "_law_nothing", "_law_nothing", defArgs s__law_nothing, defBody s__law_nothing, defScope s__law_nothing, [], []⟩
abbrev s__law_bent_whole : Stmt := top 51
theorem sc__law_bent_whole : FnScope ["d", "graph", "kind", "rates", "passes", "found", "more", "last", "at", "row"] ["d", "graph", "kind"] (defScope s__law_bent_whole) := ⟨rfl, rfl, rfl, by decide +kernel, rfl, by decide +kernel, by decide +kernel⟩
def d__law_bent_whole : He.DefD := ⟨("_law_bent_whole", none), "_law_bent_whole", "_law_bent_whole", defArgs s__law_bent_whole, defBody s__law_bent_whole, defScope s__law_bent_whole, [], []⟩
abbrev s__law_bent_part : Stmt := top 52
theorem sc__law_bent_part : FnScope ["d", "graph", "kind", "rates", "passes", "at", "other", "row", "thing", "halves", "part"] ["d", "graph", "kind"] (defScope s__law_bent_part) := ⟨rfl, rfl, rfl, by decide +kernel, rfl, by decide +kernel, by decide +kernel⟩
def d__law_bent_part : He.DefD := ⟨("_law_bent_part", none), "_law_bent_part", "_law_bent_part", defArgs s__law_bent_part, defBody s__law_bent_part, defScope s__law_bent_part, [], []⟩
abbrev s__law_is_judged : Stmt := top 53
theorem sc__law_is_judged : FnScope ["thing", "told"] ["thing"] (defScope s__law_is_judged) := ⟨rfl, rfl, rfl, by decide +kernel, rfl, by decide +kernel, by decide +kernel⟩
def d__law_is_judged : He.DefD := ⟨("_law_is_judged", none), "_law_is_judged", "_law_is_judged", defArgs s__law_is_judged, defBody s__law_is_judged, defScope s__law_is_judged, [], []⟩
abbrev s__law_is_taken : Stmt := top 54
theorem sc__law_is_taken : FnScope ["graph", "question", "told"] ["graph", "question"] (defScope s__law_is_taken) := ⟨rfl, rfl, rfl, by decide +kernel, rfl, by decide +kernel, by decide +kernel⟩
def d__law_is_taken : He.DefD := ⟨("_law_is_taken", none), "_law_is_taken", "_law_is_taken", defArgs s__law_is_taken, defBody s__law_is_taken, defScope s__law_is_taken, [], []⟩
abbrev s_law : Stmt := top 55
theorem sc_law : FnScope ["script", "d", "graph", "mate", "kind", "thing", "questions", "first", "taken", "question"] ["script"] (defScope s_law) := ⟨rfl, rfl, rfl, by decide +kernel, rfl, by decide +kernel, by decide +kernel⟩
def d_law : He.DefD := ⟨("law", none), "law", "law", defArgs s_law, defBody s_law, defScope s_law, [], []⟩
section
variable {P : Program} {w : World} {K : PySem.W.Frag} {mg : Str → Option Value} {base : Heap} {k : Nat}
theorem kit_int : kitOk "int" = true := by decide +kernel
theorem kit_bool : kitOk "bool" = true := by decide +kernel
theorem kit_tuple : kitOk "tuple" = true := by decide +kernel
theorem kit_str : kitOk "str" = true := by decide +kernel
theorem kit_list : kitOk "list" = true := by decide +kernel
theorem fn_is_whole {f : Addr} {fd : FuncData} {m : FnM} (F : FunD K "is_whole" "is_whole" (defArgs s_is_whole) (defBody s_is_whole) (defScope s_is_whole) [] [] f fd) (hself : mg "is_whole" = some (.ref f)) (h_bool : mg "bool" = none) (h_int : mg "int" = none) (h_isinstance : mg "isinstance" = none)
    (ok : ∀ args P EP, m args P EP → args.length = 1 ∧ denF (den_is_whole) 0 args P EP) : Fn P w K mg base (k + 1) "is_whole" m :=
  fn_ok F sc_is_whole hself (FunD.bindsN F fun _ _ _ _ _ _ us hl => match us, hl with | [_], _ => rfl) (fun cdv A outer s H E hr tk hp => ⟨_, 
    (css_one (cs_ret (cr_sh (cv_and (cv_isTy kit_int h_isinstance h_int (cp_var 0)) (cv_one (cv_not (cv_isTy kit_bool h_isinstance h_bool (cp_var 0))))))))⟩) ok
theorem fn_is_fraction {f : Addr} {fd : FuncData} {m : FnM} (F : FunD K "is_fraction" "is_fraction" (defArgs s_is_fraction) (defBody s_is_fraction) (defScope s_is_fraction) [] [] f fd) (hself : mg "is_fraction" = some (.ref f)) {m_is_whole : FnM} (h_is_whole : Fn P w K mg base k "is_whole" m_is_whole) (h_gcd : mg "gcd" = some (.builtin "math.gcd")) (h_isinstance : mg "isinstance" = none) (h_len : mg "len" = none) (h_tuple : mg "tuple" = none)
    (ok : ∀ args P EP, m args P EP → args.length = 1 ∧ denF (den_is_fraction m_is_whole) 0 args P EP) : Fn P w K mg base (k + 1) "is_fraction" m :=
  fn_ok F sc_is_fraction hself (FunD.bindsN F fun _ _ _ _ _ _ us hl => match us, hl with | [_], _ => rfl) (fun cdv A outer s H E hr tk hp => ⟨_, 
    (css_cons (cs_if (cw_or (ct_not (ct_val (cv_isTy kit_tuple h_isinstance h_tuple (cp_var 0)).p)) (cw_or1 (ct_cmp (op_neD hr.units) so_ne (cv_b1 call_len_seq sc_len h_len (cp_var 0)) cv_int.p))).t (css_one (cs_ret (cr_sh cv_bl))) css_nil)
    (css_cons (cs_if (cw_or (ct_not (ct_val (cv_fz (call_ex h_is_whole hr tk (ca_cons (cv_ixN 0 cv_int) ca_nil))).p)) (cw_or1 (ct_not (ct_val (cv_fz (call_ex h_is_whole hr tk (ca_cons (cv_ixN 0 cv_int) ca_nil))).p)))).t (css_one (cs_ret (cr_sh cv_bl))) css_nil)
    (css_one (cs_ret (cr_sh (cv_and (cv_cmp op_ge so_ge (cv_ixN 0 cv_int) cv_int.p) (cv_one (cv_cmp (op_eqD hr.units) so_eq (cv_bfun cr_gcd sc_gcdM h_gcd (cl_cons (cv_ixN 0 cv_int) (cl_cons (cv_ixN 0 cv_int) cl_nil))) cv_int.p))))))))⟩) ok
theorem fn_is_amount {f : Addr} {fd : FuncData} {m : FnM} (F : FunD K "is_amount" "is_amount" (defArgs s_is_amount) (defBody s_is_amount) (defScope s_is_amount) [] [] f fd) (hself : mg "is_amount" = some (.ref f)) {m_is_fraction : FnM} (h_is_fraction : Fn P w K mg base k "is_fraction" m_is_fraction)
    (ok : ∀ args P EP, m args P EP → args.length = 1 ∧ denF (den_is_amount m_is_fraction) 0 args P EP) : Fn P w K mg base (k + 1) "is_amount" m :=
  fn_ok F sc_is_amount hself (FunD.bindsN F fun _ _ _ _ _ _ us hl => match us, hl with | [_], _ => rfl) (fun cdv A outer s H E hr tk hp => ⟨_, 
    (css_one (cs_ret (cr_sh (cv_and (cv_fz (call_ex h_is_fraction hr tk (ca_cons (cv_var 0) ca_nil))) (cv_one (cv_cmp op_ge so_ge (cv_ixN 0 cv_int) cv_int.p))))))⟩) ok
theorem fn_fraction {f : Addr} {fd : FuncData} {m : FnM} (F : FunD K "fraction" "fraction" (defArgs s_fraction) (defBody s_fraction) (defScope s_fraction) [] [] f fd) (hself : mg "fraction" = some (.ref f)) (h_gcd : mg "gcd" = some (.builtin "math.gcd"))
    (ok : ∀ args P EP, m args P EP → args.length = 2 ∧ denF (den_fraction) 1 args P EP) : Fn P w K mg base (k + 1) "fraction" m :=
  fn_ok F sc_fraction hself (FunD.bindsN F fun _ _ _ _ _ _ us hl => match us, hl with | [_, _], _ => rfl) (fun cdv A outer s H E hr tk hp => ⟨_, 
    (css_cons (cs_if (ct_cmp (op_eqD hr.units) so_eq (cv_var 1) cv_int.p) (css_one cs_never) css_nil)
    (css_cons (cs_if (ct_cmp op_lt so_lt (cv_var 1) cv_int.p) (css_one (cs_par 0 1 rfl sc_fraction.nd (cv_unop un_neg su_neg (cp_var 0)) (cv_unop un_neg su_neg (cp_var 1)))) css_nil)
    (css_cons (cs_set 2 sc_fraction.nd (cr_sh (cv_bfun cr_gcd sc_gcdM h_gcd (cl_cons (cv_var 0) (cl_cons (cv_var 1) cl_nil)))))
    (css_one (cs_ret (cr_sh (cv_tup (cl_cons (cv_bin op_fdivW so_div (cv_var 0) (cp_var 2)) (cl_cons (cv_bin op_fdivW so_div (cv_var 1) (cp_var 2)) cl_nil)))))))))⟩) ok
theorem fn_plus {f : Addr} {fd : FuncData} {m : FnM} (F : FunD K "plus" "plus" (defArgs s_plus) (defBody s_plus) (defScope s_plus) [] [] f fd) (hself : mg "plus" = some (.ref f)) {m_fraction : FnM} (h_fraction : Fn P w K mg base k "fraction" m_fraction)
    (ok : ∀ args P EP, m args P EP → args.length = 2 ∧ denF (den_plus m_fraction) 0 args P EP) : Fn P w K mg base (k + 1) "plus" m :=
  fn_ok F sc_plus hself (FunD.bindsN F fun _ _ _ _ _ _ us hl => match us, hl with | [_, _], _ => rfl) (fun cdv A outer s H E hr tk hp => ⟨_, 
    (css_one (cs_ret (call_ex h_fraction hr tk (ca_cons (cv_bin op_addA so_add (cv_bin op_mulA so_mulM (cv_ixN 0 cv_int) (cv_ixN 1 cv_int).p) (cv_bin op_mulA so_mulM (cv_ixN 1 cv_int) (cv_ixN 0 cv_int).p).p) (ca_cons (cv_bin op_mulA so_mulM (cv_ixN 0 cv_int) (cv_ixN 1 cv_int).p) ca_nil)))))⟩) ok
theorem fn_minus {f : Addr} {fd : FuncData} {m : FnM} (F : FunD K "minus" "minus" (defArgs s_minus) (defBody s_minus) (defScope s_minus) [] [] f fd) (hself : mg "minus" = some (.ref f)) {m_fraction : FnM} (h_fraction : Fn P w K mg base k "fraction" m_fraction)
    (ok : ∀ args P EP, m args P EP → args.length = 2 ∧ denF (den_minus m_fraction) 0 args P EP) : Fn P w K mg base (k + 1) "minus" m :=
  fn_ok F sc_minus hself (FunD.bindsN F fun _ _ _ _ _ _ us hl => match us, hl with | [_, _], _ => rfl) (fun cdv A outer s H E hr tk hp => ⟨_, 
    (css_one (cs_ret (call_ex h_fraction hr tk (ca_cons (cv_bin op_sub so_sub (cv_bin op_mulA so_mulM (cv_ixN 0 cv_int) (cv_ixN 1 cv_int).p) (cv_bin op_mulA so_mulM (cv_ixN 1 cv_int) (cv_ixN 0 cv_int).p).p) (ca_cons (cv_bin op_mulA so_mulM (cv_ixN 0 cv_int) (cv_ixN 1 cv_int).p) ca_nil)))))⟩) ok
theorem fn_times {f : Addr} {fd : FuncData} {m : FnM} (F : FunD K "times" "times" (defArgs s_times) (defBody s_times) (defScope s_times) [] [] f fd) (hself : mg "times" = some (.ref f)) {m_fraction : FnM} (h_fraction : Fn P w K mg base k "fraction" m_fraction)
    (ok : ∀ args P EP, m args P EP → args.length = 2 ∧ denF (den_times m_fraction) 0 args P EP) : Fn P w K mg base (k + 1) "times" m :=
  fn_ok F sc_times hself (FunD.bindsN F fun _ _ _ _ _ _ us hl => match us, hl with | [_, _], _ => rfl) (fun cdv A outer s H E hr tk hp => ⟨_, 
    (css_one (cs_ret (call_ex h_fraction hr tk (ca_cons (cv_bin op_mulA so_mulM (cv_ixN 0 cv_int) (cv_ixN 1 cv_int).p) (ca_cons (cv_bin op_mulA so_mulM (cv_ixN 0 cv_int) (cv_ixN 1 cv_int).p) ca_nil)))))⟩) ok
theorem fn_over {f : Addr} {fd : FuncData} {m : FnM} (F : FunD K "over" "over" (defArgs s_over) (defBody s_over) (defScope s_over) [] [] f fd) (hself : mg "over" = some (.ref f)) {m_fraction : FnM} (h_fraction : Fn P w K mg base k "fraction" m_fraction)
    (ok : ∀ args P EP, m args P EP → args.length = 2 ∧ denF (den_over m_fraction) 0 args P EP) : Fn P w K mg base (k + 1) "over" m :=
  fn_ok F sc_over hself (FunD.bindsN F fun _ _ _ _ _ _ us hl => match us, hl with | [_, _], _ => rfl) (fun cdv A outer s H E hr tk hp => ⟨_, 
    (css_one (cs_ret (call_ex h_fraction hr tk (ca_cons (cv_bin op_mulA so_mulM (cv_ixN 0 cv_int) (cv_ixN 1 cv_int).p) (ca_cons (cv_bin op_mulA so_mulM (cv_ixN 0 cv_int) (cv_ixN 1 cv_int).p) ca_nil)))))⟩) ok
theorem fn_less {f : Addr} {fd : FuncData} {m : FnM} (F : FunD K "less" "less" (defArgs s_less) (defBody s_less) (defScope s_less) [] [] f fd) (hself : mg "less" = some (.ref f))
    (ok : ∀ args P EP, m args P EP → args.length = 2 ∧ denF (den_less) 0 args P EP) : Fn P w K mg base (k + 1) "less" m :=
  fn_ok F sc_less hself (FunD.bindsN F fun _ _ _ _ _ _ us hl => match us, hl with | [_, _], _ => rfl) (fun cdv A outer s H E hr tk hp => ⟨_, 
    (css_one (cs_ret (cr_sh (cv_cmp op_lt so_lt (cv_bin op_mulA so_mulM (cv_ixN 0 cv_int) (cv_ixN 1 cv_int).p) (cv_bin op_mulA so_mulM (cv_ixN 1 cv_int) (cv_ixN 0 cv_int).p).p))))⟩) ok
theorem fn_shared {f : Addr} {fd : FuncData} {m : FnM} (F : FunD K "shared" "shared" (defArgs s_shared) (defBody s_shared) (defScope s_shared) [] [] f fd) (hself : mg "shared" = some (.ref f)) (h_gcd : mg "gcd" = some (.builtin "math.gcd")) (h_tuple : mg "tuple" = none)
    (ok : ∀ args P EP, m args P EP → args.length = 1 ∧ denF (den_shared) 3 args P EP) : Fn P w K mg base (k + 1) "shared" m :=
  fn_ok F sc_shared hself (FunD.bindsN F fun _ _ _ _ _ _ us hl => match us, hl with | [_], _ => rfl) (fun cdv A outer s H E hr tk hp => ⟨_, 
    (css_cons (cs_set 1 sc_shared.nd (cr_sh cv_int))
    (css_cons (cs_for hp rfl (ci_seq (cv_var 0)) (cg_tup (vs := [0, 1, 2, 3]) rfl (cgs_cons 2 sc_shared.nd (cgs_cons 3 sc_shared.nd cgs_nil))) (css_one (cs_set 1 sc_shared.nd (cr_sh (cv_bin op_mulA so_mulM (cv_bin op_fdivW so_div (cv_var 1) (cv_bfun cr_gcd sc_gcdM h_gcd (cl_cons (cv_var 1) (cl_cons (cv_var 3) cl_nil))).p) (cp_var 3))))))
    (css_one (cs_ret (cr_sh (cv_tup (cl_cons (cv_t1 call_tuple_of sc_tuple h_tuple (cv_fz (cr_lc [("top", 2), ("under", 3)] rfl sc_shared.nd (ci_seq (cv_var 0)) (blkOk_by (by rfl)) (fun _ _ _ _ _ => (cg_tup (vs := [2, 3]) rfl (cgs_cons 2 sc_shared.nd (cgs_cons 3 sc_shared.nd cgs_nil)))) (fun _ _ _ _ _ => cts_nil) (fun _ _ _ _ _ => (cv_bin op_mulA so_mulM (cv_var 2) (cv_bin op_fdivW so_div (cv_var 1) (cp_var 3)).p)))).p) (cl_cons (cv_var 1) cl_nil))))))))⟩) ok
theorem fn_total {f : Addr} {fd : FuncData} {m : FnM} (F : FunD K "total" "total" (defArgs s_total) (defBody s_total) (defScope s_total) [] [] f fd) (hself : mg "total" = some (.ref f)) {m_shared : FnM} (h_shared : Fn P w K mg base k "shared" m_shared) {m_fraction : FnM} (h_fraction : Fn P w K mg base k "fraction" m_fraction) (h_sum : mg "sum" = none)
    (ok : ∀ args P EP, m args P EP → args.length = 1 ∧ denF (den_total m_shared m_fraction) 2 args P EP) : Fn P w K mg base (k + 1) "total" m :=
  fn_ok F sc_total hself (FunD.bindsN F fun _ _ _ _ _ _ us hl => match us, hl with | [_], _ => rfl) (fun cdv A outer s H E hr tk hp => ⟨_, 
    (css_cons (cs_asg (cv_fz (call_ex h_shared hr tk (ca_cons (cv_var 0) ca_nil))) (cg_tup (vs := [0, 1, 2]) rfl (cgs_cons 1 sc_total.nd (cgs_cons 2 sc_total.nd cgs_nil))))
    (css_one (cs_ret (call_ex h_fraction hr tk (ca_cons (cv_b1 (cr_sumA rfl) sc_sum h_sum (cp_var 1)) (ca_cons (cv_var 2) ca_nil))))))⟩) ok
theorem fn_is_amount_row {f : Addr} {fd : FuncData} {m : FnM} (F : FunD K "is_amount_row" "is_amount_row" (defArgs s_is_amount_row) (defBody s_is_amount_row) (defScope s_is_amount_row) [] [] f fd) (hself : mg "is_amount_row" = some (.ref f)) {m_is_amount : FnM} (h_is_amount : Fn P w K mg base k "is_amount" m_is_amount) {m_less : FnM} (h_less : Fn P w K mg base k "less" m_less) {m_total : FnM} (h_total : Fn P w K mg base k "total" m_total) (h_all : mg "all" = none) (h_isinstance : mg "isinstance" = none) (h_len : mg "len" = none) (h_tuple : mg "tuple" = none) (hg_ONE : mg "ONE" = some (.ref (He.ga K "ONE"))) (hc_ONE : ∀ W, VR K W a_ONE (.ref (He.ga K "ONE")))
    (ok : ∀ args P EP, m args P EP → args.length = 2 ∧ denF (den_is_amount_row m_is_amount m_less m_total) 1 args P EP) : Fn P w K mg base (k + 1) "is_amount_row" m :=
  fn_ok F sc_is_amount_row hself (FunD.bindsN F fun _ _ _ _ _ _ us hl => match us, hl with | [_, _], _ => rfl) (fun cdv A outer s H E hr tk hp => ⟨_, 
    (css_cons (cs_if (cw_or (ct_not (ct_val (cv_isTy kit_tuple h_isinstance h_tuple (cp_var 0)).p)) (cw_or1 (ct_cmp (op_neD hr.units) so_ne (cv_b1 call_len_seq sc_len h_len (cp_var 0)) (cp_var 1)))).t (css_one (cs_ret (cr_sh cv_bl))) css_nil)
    (css_cons (cs_if (ct_not (ct_val (cv_b1 (cr_all rfl) sc_all h_all (cv_fz (cr_lc [("one", 2)] rfl sc_is_amount_row.nd (ci_seq (cv_var 0)) (blkOk_by (by rfl)) (fun _ _ _ _ _ => (cg_name (vs := [2]) 2 sc_is_amount_row.nd)) (fun _ _ _ _ _ => cts_nil) (fun _ _ _ _ _ => (cv_fz (call_ex h_is_amount hr takes0 (ca_cons (cv_var 2) ca_nil)))))).p).p)) (css_one (cs_ret (cr_sh cv_bl))) css_nil)
    (css_one (cs_ret (cr_sh (cv_not (cv_fz (call_ex h_less hr tk (ca_cons (cv_glob (v := .ref (He.ga K "ONE")) hg_ONE rfl hc_ONE) (ca_cons (cv_fz (call_ex h_total hr tk (ca_cons (cv_var 0) ca_nil))) ca_nil))))))))))⟩) ok
theorem fn_is_graph {f : Addr} {fd : FuncData} {m : FnM} (F : FunD K "is_graph" "is_graph" (defArgs s_is_graph) (defBody s_is_graph) (defScope s_is_graph) [] [] f fd) (hself : mg "is_graph" = some (.ref f)) {m_is_amount_row : FnM} (h_is_amount_row : Fn P w K mg base k "is_amount_row" m_is_amount_row) (h_all : mg "all" = none) (h_isinstance : mg "isinstance" = none) (h_len : mg "len" = none) (h_range : mg "range" = none) (h_tuple : mg "tuple" = none) (hg_ZERO : mg "ZERO" = some (.ref (He.ga K "ZERO"))) (hc_ZERO : ∀ W, VR K W a_ZERO (.ref (He.ga K "ZERO")))
    (ok : ∀ args P EP, m args P EP → args.length = 1 ∧ denF (den_is_graph m_is_amount_row) 4 args P EP) : Fn P w K mg base (k + 1) "is_graph" m :=
  fn_ok F sc_is_graph hself (FunD.bindsN F fun _ _ _ _ _ _ us hl => match us, hl with | [_], _ => rfl) (fun cdv A outer s H E hr tk hp => ⟨_, 
    (css_cons (cs_if (cw_or (ct_not (ct_val (cv_isTy kit_tuple h_isinstance h_tuple (cp_var 0)).p)) (cw_or1 (ct_cmp (op_neD hr.units) so_ne (cv_b1 call_len_seq sc_len h_len (cp_var 0)) cv_int.p))).t (css_one (cs_ret (cr_sh cv_bl))) css_nil)
    (css_cons (cs_asg (cv_var 0) (cg_tup (vs := [0, 1, 2, 3, 4]) rfl (cgs_cons 1 sc_is_graph.nd (cgs_cons 2 sc_is_graph.nd cgs_nil))))
    (css_cons (cs_if (cw_or (ct_not (ct_val (cv_isTy kit_tuple h_isinstance h_tuple (cp_var 1)).p)) (cw_or (ct_not (ct_chain op_le op_le so_le so_le cv_int (cv_b1 call_len_seq sc_len h_len (cp_var 1)) cv_int)) (cw_or1 (ct_not (ct_val (cv_fz (call_ex h_is_amount_row hr tk (ca_cons (cv_var 1) (ca_cons (cv_b1 call_len_seq sc_len h_len (cp_var 1)) ca_nil)))).p))))).t (css_one (cs_ret (cr_sh cv_bl))) css_nil)
    (css_cons (cs_if (cw_or (ct_not (ct_val (cv_isTy kit_tuple h_isinstance h_tuple (cp_var 2)).p)) (cw_or1 (ct_cmp (op_neD hr.units) so_ne (cv_b1 call_len_seq sc_len h_len (cp_var 2)) (cv_b1 call_len_seq sc_len h_len (cp_var 1)).p))).t (css_one (cs_ret (cr_sh cv_bl))) css_nil)
    (css_cons (cs_if (ct_not (ct_val (cv_b1 (cr_all rfl) sc_all h_all (cv_fz (cr_lc [("row", 4)] rfl sc_is_graph.nd (ci_seq (cv_var 2)) (blkOk_by (by rfl)) (fun _ _ _ _ _ => (cg_name (vs := [4]) 4 sc_is_graph.nd)) (fun _ _ _ _ _ => cts_nil) (fun _ _ _ _ _ => (cv_fz (call_ex h_is_amount_row hr takes0 (ca_cons (cv_var 4) (ca_cons (cv_b1 call_len_seq sc_len h_len (cp_var 1)) ca_nil))))))).p).p)) (css_one (cs_ret (cr_sh cv_bl))) css_nil)
    (css_one (cs_ret (cr_sh (cv_b1 (cr_all rfl) sc_all h_all (cv_fz (cr_lc [("at", 3)] rfl sc_is_graph.nd (ci_rg1 h_range (cv_b1 call_len_seq sc_len h_len (cp_var 2))) (blkOk_by (by rfl)) (fun _ _ _ _ _ => (cg_name (vs := [3]) 3 sc_is_graph.nd)) (fun _ _ _ _ _ => cts_nil) (fun _ _ _ _ _ => (cv_cmp (op_eqD hr.units) so_eq (cv_ix (cv_ixN 2 (cv_var 3)) (cp_var 3)) (cv_glob (v := .ref (He.ga K "ZERO")) hg_ZERO rfl hc_ZERO).p)))).p)))))))))⟩) ok
theorem fn_passed_part {f : Addr} {fd : FuncData} {m : FnM} (F : FunD K "passed_part" "passed_part" (defArgs s_passed_part) (defBody s_passed_part) (defScope s_passed_part) [] [] f fd) (hself : mg "passed_part" = some (.ref f)) {m_minus : FnM} (h_minus : Fn P w K mg base k "minus" m_minus) {m_times : FnM} (h_times : Fn P w K mg base k "times" m_times) {m_over : FnM} (h_over : Fn P w K mg base k "over" m_over) {m_plus : FnM} (h_plus : Fn P w K mg base k "plus" m_plus) (hg_ZERO : mg "ZERO" = some (.ref (He.ga K "ZERO"))) (hc_ZERO : ∀ W, VR K W a_ZERO (.ref (He.ga K "ZERO"))) (hg_ONE : mg "ONE" = some (.ref (He.ga K "ONE"))) (hc_ONE : ∀ W, VR K W a_ONE (.ref (He.ga K "ONE")))
    (ok : ∀ args P EP, m args P EP → args.length = 4 ∧ denF (den_passed_part m_minus m_times m_over m_plus) 1 args P EP) : Fn P w K mg base (k + 1) "passed_part" m :=
  fn_ok F sc_passed_part hself (FunD.bindsN F fun _ _ _ _ _ _ us hl => match us, hl with | [_, _, _, _], _ => rfl) (fun cdv A outer s H E hr tk hp => ⟨_, 
    (css_cons (cs_if (cw_or (ct_cmp (op_eqD hr.units) so_eq (cv_var 2) (cp_var 3)) (cw_or (ct_cmp (op_eqD hr.units) so_eq (cv_var 2) (cp_var 1)) (cw_or1 (ct_cmp (op_eqD hr.units) so_eq (cv_var 3) (cp_var 1))))).t (css_one (cs_ret (cr_sh (cv_glob (v := .ref (He.ga K "ZERO")) hg_ZERO rfl hc_ZERO)))) css_nil)
    (css_cons (cs_set 4 sc_passed_part.nd (call_ex h_minus hr tk (ca_cons (cv_glob (v := .ref (He.ga K "ONE")) hg_ONE rfl hc_ONE) (ca_cons (cv_fz (call_ex h_times hr tk (ca_cons (cv_ix (cv_ixN 0 (cv_var 2)) (cp_var 1)) (ca_cons (cv_ix (cv_ixN 0 (cv_var 1)) (cp_var 2)) ca_nil)))) ca_nil))))
    (css_cons (cs_if (ct_cmp (op_eqD hr.units) so_eq (cv_var 4) (cv_glob (v := .ref (He.ga K "ZERO")) hg_ZERO rfl hc_ZERO).p) (css_one (cs_ret (cr_sh (cv_glob (v := .ref (He.ga K "ZERO")) hg_ZERO rfl hc_ZERO)))) css_nil)
    (css_one (cs_ret (call_ex h_over hr tk (ca_cons (cv_fz (call_ex h_plus hr tk (ca_cons (cv_ix (cv_ixN 0 (cv_var 2)) (cp_var 3)) (ca_cons (cv_fz (call_ex h_times hr tk (ca_cons (cv_ix (cv_ixN 0 (cv_var 2)) (cp_var 1)) (ca_cons (cv_ix (cv_ixN 0 (cv_var 1)) (cp_var 3)) ca_nil)))) ca_nil)))) (ca_cons (cv_var 4) ca_nil))))))))⟩) ok
theorem fn_without {f : Addr} {fd : FuncData} {m : FnM} (F : FunD K "without" "without" (defArgs s_without) (defBody s_without) (defScope s_without) [] [] f fd) (hself : mg "without" = some (.ref f)) {m_plus : FnM} (h_plus : Fn P w K mg base k "plus" m_plus) {m_times : FnM} (h_times : Fn P w K mg base k "times" m_times) {m_passed_part : FnM} (h_passed_part : Fn P w K mg base k "passed_part" m_passed_part) (h_len : mg "len" = none) (h_range : mg "range" = none) (h_tuple : mg "tuple" = none) (hg_ZERO : mg "ZERO" = some (.ref (He.ga K "ZERO"))) (hc_ZERO : ∀ W, VR K W a_ZERO (.ref (He.ga K "ZERO")))
    (ok : ∀ args P EP, m args P EP → args.length = 2 ∧ denF (den_without m_plus m_times m_passed_part) 9 args P EP) : Fn P w K mg base (k + 1) "without" m :=
  fn_ok F sc_without hself (FunD.bindsN F fun _ _ _ _ _ _ us hl => match us, hl with | [_, _], _ => rfl) (fun cdv A outer s H E hr tk hp => ⟨_, 
    (css_cons (cs_asg (cv_var 0) (cg_tup (vs := [0, 1, 2, 3, 4, 5, 6, 7, 8, 9, 10]) rfl (cgs_cons 2 sc_without.nd (cgs_cons 3 sc_without.nd cgs_nil))))
    (css_cons (cs_set 4 sc_without.nd (cr_sh (cv_b1 call_len_seq sc_len h_len (cp_var 2))))
    (css_cons (cs_set 5 sc_without.nd (cr_lst cl_nil))
    (css_cons (cs_for hp rfl (ci_rg1 h_range (cv_var 4)) (cg_name (vs := [0, 1, 2, 3, 4, 5, 6, 7, 8, 9, 10]) 6 sc_without.nd) (css_cons (cs_set 7 sc_without.nd (call_ex h_plus hr tk (ca_cons (cv_ixN 2 (cv_var 6)) (ca_cons (cv_fz (call_ex h_times hr tk (ca_cons (cv_ixN 2 (cv_var 1)) (ca_cons (cv_ix (cv_ixN 3 (cv_var 1)) (cp_var 6)) ca_nil)))) ca_nil))))
    (css_one (cs_expr (cr_sh (cv_app 5 (cv_ifE (ct_cmp (op_eqD hr.units) so_eq (cv_var 6) (cp_var 1)) (cv_glob (v := .ref (He.ga K "ZERO")) hg_ZERO rfl hc_ZERO) (cv_var 7))))))))
    (css_cons (cs_setLc 8 [("one", 9)] rfl sc_without.nd (ci_rg1 h_range (cv_var 4)) (blkOk_by (by rfl)) (fun _ _ _ _ _ => (cg_name (vs := [9]) 9 sc_without.nd)) (fun _ _ _ _ _ => cts_nil) (fun _ _ _ _ _ => (cv_t1 call_tuple_of sc_tuple h_tuple (cv_fz (cr_lc [("other", 10)] rfl sc_without.nd (ci_rg1 h_range (cv_var 4)) (blkOk_by (by rfl)) (fun _ _ _ _ _ => (cg_name (vs := [10]) 10 sc_without.nd)) (fun _ _ _ _ _ => cts_nil) (fun _ _ _ _ _ => (cv_fz (call_ex h_passed_part hr takes0 (ca_cons (cv_var 3) (ca_cons (cv_var 1) (ca_cons (cv_var 9) (ca_cons (cv_var 10) ca_nil))))))))).p)))
    (css_one (cs_ret (cr_sh (cv_tup (cl_cons (cv_t1 call_tuple_of sc_tuple h_tuple (cp_var 5)) (cl_cons (cv_t1 call_tuple_of sc_tuple h_tuple (cp_var 8)) cl_nil)))))))))))⟩) ok
theorem fn__law_begin {f : Addr} {fd : FuncData} {m : FnM} (F : FunD K "_law_begin" "_law_begin" (defArgs s__law_begin) (defBody s__law_begin) (defScope s__law_begin) [] [] f fd) (hself : mg "_law_begin" = some (.ref f)) (h_int : mg "int" = none)
    (ok : ∀ args P EP, m args P EP → args.length = 1 ∧ denF (den__law_begin) 1 args P EP) : Fn P w K mg base (k + 1) "_law_begin" m :=
  fn_ok F sc__law_begin hself (FunD.bindsN F fun _ _ _ _ _ _ us hl => match us, hl with | [_], _ => rfl) (fun cdv A outer s H E hr tk hp => ⟨_, 
    (css_one (cs_ret (cr_lst (cl_cons (cv_fz (cr_lc [("cell", 1)] rfl sc__law_begin.nd (ci_seq (cv_var 0)) (blkOk_by (by rfl)) (fun _ _ _ _ _ => (cg_name (vs := [1]) 1 sc__law_begin.nd)) (fun _ _ _ _ _ => cts_nil) (fun _ _ _ _ _ => (cv_t1 call_int1 sc_int h_int (cp_var 1))))) (cl_cons cv_int (cl_cons cv_int (cl_cons cv_int cl_nil)))))))⟩) ok
theorem fn__law_draw {f : Addr} {fd : FuncData} {m : FnM} (F : FunD K "_law_draw" "_law_draw" (defArgs s__law_draw) (defBody s__law_draw) (defScope s__law_draw) [] [] f fd) (hself : mg "_law_draw" = some (.ref f)) (h_abs : mg "abs" = none) (h_int : mg "int" = none) (h_len : mg "len" = none)
    (ok : ∀ args P EP, m args P EP → args.length = 2 ∧ denF (den__law_draw) 3 args P EP) : Fn P w K mg base (k + 1) "_law_draw" m :=
  fn_ok F sc__law_draw hself (FunD.bindsN F fun _ _ _ _ _ _ us hl => match us, hl with | [_, _], _ => rfl) (fun cdv A outer s H E hr tk hp => ⟨_, 
    (css_cons (cs_if (ct_cmp op_gt so_gt (cv_ixN 0 cv_int) cv_int.p) (css_cons (cs_set 2 sc__law_draw.nd (cr_sh (cv_ixN 0 cv_int)))
    (css_cons (cs_setIx 0 (cv_bin op_fdivW so_div (cv_var 2) (cp_var 1)) cv_int)
    (css_one (cs_ret (cr_sh (cv_bin op_mod so_mod (cv_t1 call_int1 sc_int h_int (cp_var 2)) (cp_var 1))))))) css_nil)
    (css_cons (cs_set 3 sc__law_draw.nd (cr_sh cv_int))
    (css_cons (cs_if (ct_cmp op_lt so_lt (cv_ixN 0 cv_int) (cv_b1 call_len_seq sc_len h_len (cv_ixN 0 cv_int).p).p) (css_cons (cs_set 4 sc__law_draw.nd (cr_sh (cv_ix (cv_ixN 0 cv_int) (cv_ixN 0 cv_int).p)))
    (css_one (cs_set 3 sc__law_draw.nd (cr_sh (cv_bin op_addA so_add (cv_bin op_mulA so_mulM cv_int (cv_b1 call_abs sc_abs h_abs (cp_var 4)).p) (cv_t1 call_int1 sc_int h_int (cv_cmp op_lt so_lt (cv_var 4) cv_int.p).p).p))))) css_nil)
    (css_cons (cs_augIx 0 cv_int cv_int)
    (css_cons (cs_if (ct_cmp op_ge so_ge (cv_var 3) (cv_bin op_mulA so_mulM cv_int (cv_bin op_pow so_pow cv_int cv_int.p).p).p) (css_cons (cs_set 2 sc__law_draw.nd (cr_sh (cv_bin op_mod so_mod (cv_t1 call_int1 sc_int h_int (cv_bin op_fdivW so_div (cv_var 3) cv_int.p).p) (cv_bin op_shl so_shl cv_int cv_int.p).p)))
    (css_cons (cs_setIx 0 (cv_bin op_fdivW so_div (cv_var 2) (cp_var 1)) cv_int)
    (css_one (cs_ret (cr_sh (cv_bin op_mod so_mod (cv_t1 call_int1 sc_int h_int (cp_var 2)) (cp_var 1))))))) css_nil)
    (css_cons (cs_setIx 0 (cv_bin op_mod so_mod (cv_t1 call_int1 sc_int h_int (cv_bin op_addA so_add (cv_bin op_addA so_add (cv_bin op_addA so_add (cv_bin op_mulA so_mulM (cv_ixN 0 cv_int) cv_int.p) (cv_bin op_mulA so_mulM (cv_bin op_mod so_mod (cv_t1 call_int1 sc_int h_int (cp_var 3)) cv_int.p) cv_int.p).p) (cv_bin op_mulA so_mulM (cv_ixN 0 cv_int) cv_int.p).p) cv_int.p).p) cv_int.p) cv_int)
    (css_one (cs_ret (cr_sh (cv_bin op_mod so_mod (cv_t1 call_int1 sc_int h_int (cv_bin op_fdivW so_div (cv_ixN 0 cv_int) cv_int.p).p) (cp_var 1)))))))))))⟩) ok
theorem fn__law_pick {f : Addr} {fd : FuncData} {m : FnM} (F : FunD K "_law_pick" "_law_pick" (defArgs s__law_pick) (defBody s__law_pick) (defScope s__law_pick) [] [] f fd) (hself : mg "_law_pick" = some (.ref f)) {m__law_draw : FnM} (h__law_draw : Fn P w K mg base k "_law_draw" m__law_draw) (h_len : mg "len" = none)
    (ok : ∀ args P EP, m args P EP → args.length = 2 ∧ denF (den__law_pick m__law_draw) 0 args P EP) : Fn P w K mg base (k + 1) "_law_pick" m :=
  fn_ok F sc__law_pick hself (FunD.bindsN F fun _ _ _ _ _ _ us hl => match us, hl with | [_, _], _ => rfl) (fun cdv A outer s H E hr tk hp => ⟨_, 
    (css_one (cs_ret (cr_sh (cv_ixN 1 (cv_fz (call_ex h__law_draw hr tk (ca_bor 0 (ca_cons (cv_b1 call_len_seq sc_len h_len (cp_var 1)) ca_nil))))))))⟩) ok
theorem fn__law_rare {f : Addr} {fd : FuncData} {m : FnM} (F : FunD K "_law_rare" "_law_rare" (defArgs s__law_rare) (defBody s__law_rare) (defScope s__law_rare) [] [] f fd) (hself : mg "_law_rare" = some (.ref f)) {m__law_draw : FnM} (h__law_draw : Fn P w K mg base k "_law_draw" m__law_draw)
    (ok : ∀ args P EP, m args P EP → args.length = 2 ∧ denF (den__law_rare m__law_draw) 0 args P EP) : Fn P w K mg base (k + 1) "_law_rare" m :=
  fn_ok F sc__law_rare hself (FunD.bindsN F fun _ _ _ _ _ _ us hl => match us, hl with | [_, _], _ => rfl) (fun cdv A outer s H E hr tk hp => ⟨_, 
    (css_one (cs_ret (cr_sh (cv_cmp (op_eqD hr.units) so_eq (cv_fz (call_ex h__law_draw hr tk (ca_bor 0 (ca_cons (cv_var 1) ca_nil)))) (cv_bin op_fdivW so_div (cv_var 1) cv_int.p).p))))⟩) ok
theorem fn__law_shuffled {f : Addr} {fd : FuncData} {m : FnM} (F : FunD K "_law_shuffled" "_law_shuffled" (defArgs s__law_shuffled) (defBody s__law_shuffled) (defScope s__law_shuffled) [] [] f fd) (hself : mg "_law_shuffled" = some (.ref f)) {m__law_draw : FnM} (h__law_draw : Fn P w K mg base k "_law_draw" m__law_draw) (h_len : mg "len" = none) (h_list : mg "list" = none) (h_range : mg "range" = none)
    (ok : ∀ args P EP, m args P EP → args.length = 2 ∧ denF (den__law_shuffled m__law_draw) 3 args P EP) : Fn P w K mg base (k + 1) "_law_shuffled" m :=
  fn_ok F sc__law_shuffled hself (FunD.bindsN F fun _ _ _ _ _ _ us hl => match us, hl with | [_, _], _ => rfl) (fun cdv A outer s H E hr tk hp => ⟨_, 
    (css_cons (cs_set 2 sc__law_shuffled.nd (cr_listOf h_list (cp_var 1)))
    (css_cons (cs_set 3 sc__law_shuffled.nd (cr_lst cl_nil))
    (css_cons (cs_for hp rfl (ci_rg1 h_range (cv_b1 call_len_seq sc_len h_len (cp_var 2))) (cg_name (vs := [0, 1, 2, 3, 4]) 4 sc__law_shuffled.nd) (css_one (cs_expr (cr_sh (cv_app 3 (cv_popAt 2 (cv_fz (call_ex h__law_draw hr tk (ca_bor 0 (ca_cons (cv_b1 call_len_seq sc_len h_len (cp_var 2)) ca_nil))))))))))
    (css_one (cs_ret (cr_move 3))))))⟩) ok
theorem fn__law_is_int {f : Addr} {fd : FuncData} {m : FnM} (F : FunD K "_law_is_int" "_law_is_int" (defArgs s__law_is_int) (defBody s__law_is_int) (defScope s__law_is_int) [] [] f fd) (hself : mg "_law_is_int" = some (.ref f)) (h_bool : mg "bool" = none) (h_int : mg "int" = none) (h_isinstance : mg "isinstance" = none)
    (ok : ∀ args P EP, m args P EP → args.length = 1 ∧ denF (den__law_is_int) 0 args P EP) : Fn P w K mg base (k + 1) "_law_is_int" m :=
  fn_ok F sc__law_is_int hself (FunD.bindsN F fun _ _ _ _ _ _ us hl => match us, hl with | [_], _ => rfl) (fun cdv A outer s H E hr tk hp => ⟨_, 
    (css_one (cs_ret (cr_sh (cv_and (cv_isTy kit_int h_isinstance h_int (cp_var 0)) (cv_one (cv_not (cv_isTy kit_bool h_isinstance h_bool (cp_var 0))))))))⟩) ok
theorem fn__law_gcd {f : Addr} {fd : FuncData} {m : FnM} (F : FunD K "_law_gcd" "_law_gcd" (defArgs s__law_gcd) (defBody s__law_gcd) (defScope s__law_gcd) [] [] f fd) (hself : mg "_law_gcd" = some (.ref f)) (h_abs : mg "abs" = none) (h_int : mg "int" = none)
    (ok : ∀ args P EP, m args P EP → args.length = 2 ∧ denF (den__law_gcd) 0 args P EP) : Fn P w K mg base (k + 1) "_law_gcd" m :=
  fn_ok F sc__law_gcd hself (FunD.bindsN F fun _ _ _ _ _ _ us hl => match us, hl with | [_, _], _ => rfl) (fun cdv A outer s H E hr tk hp => ⟨_, 
    (css_cons (cs_par 0 1 rfl sc__law_gcd.nd (cv_b1 call_abs sc_abs h_abs (cp_var 0)) (cv_b1 call_abs sc_abs h_abs (cp_var 1)))
    (css_cons (cs_while hp (ct_cmp (op_neD hr.units) so_ne (cv_var 1) cv_int.p) (css_one (cs_par 0 1 rfl sc__law_gcd.nd (cv_var 1) (cv_bin op_mod so_mod (cv_t1 call_int1 sc_int h_int (cp_var 0)) (cp_var 1)))))
    (css_one (cs_ret (cr_move 0)))))⟩) ok
theorem fn__law_frac {f : Addr} {fd : FuncData} {m : FnM} (F : FunD K "_law_frac" "_law_frac" (defArgs s__law_frac) (defBody s__law_frac) (defScope s__law_frac) [] [] f fd) (hself : mg "_law_frac" = some (.ref f)) {m__law_gcd : FnM} (h__law_gcd : Fn P w K mg base k "_law_gcd" m__law_gcd)
    (ok : ∀ args P EP, m args P EP → args.length = 2 ∧ denF (den__law_frac m__law_gcd) 1 args P EP) : Fn P w K mg base (k + 1) "_law_frac" m :=
  fn_ok F sc__law_frac hself (FunD.bindsN F fun _ _ _ _ _ _ us hl => match us, hl with | [_, _], _ => rfl) (fun cdv A outer s H E hr tk hp => ⟨_, 
    (css_cons (cs_if (ct_cmp op_lt so_lt (cv_var 1) cv_int.p) (css_one (cs_par 0 1 rfl sc__law_frac.nd (cv_unop un_neg su_neg (cp_var 0)) (cv_unop un_neg su_neg (cp_var 1)))) css_nil)
    (css_cons (cs_set 2 sc__law_frac.nd (call_ex h__law_gcd hr tk (ca_cons (cv_var 0) (ca_cons (cv_var 1) ca_nil))))
    (css_one (cs_ret (cr_sh (cv_tup (cl_cons (cv_bin op_fdivW so_div (cv_var 0) (cp_var 2)) (cl_cons (cv_bin op_fdivW so_div (cv_var 1) (cp_var 2)) cl_nil))))))))⟩) ok
theorem fn__law_is_frac {f : Addr} {fd : FuncData} {m : FnM} (F : FunD K "_law_is_frac" "_law_is_frac" (defArgs s__law_is_frac) (defBody s__law_is_frac) (defScope s__law_is_frac) [] [] f fd) (hself : mg "_law_is_frac" = some (.ref f)) {m__law_is_int : FnM} (h__law_is_int : Fn P w K mg base k "_law_is_int" m__law_is_int) {m__law_gcd : FnM} (h__law_gcd : Fn P w K mg base k "_law_gcd" m__law_gcd) (h_isinstance : mg "isinstance" = none) (h_len : mg "len" = none) (h_tuple : mg "tuple" = none)
    (ok : ∀ args P EP, m args P EP → args.length = 1 ∧ denF (den__law_is_frac m__law_is_int m__law_gcd) 0 args P EP) : Fn P w K mg base (k + 1) "_law_is_frac" m :=
  fn_ok F sc__law_is_frac hself (FunD.bindsN F fun _ _ _ _ _ _ us hl => match us, hl with | [_], _ => rfl) (fun cdv A outer s H E hr tk hp => ⟨_, 
    (css_cons (cs_if (cw_or (ct_not (ct_val (cv_isTy kit_tuple h_isinstance h_tuple (cp_var 0)).p)) (cw_or1 (ct_cmp (op_neD hr.units) so_ne (cv_b1 call_len_seq sc_len h_len (cp_var 0)) cv_int.p))).t (css_one (cs_ret (cr_sh cv_bl))) css_nil)
    (css_cons (cs_if (ct_not (cw_and (ct_val (cv_fz (call_ex h__law_is_int hr tk (ca_cons (cv_ixN 0 cv_int) ca_nil))).p) (cw_and1 (ct_val (cv_fz (call_ex h__law_is_int hr tk (ca_cons (cv_ixN 0 cv_int) ca_nil))).p))).t) (css_one (cs_ret (cr_sh cv_bl))) css_nil)
    (css_one (cs_ret (cr_sh (cv_and (cv_cmp op_ge so_ge (cv_ixN 0 cv_int) cv_int.p) (cv_one (cv_cmp (op_eqD hr.units) so_eq (cv_fz (call_ex h__law_gcd hr tk (ca_cons (cv_ixN 0 cv_int) (ca_cons (cv_ixN 0 cv_int) ca_nil)))) cv_int.p))))))))⟩) ok
theorem fn__law_plus {f : Addr} {fd : FuncData} {m : FnM} (F : FunD K "_law_plus" "_law_plus" (defArgs s__law_plus) (defBody s__law_plus) (defScope s__law_plus) [] [] f fd) (hself : mg "_law_plus" = some (.ref f)) {m__law_frac : FnM} (h__law_frac : Fn P w K mg base k "_law_frac" m__law_frac)
    (ok : ∀ args P EP, m args P EP → args.length = 2 ∧ denF (den__law_plus m__law_frac) 0 args P EP) : Fn P w K mg base (k + 1) "_law_plus" m :=
  fn_ok F sc__law_plus hself (FunD.bindsN F fun _ _ _ _ _ _ us hl => match us, hl with | [_, _], _ => rfl) (fun cdv A outer s H E hr tk hp => ⟨_, 
    (css_one (cs_ret (call_ex h__law_frac hr tk (ca_cons (cv_bin op_addA so_add (cv_bin op_mulA so_mulM (cv_ixN 0 cv_int) (cv_ixN 1 cv_int).p) (cv_bin op_mulA so_mulM (cv_ixN 1 cv_int) (cv_ixN 0 cv_int).p).p) (ca_cons (cv_bin op_mulA so_mulM (cv_ixN 0 cv_int) (cv_ixN 1 cv_int).p) ca_nil)))))⟩) ok
theorem fn__law_minus {f : Addr} {fd : FuncData} {m : FnM} (F : FunD K "_law_minus" "_law_minus" (defArgs s__law_minus) (defBody s__law_minus) (defScope s__law_minus) [] [] f fd) (hself : mg "_law_minus" = some (.ref f)) {m__law_frac : FnM} (h__law_frac : Fn P w K mg base k "_law_frac" m__law_frac)
    (ok : ∀ args P EP, m args P EP → args.length = 2 ∧ denF (den__law_minus m__law_frac) 0 args P EP) : Fn P w K mg base (k + 1) "_law_minus" m :=
  fn_ok F sc__law_minus hself (FunD.bindsN F fun _ _ _ _ _ _ us hl => match us, hl with | [_, _], _ => rfl) (fun cdv A outer s H E hr tk hp => ⟨_, 
    (css_one (cs_ret (call_ex h__law_frac hr tk (ca_cons (cv_bin op_sub so_sub (cv_bin op_mulA so_mulM (cv_ixN 0 cv_int) (cv_ixN 1 cv_int).p) (cv_bin op_mulA so_mulM (cv_ixN 1 cv_int) (cv_ixN 0 cv_int).p).p) (ca_cons (cv_bin op_mulA so_mulM (cv_ixN 0 cv_int) (cv_ixN 1 cv_int).p) ca_nil)))))⟩) ok
theorem fn__law_times {f : Addr} {fd : FuncData} {m : FnM} (F : FunD K "_law_times" "_law_times" (defArgs s__law_times) (defBody s__law_times) (defScope s__law_times) [] [] f fd) (hself : mg "_law_times" = some (.ref f)) {m__law_frac : FnM} (h__law_frac : Fn P w K mg base k "_law_frac" m__law_frac)
    (ok : ∀ args P EP, m args P EP → args.length = 2 ∧ denF (den__law_times m__law_frac) 0 args P EP) : Fn P w K mg base (k + 1) "_law_times" m :=
  fn_ok F sc__law_times hself (FunD.bindsN F fun _ _ _ _ _ _ us hl => match us, hl with | [_, _], _ => rfl) (fun cdv A outer s H E hr tk hp => ⟨_, 
    (css_one (cs_ret (call_ex h__law_frac hr tk (ca_cons (cv_bin op_mulA so_mulM (cv_ixN 0 cv_int) (cv_ixN 1 cv_int).p) (ca_cons (cv_bin op_mulA so_mulM (cv_ixN 0 cv_int) (cv_ixN 1 cv_int).p) ca_nil)))))⟩) ok
theorem fn__law_over {f : Addr} {fd : FuncData} {m : FnM} (F : FunD K "_law_over" "_law_over" (defArgs s__law_over) (defBody s__law_over) (defScope s__law_over) [] [] f fd) (hself : mg "_law_over" = some (.ref f)) {m__law_frac : FnM} (h__law_frac : Fn P w K mg base k "_law_frac" m__law_frac)
    (ok : ∀ args P EP, m args P EP → args.length = 2 ∧ denF (den__law_over m__law_frac) 0 args P EP) : Fn P w K mg base (k + 1) "_law_over" m :=
  fn_ok F sc__law_over hself (FunD.bindsN F fun _ _ _ _ _ _ us hl => match us, hl with | [_, _], _ => rfl) (fun cdv A outer s H E hr tk hp => ⟨_, 
    (css_one (cs_ret (call_ex h__law_frac hr tk (ca_cons (cv_bin op_mulA so_mulM (cv_ixN 0 cv_int) (cv_ixN 1 cv_int).p) (ca_cons (cv_bin op_mulA so_mulM (cv_ixN 0 cv_int) (cv_ixN 1 cv_int).p) ca_nil)))))⟩) ok
theorem fn__law_less {f : Addr} {fd : FuncData} {m : FnM} (F : FunD K "_law_less" "_law_less" (defArgs s__law_less) (defBody s__law_less) (defScope s__law_less) [] [] f fd) (hself : mg "_law_less" = some (.ref f))
    (ok : ∀ args P EP, m args P EP → args.length = 2 ∧ denF (den__law_less) 0 args P EP) : Fn P w K mg base (k + 1) "_law_less" m :=
  fn_ok F sc__law_less hself (FunD.bindsN F fun _ _ _ _ _ _ us hl => match us, hl with | [_, _], _ => rfl) (fun cdv A outer s H E hr tk hp => ⟨_, 
    (css_one (cs_ret (cr_sh (cv_cmp op_lt so_lt (cv_bin op_mulA so_mulM (cv_ixN 0 cv_int) (cv_ixN 1 cv_int).p) (cv_bin op_mulA so_mulM (cv_ixN 1 cv_int) (cv_ixN 0 cv_int).p).p))))⟩) ok
theorem fn__law_sum {f : Addr} {fd : FuncData} {m : FnM} (F : FunD K "_law_sum" "_law_sum" (defArgs s__law_sum) (defBody s__law_sum) (defScope s__law_sum) [] [] f fd) (hself : mg "_law_sum" = some (.ref f)) {m__law_gcd : FnM} (h__law_gcd : Fn P w K mg base k "_law_gcd" m__law_gcd) {m__law_frac : FnM} (h__law_frac : Fn P w K mg base k "_law_frac" m__law_frac)
    (ok : ∀ args P EP, m args P EP → args.length = 1 ∧ denF (den__law_sum m__law_gcd m__law_frac) 5 args P EP) : Fn P w K mg base (k + 1) "_law_sum" m :=
  fn_ok F sc__law_sum hself (FunD.bindsN F fun _ _ _ _ _ _ us hl => match us, hl with | [_], _ => rfl) (fun cdv A outer s H E hr tk hp => ⟨_, 
    (css_cons (cs_asg (cv_tup (cl_cons cv_int (cl_cons cv_int cl_nil))) (cg_tup (vs := [0, 1, 2, 3, 4, 5]) rfl (cgs_cons 1 sc__law_sum.nd (cgs_cons 2 sc__law_sum.nd cgs_nil))))
    (css_cons (cs_for hp rfl (ci_seq (cv_var 0)) (cg_tup (vs := [0, 1, 2, 3, 4, 5]) rfl (cgs_cons 3 sc__law_sum.nd (cgs_cons 4 sc__law_sum.nd cgs_nil))) (css_cons (cs_set 5 sc__law_sum.nd (call_ex h__law_gcd hr tk (ca_cons (cv_var 2) (ca_cons (cv_var 4) ca_nil))))
    (css_one (cs_par 1 2 rfl sc__law_sum.nd (cv_bin op_addA so_add (cv_bin op_mulA so_mulM (cv_var 1) (cv_bin op_fdivW so_div (cv_var 4) (cp_var 5)).p) (cv_bin op_mulA so_mulM (cv_var 3) (cv_bin op_fdivW so_div (cv_var 2) (cp_var 5)).p).p) (cv_bin op_mulA so_mulM (cv_var 2) (cv_bin op_fdivW so_div (cv_var 4) (cp_var 5)).p)))))
    (css_one (cs_ret (call_ex h__law_frac hr tk (ca_cons (cv_var 1) (ca_cons (cv_var 2) ca_nil)))))))⟩) ok
theorem fn__law_parted {f : Addr} {fd : FuncData} {m : FnM} (F : FunD K "_law_parted" "_law_parted" (defArgs s__law_parted) (defBody s__law_parted) (defScope s__law_parted) [] [] f fd) (hself : mg "_law_parted" = some (.ref f)) {m__law_frac : FnM} (h__law_frac : Fn P w K mg base k "_law_frac" m__law_frac) (h_max : mg "max" = none) (h_sum : mg "sum" = none) (h_tuple : mg "tuple" = none)
    (ok : ∀ args P EP, m args P EP → args.length = 2 ∧ denF (den__law_parted m__law_frac) 2 args P EP) : Fn P w K mg base (k + 1) "_law_parted" m :=
  fn_ok F sc__law_parted hself (FunD.bindsN F fun _ _ _ _ _ _ us hl => match us, hl with | [_, _], _ => rfl) (fun cdv A outer s H E hr tk hp => ⟨_, 
    (css_cons (cs_set 2 sc__law_parted.nd (cr_sh (cv_bn (call_max2 rfl) sc_max2 h_max (cl_cons cv_int (cl_cons (cv_bin op_addA so_add (cv_b1 (cr_sumA rfl) sc_sum h_sum (cp_var 0)) (cp_var 1)) cl_nil)))))
    (css_one (cs_ret (cr_sh (cv_t1 call_tuple_of sc_tuple h_tuple (cv_fz (cr_lc [("top", 3)] rfl sc__law_parted.nd (ci_seq (cv_var 0)) (blkOk_by (by rfl)) (fun _ _ _ _ _ => (cg_name (vs := [3]) 3 sc__law_parted.nd)) (fun _ _ _ _ _ => cts_nil) (fun _ _ _ _ _ => (cv_fz (call_ex h__law_frac hr takes0 (ca_cons (cv_var 3) (ca_cons (cv_var 2) ca_nil))))))).p)))))⟩) ok
theorem fn__law_pass_row {f : Addr} {fd : FuncData} {m : FnM} (F : FunD K "_law_pass_row" "_law_pass_row" (defArgs s__law_pass_row) (defBody s__law_pass_row) (defScope s__law_pass_row) [] [] f fd) (hself : mg "_law_pass_row" = some (.ref f)) {m__law_draw : FnM} (h__law_draw : Fn P w K mg base k "_law_draw" m__law_draw) {m__law_rare : FnM} (h__law_rare : Fn P w K mg base k "_law_rare" m__law_rare) {m__law_parted : FnM} (h__law_parted : Fn P w K mg base k "_law_parted" m__law_parted) (h_int : mg "int" = none) (h_max : mg "max" = none) (h_range : mg "range" = none)
    (ok : ∀ args P EP, m args P EP → args.length = 3 ∧ denF (den__law_pass_row m__law_draw m__law_rare m__law_parted) 5 args P EP) : Fn P w K mg base (k + 1) "_law_pass_row" m :=
  fn_ok F sc__law_pass_row hself (FunD.bindsN F fun _ _ _ _ _ _ us hl => match us, hl with | [_, _, _], _ => rfl) (fun cdv A outer s H E hr tk hp => ⟨_, 
    (css_cons (cs_set 3 sc__law_pass_row.nd (call_ex h__law_draw hr tk (ca_bor 0 (ca_cons cv_int ca_nil))))
    (css_cons (cs_parR 4 5 rfl sc__law_pass_row.nd (cr_lc [("other", 7)] rfl sc__law_pass_row.nd (ci_rg1 h_range (cv_var 1)) (blkOk_by (by rfl)) (fun _ _ _ _ _ => (cg_name (vs := [7]) 7 sc__law_pass_row.nd)) (fun _ _ _ _ _ => cts_nil) (fun _ _ _ _ _ => cv_int)) (cr_sh cv_int))
    (css_cons (cs_if (ct_cmp (op_eqD hr.units) so_eq (cv_var 3) cv_int.p) (css_one (cs_setIx 4 cv_int (cv_bin op_mod so_mod (cv_t1 call_int1 sc_int h_int (cv_bin op_addA so_add (cv_bin op_addA so_add (cv_var 2) cv_int.p) (cv_fz (call_ex h__law_draw hr tk (ca_bor 0 (ca_cons (cv_bn (call_max2 rfl) sc_max2 h_max (cl_cons cv_int (cl_cons (cv_bin op_sub so_sub (cv_var 1) cv_int.p) cl_nil))) ca_nil)))).p).p) (cp_var 1)))) (css_one (cs_if (ct_cmp (op_eqD hr.units) so_eq (cv_var 3) cv_int.p) (css_one (cs_setLc 4 [("other", 7)] rfl sc__law_pass_row.nd (ci_rg1 h_range (cv_var 1)) (blkOk_by (by rfl)) (fun _ _ _ _ _ => (cg_name (vs := [7]) 7 sc__law_pass_row.nd)) (fun _ _ _ _ _ => cts_nil) (fun _ _ _ _ _ => cv_int))) (css_one (cs_if (ct_cmp op_gt so_gt (cv_var 3) cv_int.p) (css_cons (cs_set 6 sc__law_pass_row.nd (cr_sh (cv_ifE (ct_val (cv_fz (call_ex h__law_rare hr tk (ca_bor 0 (ca_cons cv_int ca_nil)))).p) cv_int cv_int)))
    (css_one (cs_parR 4 5 rfl sc__law_pass_row.nd (cr_lc [("other", 7)] rfl sc__law_pass_row.nd (ci_rg1 h_range (cv_var 1)) (blkOk_by (by rfl)) (fun _ _ _ _ _ => (cg_name (vs := [7]) 7 sc__law_pass_row.nd)) (fun _ _ _ _ _ => cts_nil) (fun _ _ _ _ _ => (cv_fz (call_ex h__law_draw hr takes0 (ca_bor 0 (ca_cons (cv_var 6) ca_nil)))))) (cr_sh (cv_fz (call_ex h__law_draw hr tk (ca_bor 0 (ca_cons cv_int ca_nil)))))))) css_nil)))))
    (css_cons (cs_setIx 4 cv_int (cv_var 2))
    (css_one (cs_ret (call_ex h__law_parted hr tk (ca_cons (cv_var 4) (ca_cons (cv_var 5) ca_nil)))))))))⟩) ok
theorem fn__law_graph {f : Addr} {fd : FuncData} {m : FnM} (F : FunD K "_law_graph" "_law_graph" (defArgs s__law_graph) (defBody s__law_graph) (defScope s__law_graph) [] [] f fd) (hself : mg "_law_graph" = some (.ref f)) {m__law_rare : FnM} (h__law_rare : Fn P w K mg base k "_law_rare" m__law_rare) {m__law_draw : FnM} (h__law_draw : Fn P w K mg base k "_law_draw" m__law_draw) {m__law_parted : FnM} (h__law_parted : Fn P w K mg base k "_law_parted" m__law_parted) {m__law_pass_row : FnM} (h__law_pass_row : Fn P w K mg base k "_law_pass_row" m__law_pass_row) {m__law_shuffled : FnM} (h__law_shuffled : Fn P w K mg base k "_law_shuffled" m__law_shuffled) (h_int : mg "int" = none) (h_len : mg "len" = none) (h_list : mg "list" = none) (h_range : mg "range" = none) (h_tuple : mg "tuple" = none)
    (ok : ∀ args P EP, m args P EP → args.length = 2 ∧ denF (den__law_graph m__law_rare m__law_draw m__law_parted m__law_pass_row m__law_shuffled) 8 args P EP) : Fn P w K mg base (k + 1) "_law_graph" m :=
  fn_ok F sc__law_graph hself (FunD.bindsN F fun _ _ _ _ _ _ us hl => match us, hl with | [_, _], _ => rfl) (fun cdv A outer s H E hr tk hp => ⟨_, 
    (css_cons (cs_set 2 sc__law_graph.nd (cr_sh (cv_ifE (ct_val (cv_fz (call_ex h__law_rare hr tk (ca_bor 0 (ca_cons cv_int ca_nil)))).p) cv_int cv_int)))
    (css_cons (cs_setLc 3 [("at", 8)] rfl sc__law_graph.nd (ci_rg1 h_range (cv_var 1)) (blkOk_by (by rfl)) (fun _ _ _ _ _ => (cg_name (vs := [8]) 8 sc__law_graph.nd)) (fun _ _ _ _ _ => cts_nil) (fun _ _ _ _ _ => (cv_fz (call_ex h__law_draw hr takes0 (ca_bor 0 (ca_cons (cv_var 2) ca_nil))))))
    (css_cons (cs_set 4 sc__law_graph.nd (call_ex h__law_parted hr tk (ca_cons (cv_var 3) (ca_cons (cv_fz (call_ex h__law_draw hr tk (ca_bor 0 (ca_cons cv_int ca_nil)))) ca_nil))))
    (css_cons (cs_setLc 5 [("at", 8)] rfl sc__law_graph.nd (ci_rg1 h_range (cv_var 1)) (blkOk_by (by rfl)) (fun _ _ _ _ _ => (cg_name (vs := [8]) 8 sc__law_graph.nd)) (fun _ _ _ _ _ => cts_nil) (fun _ _ _ _ _ => (cv_fz (call_ex h__law_pass_row hr takes0 (ca_bor 0 (ca_cons (cv_var 1) (ca_cons (cv_var 8) ca_nil)))))))
    (css_cons (cs_if (cw_and (ct_cmp op_gt so_gt (cv_var 1) cv_int.p) (cw_and1 (ct_cmp (op_eqD hr.units) so_eq (cv_fz (call_ex h__law_draw hr tk (ca_bor 0 (ca_cons cv_int ca_nil)))) cv_int.p))).t (css_cons (cs_set 6 sc__law_graph.nd (cr_sh (cv_slice (cv_fz (call_ex h__law_shuffled hr tk (ca_bor 0 (ca_cons (cv_fz (cr_listRg rfl h_list h_range (cv_var 1))) ca_nil)))) co_none (co_some (cv_bin op_addA so_add cv_int (cv_fz (call_ex h__law_draw hr tk (ca_bor 0 (ca_cons (cv_bin op_sub so_sub (cv_var 1) cv_int.p) ca_nil)))).p)))))
    (css_one (cs_for hp rfl (ci_rg1 h_range (cv_b1 call_len_seq sc_len h_len (cp_var 6))) (cg_name (vs := [0, 1, 2, 3, 4, 5, 6, 7, 8, 9]) 7 sc__law_graph.nd) (css_one (cs_setIx 5 (cv_t1 call_tuple_of sc_tuple h_tuple (cv_fz (cr_lc [("other", 9)] rfl sc__law_graph.nd (ci_rg1 h_range (cv_var 1)) (blkOk_by (by rfl)) (fun _ _ _ _ _ => (cg_name (vs := [9]) 9 sc__law_graph.nd)) (fun _ _ _ _ _ => cts_nil) (fun _ _ _ _ _ => (cv_tup (cl_cons (cv_t1 call_int1 sc_int h_int (cv_cmp (op_eqD hr.units) so_eq (cv_var 9) (cv_ixN 6 (cv_bin op_sub so_sub (cv_var 7) cv_int.p)).p).p) (cl_cons cv_int cl_nil)))))).p) (cv_ixN 6 (cv_var 7))))))) css_nil)
    (css_one (cs_ret (cr_sh (cv_tup (cl_cons (cv_var 4) (cl_cons (cv_t1 call_tuple_of sc_tuple h_tuple (cp_var 5)) cl_nil)))))))))))⟩) ok
theorem fn__law_same {f : Addr} {fd : FuncData} {m : FnM} (F : FunD K "_law_same" "_law_same" (defArgs s__law_same) (defBody s__law_same) (defScope s__law_same) [] [] f fd) (hself : mg "_law_same" = some (.ref f)) {m__law_same : FnM} (h__law_same : Fn P w K mg base k "_law_same" m__law_same) {m__law_is_int : FnM} (h__law_is_int : Fn P w K mg base k "_law_is_int" m__law_is_int) (h_all : mg "all" = none) (h_isinstance : mg "isinstance" = none) (h_len : mg "len" = none) (h_range : mg "range" = none) (h_tuple : mg "tuple" = none)
    (ok : ∀ args P EP, m args P EP → args.length = 2 ∧ denF (den__law_same m__law_same m__law_is_int) 1 args P EP) : Fn P w K mg base (k + 1) "_law_same" m :=
  fn_ok F sc__law_same hself (FunD.bindsN F fun _ _ _ _ _ _ us hl => match us, hl with | [_, _], _ => rfl) (fun cdv A outer s H E hr tk hp => ⟨_, 
    (css_cons (cs_if (ct_val (cv_isTy kit_tuple h_isinstance h_tuple (cp_var 1)).p) (css_cons (cs_if (cw_or (ct_not (ct_val (cv_isTy kit_tuple h_isinstance h_tuple (cp_var 0)).p)) (cw_or1 (ct_cmp (op_neD hr.units) so_ne (cv_b1 call_len_seq sc_len h_len (cp_var 0)) (cv_b1 call_len_seq sc_len h_len (cp_var 1)).p))).t (css_one (cs_ret (cr_sh cv_bl))) css_nil)
    (css_one (cs_ret (cr_sh (cv_b1 (cr_all rfl) sc_all h_all (cv_fz (cr_lc [("k", 2)] rfl sc__law_same.nd (ci_rg1 h_range (cv_b1 call_len_seq sc_len h_len (cp_var 1))) (blkOk_by (by rfl)) (fun _ _ _ _ _ => (cg_name (vs := [2]) 2 sc__law_same.nd)) (fun _ _ _ _ _ => cts_nil) (fun _ _ _ _ _ => (cv_fz (call_ex h__law_same hr takes0 (ca_cons (cv_ixN 0 (cv_var 2)) (ca_cons (cv_ixN 1 (cv_var 2)) ca_nil))))))).p))))) css_nil)
    (css_one (cs_ret (cr_sh (cv_and (cv_fz (call_ex h__law_is_int hr tk (ca_cons (cv_var 0) ca_nil))) (cv_one (cv_cmp (op_eqD hr.units) so_eq (cv_var 0) (cp_var 1))))))))⟩) ok
theorem fn__law_taken_part {f : Addr} {fd : FuncData} {m : FnM} (F : FunD K "_law_taken_part" "_law_taken_part" (defArgs s__law_taken_part) (defBody s__law_taken_part) (defScope s__law_taken_part) [] [] f fd) (hself : mg "_law_taken_part" = some (.ref f)) {m__law_times : FnM} (h__law_times : Fn P w K mg base k "_law_times" m__law_times) {m__law_over : FnM} (h__law_over : Fn P w K mg base k "_law_over" m__law_over) {m__law_minus : FnM} (h__law_minus : Fn P w K mg base k "_law_minus" m__law_minus) {m__law_plus : FnM} (h__law_plus : Fn P w K mg base k "_law_plus" m__law_plus)
    (ok : ∀ args P EP, m args P EP → args.length = 4 ∧ denF (den__law_taken_part m__law_times m__law_over m__law_minus m__law_plus) 2 args P EP) : Fn P w K mg base (k + 1) "_law_taken_part" m :=
  fn_ok F sc__law_taken_part hself (FunD.bindsN F fun _ _ _ _ _ _ us hl => match us, hl with | [_, _, _, _], _ => rfl) (fun cdv A outer s H E hr tk hp => ⟨_, 
    (css_cons (cs_if (cw_or (ct_cmp (op_eqD hr.units) so_eq (cv_var 2) (cp_var 3)) (cw_or (ct_cmp (op_eqD hr.units) so_eq (cv_var 2) (cp_var 1)) (cw_or1 (ct_cmp (op_eqD hr.units) so_eq (cv_var 3) (cp_var 1))))).t (css_one (cs_ret (cr_sh (cv_tup (cl_cons cv_int (cl_cons cv_int cl_nil)))))) css_nil)
    (css_cons (cs_set 4 sc__law_taken_part.nd (call_ex h__law_times hr tk (ca_cons (cv_ix (cv_ixN 0 (cv_var 2)) (cp_var 1)) (ca_cons (cv_ix (cv_ixN 0 (cv_var 1)) (cp_var 2)) ca_nil))))
    (css_cons (cs_if (ct_cmp (op_eqD hr.units) so_eq (cv_var 4) (cv_tup (cl_cons cv_int (cl_cons cv_int cl_nil))).p) (css_one (cs_ret (cr_sh (cv_tup (cl_cons cv_int (cl_cons cv_int cl_nil)))))) css_nil)
    (css_cons (cs_set 5 sc__law_taken_part.nd (call_ex h__law_times hr tk (ca_cons (cv_ix (cv_ixN 0 (cv_var 2)) (cp_var 1)) (ca_cons (cv_ix (cv_ixN 0 (cv_var 1)) (cp_var 3)) ca_nil))))
    (css_one (cs_ret (call_ex h__law_over hr tk (ca_cons (cv_fz (call_ex h__law_plus hr tk (ca_cons (cv_ix (cv_ixN 0 (cv_var 2)) (cp_var 3)) (ca_cons (cv_var 5) ca_nil)))) (ca_cons (cv_fz (call_ex h__law_minus hr tk (ca_cons (cv_tup (cl_cons cv_int (cl_cons cv_int cl_nil))) (ca_cons (cv_var 4) ca_nil)))) ca_nil)))))))))⟩) ok
theorem fn__law_taken {f : Addr} {fd : FuncData} {m : FnM} (F : FunD K "_law_taken" "_law_taken" (defArgs s__law_taken) (defBody s__law_taken) (defScope s__law_taken) [] [] f fd) (hself : mg "_law_taken" = some (.ref f)) {m__law_plus : FnM} (h__law_plus : Fn P w K mg base k "_law_plus" m__law_plus) {m__law_times : FnM} (h__law_times : Fn P w K mg base k "_law_times" m__law_times) {m__law_taken_part : FnM} (h__law_taken_part : Fn P w K mg base k "_law_taken_part" m__law_taken_part) (h_len : mg "len" = none) (h_range : mg "range" = none) (h_tuple : mg "tuple" = none)
    (ok : ∀ args P EP, m args P EP → args.length = 2 ∧ denF (den__law_taken m__law_plus m__law_times m__law_taken_part) 8 args P EP) : Fn P w K mg base (k + 1) "_law_taken" m :=
  fn_ok F sc__law_taken hself (FunD.bindsN F fun _ _ _ _ _ _ us hl => match us, hl with | [_, _], _ => rfl) (fun cdv A outer s H E hr tk hp => ⟨_, 
    (css_cons (cs_asg (cv_var 0) (cg_tup (vs := [0, 1, 2, 3, 4, 5, 6, 7, 8, 9]) rfl (cgs_cons 2 sc__law_taken.nd (cgs_cons 3 sc__law_taken.nd cgs_nil))))
    (css_cons (cs_set 4 sc__law_taken.nd (cr_sh (cv_b1 call_len_seq sc_len h_len (cp_var 2))))
    (css_cons (cs_parR 5 6 rfl sc__law_taken.nd (cr_lst cl_nil) (cr_lst cl_nil))
    (css_cons (cs_for hp rfl (ci_rg1 h_range (cv_var 4)) (cg_name (vs := [0, 1, 2, 3, 4, 5, 6, 7, 8, 9]) 7 sc__law_taken.nd) (css_cons (cs_set 8 sc__law_taken.nd (call_ex h__law_plus hr tk (ca_cons (cv_ixN 2 (cv_var 7)) (ca_cons (cv_fz (call_ex h__law_times hr tk (ca_cons (cv_ixN 2 (cv_var 1)) (ca_cons (cv_ix (cv_ixN 3 (cv_var 1)) (cp_var 7)) ca_nil)))) ca_nil))))
    (css_cons (cs_expr (cr_sh (cv_app 5 (cv_ifE (ct_cmp (op_eqD hr.units) so_eq (cv_var 7) (cp_var 1)) (cv_tup (cl_cons cv_int (cl_cons cv_int cl_nil))) (cv_var 8)))))
    (css_one (cs_expr (cr_sh (cv_app 6 (cv_t1 call_tuple_of sc_tuple h_tuple (cv_fz (cr_lc [("other", 9)] rfl sc__law_taken.nd (ci_rg1 h_range (cv_var 4)) (blkOk_by (by rfl)) (fun _ _ _ _ _ => (cg_name (vs := [9]) 9 sc__law_taken.nd)) (fun _ _ _ _ _ => cts_nil) (fun _ _ _ _ _ => (cv_fz (call_ex h__law_taken_part hr takes0 (ca_cons (cv_var 3) (ca_cons (cv_var 1) (ca_cons (cv_var 7) (ca_cons (cv_var 9) ca_nil))))))))).p))))))))
    (css_one (cs_ret (cr_sh (cv_tup (cl_cons (cv_t1 call_tuple_of sc_tuple h_tuple (cp_var 5)) (cl_cons (cv_t1 call_tuple_of sc_tuple h_tuple (cp_var 6)) cl_nil))))))))))⟩) ok
theorem fn__law_is_amounts {f : Addr} {fd : FuncData} {m : FnM} (F : FunD K "_law_is_amounts" "_law_is_amounts" (defArgs s__law_is_amounts) (defBody s__law_is_amounts) (defScope s__law_is_amounts) [] [] f fd) (hself : mg "_law_is_amounts" = some (.ref f)) {m__law_is_frac : FnM} (h__law_is_frac : Fn P w K mg base k "_law_is_frac" m__law_is_frac) {m__law_less : FnM} (h__law_less : Fn P w K mg base k "_law_less" m__law_less) {m__law_sum : FnM} (h__law_sum : Fn P w K mg base k "_law_sum" m__law_sum) (h_all : mg "all" = none) (h_isinstance : mg "isinstance" = none) (h_len : mg "len" = none) (h_tuple : mg "tuple" = none)
    (ok : ∀ args P EP, m args P EP → args.length = 2 ∧ denF (den__law_is_amounts m__law_is_frac m__law_less m__law_sum) 1 args P EP) : Fn P w K mg base (k + 1) "_law_is_amounts" m :=
  fn_ok F sc__law_is_amounts hself (FunD.bindsN F fun _ _ _ _ _ _ us hl => match us, hl with | [_, _], _ => rfl) (fun cdv A outer s H E hr tk hp => ⟨_, 
    (css_cons (cs_if (cw_or (ct_not (ct_val (cv_isTy kit_tuple h_isinstance h_tuple (cp_var 0)).p)) (cw_or1 (ct_cmp (op_neD hr.units) so_ne (cv_b1 call_len_seq sc_len h_len (cp_var 0)) (cp_var 1)))).t (css_one (cs_ret (cr_sh cv_bl))) css_nil)
    (css_cons (cs_if (ct_not (ct_val (cv_b1 (cr_all rfl) sc_all h_all (cv_fz (cr_lc [("one", 2)] rfl sc__law_is_amounts.nd (ci_seq (cv_var 0)) (blkOk_by (by rfl)) (fun _ _ _ _ _ => (cg_name (vs := [2]) 2 sc__law_is_amounts.nd)) (fun _ _ _ _ _ => cts_nil) (fun _ _ _ _ _ => (cv_and (cv_fz (call_ex h__law_is_frac hr takes0 (ca_cons (cv_var 2) ca_nil))) (cv_one (cv_cmp op_ge so_ge (cv_ixN 2 cv_int) cv_int.p)))))).p).p)) (css_one (cs_ret (cr_sh cv_bl))) css_nil)
    (css_one (cs_ret (cr_sh (cv_not (cv_fz (call_ex h__law_less hr tk (ca_cons (cv_tup (cl_cons cv_int (cl_cons cv_int cl_nil))) (ca_cons (cv_fz (call_ex h__law_sum hr tk (ca_cons (cv_var 0) ca_nil))) ca_nil))))))))))⟩) ok
theorem fn__law_is_right {f : Addr} {fd : FuncData} {m : FnM} (F : FunD K "_law_is_right" "_law_is_right" (defArgs s__law_is_right) (defBody s__law_is_right) (defScope s__law_is_right) [] [] f fd) (hself : mg "_law_is_right" = some (.ref f)) {m__law_is_amounts : FnM} (h__law_is_amounts : Fn P w K mg base k "_law_is_amounts" m__law_is_amounts) (h_all : mg "all" = none) (h_isinstance : mg "isinstance" = none) (h_len : mg "len" = none) (h_range : mg "range" = none) (h_tuple : mg "tuple" = none)
    (ok : ∀ args P EP, m args P EP → args.length = 1 ∧ denF (den__law_is_right m__law_is_amounts) 4 args P EP) : Fn P w K mg base (k + 1) "_law_is_right" m :=
  fn_ok F sc__law_is_right hself (FunD.bindsN F fun _ _ _ _ _ _ us hl => match us, hl with | [_], _ => rfl) (fun cdv A outer s H E hr tk hp => ⟨_, 
    (css_cons (cs_if (cw_or (ct_not (ct_val (cv_isTy kit_tuple h_isinstance h_tuple (cp_var 0)).p)) (cw_or1 (ct_cmp (op_neD hr.units) so_ne (cv_b1 call_len_seq sc_len h_len (cp_var 0)) cv_int.p))).t (css_one (cs_ret (cr_sh cv_bl))) css_nil)
    (css_cons (cs_asg (cv_var 0) (cg_tup (vs := [0, 1, 2, 3, 4]) rfl (cgs_cons 1 sc__law_is_right.nd (cgs_cons 2 sc__law_is_right.nd cgs_nil))))
    (css_cons (cs_if (cw_or (ct_not (ct_val (cv_isTy kit_tuple h_isinstance h_tuple (cp_var 1)).p)) (cw_or (ct_not (ct_chain op_le op_le so_le so_le cv_int (cv_b1 call_len_seq sc_len h_len (cp_var 1)) cv_int)) (cw_or1 (ct_not (ct_val (cv_fz (call_ex h__law_is_amounts hr tk (ca_cons (cv_var 1) (ca_cons (cv_b1 call_len_seq sc_len h_len (cp_var 1)) ca_nil)))).p))))).t (css_one (cs_ret (cr_sh cv_bl))) css_nil)
    (css_cons (cs_if (cw_or (ct_not (ct_val (cv_isTy kit_tuple h_isinstance h_tuple (cp_var 2)).p)) (cw_or1 (ct_cmp (op_neD hr.units) so_ne (cv_b1 call_len_seq sc_len h_len (cp_var 2)) (cv_b1 call_len_seq sc_len h_len (cp_var 1)).p))).t (css_one (cs_ret (cr_sh cv_bl))) css_nil)
    (css_cons (cs_if (ct_not (ct_val (cv_b1 (cr_all rfl) sc_all h_all (cv_fz (cr_lc [("row", 4)] rfl sc__law_is_right.nd (ci_seq (cv_var 2)) (blkOk_by (by rfl)) (fun _ _ _ _ _ => (cg_name (vs := [4]) 4 sc__law_is_right.nd)) (fun _ _ _ _ _ => cts_nil) (fun _ _ _ _ _ => (cv_fz (call_ex h__law_is_amounts hr takes0 (ca_cons (cv_var 4) (ca_cons (cv_b1 call_len_seq sc_len h_len (cp_var 1)) ca_nil))))))).p).p)) (css_one (cs_ret (cr_sh cv_bl))) css_nil)
    (css_one (cs_ret (cr_sh (cv_b1 (cr_all rfl) sc_all h_all (cv_fz (cr_lc [("at", 3)] rfl sc__law_is_right.nd (ci_rg1 h_range (cv_b1 call_len_seq sc_len h_len (cp_var 2))) (blkOk_by (by rfl)) (fun _ _ _ _ _ => (cg_name (vs := [3]) 3 sc__law_is_right.nd)) (fun _ _ _ _ _ => cts_nil) (fun _ _ _ _ _ => (cv_cmp (op_eqD hr.units) so_eq (cv_ix (cv_ixN 2 (cv_var 3)) (cp_var 3)) (cv_tup (cl_cons cv_int (cl_cons cv_int cl_nil))).p)))).p)))))))))⟩) ok
theorem fn__law_odd {f : Addr} {fd : FuncData} {m : FnM} (F : FunD K "_law_odd" "_law_odd" (defArgs s__law_odd) (defBody s__law_odd) (defScope s__law_odd) [] [] f fd) (hself : mg "_law_odd" = some (.ref f)) {m__law_pick : FnM} (h__law_pick : Fn P w K mg base k "_law_pick" m__law_pick)
    (ok : ∀ args P EP, m args P EP → args.length = 1 ∧ denF (den__law_odd m__law_pick) 1 args P EP) : Fn P w K mg base (k + 1) "_law_odd" m :=
  fn_ok F sc__law_odd hself (FunD.bindsN F fun _ _ _ _ _ _ us hl => match us, hl with | [_], _ => rfl) (fun cdv A outer s H E hr tk hp => ⟨_, 
    (css_cons (cs_set 1 sc__law_odd.nd (cr_lst (cl_cons (cv_tup (cl_cons (cv_unop un_neg su_neg cv_int.p) (cl_cons cv_int cl_nil))) (cl_cons (cv_tup (cl_cons cv_int (cl_cons cv_int cl_nil))) (cl_cons (cv_tup (cl_cons cv_int (cl_cons cv_int cl_nil))) (cl_cons (cv_tup (cl_cons cv_int (cl_cons cv_int cl_nil))) (cl_cons (cv_tup (cl_cons cv_int (cl_cons cv_int cl_nil))) (cl_cons (cv_tup (cl_cons cv_int (cl_cons (cv_unop un_neg su_neg cv_int.p) cl_nil))) (cl_cons (cv_tup (cl_cons cv_int (cl_cons (cv_unop un_neg su_neg cv_int.p) cl_nil))) (cl_cons (cv_tup (cl_cons cv_bl (cl_cons cv_int cl_nil))) (cl_cons (cv_tup (cl_cons cv_int (cl_cons cv_bl cl_nil))) (cl_cons (cv_tup (cl_cons cv_bl (cl_cons cv_int cl_nil))) (cl_cons (cv_tup (cl_cons cv_int (cl_cons cv_int (cl_cons cv_int cl_nil)))) cl_nil)))))))))))))
    (css_cons (cs_expr (cr_sh (cv_ext 1 (cv_fz (cr_lst (cl_cons (cv_tup (cl_cons cv_int cl_nil)) (cl_cons (cv_tup cl_nil) (cl_cons cv_int (cl_cons cv_int (cl_cons cv_str (cl_cons cv_str (cl_cons cv_non (cl_cons cv_bl (cl_cons cv_bl (cl_cons (cv_tup (cl_cons (cv_tup (cl_cons cv_int (cl_cons cv_int cl_nil))) (cl_cons (cv_tup (cl_cons cv_int (cl_cons cv_int cl_nil))) cl_nil))) (cl_cons (cv_tup (cl_cons cv_non (cl_cons cv_int cl_nil))) (cl_cons (cv_tup (cl_cons cv_str (cl_cons cv_str cl_nil))) (cl_cons (cv_tup (cl_cons (cv_tup (cl_cons cv_int (cl_cons cv_int cl_nil))) (cl_cons cv_int cl_nil))) cl_nil))))))))))))))))))
    (css_one (cs_ret (call_ex h__law_pick hr tk (ca_bor 0 (ca_cons (cv_var 1) ca_nil)))))))⟩) ok
theorem fn__law_put {f : Addr} {fd : FuncData} {m : FnM} (F : FunD K "_law_put" "_law_put" (defArgs s__law_put) (defBody s__law_put) (defScope s__law_put) [] [] f fd) (hself : mg "_law_put" = some (.ref f))
    (ok : ∀ args P EP, m args P EP → args.length = 3 ∧ denF (den__law_put) 0 args P EP) : Fn P w K mg base (k + 1) "_law_put" m :=
  fn_ok F sc__law_put hself (FunD.bindsN F fun _ _ _ _ _ _ us hl => match us, hl with | [_, _, _], _ => rfl) (fun cdv A outer s H E hr tk hp => ⟨_, 
    (css_one (cs_ret (cr_sh (cv_bin op_addA so_add (cv_bin op_addA so_add (cv_slice (cv_var 0) co_none (co_some (cv_var 1))) (cv_tup (cl_cons (cv_var 2) cl_nil)).p) (cv_slice (cv_var 0) (co_some (cv_bin op_addA so_add (cv_var 1) cv_int.p)) co_none).p))))⟩) ok
theorem fn__law_filled {f : Addr} {fd : FuncData} {m : FnM} (F : FunD K "_law_filled" "_law_filled" (defArgs s__law_filled) (defBody s__law_filled) (defScope s__law_filled) [] [] f fd) (hself : mg "_law_filled" = some (.ref f)) {m__law_plus : FnM} (h__law_plus : Fn P w K mg base k "_law_plus" m__law_plus) {m__law_minus : FnM} (h__law_minus : Fn P w K mg base k "_law_minus" m__law_minus) {m__law_sum : FnM} (h__law_sum : Fn P w K mg base k "_law_sum" m__law_sum) {m__law_draw : FnM} (h__law_draw : Fn P w K mg base k "_law_draw" m__law_draw)
    (ok : ∀ args P EP, m args P EP → args.length = 3 ∧ denF (den__law_filled m__law_plus m__law_minus m__law_sum m__law_draw) 1 args P EP) : Fn P w K mg base (k + 1) "_law_filled" m :=
  fn_ok F sc__law_filled hself (FunD.bindsN F fun _ _ _ _ _ _ us hl => match us, hl with | [_, _, _], _ => rfl) (fun cdv A outer s H E hr tk hp => ⟨_, 
    (css_cons (cs_set 3 sc__law_filled.nd (call_ex h__law_plus hr tk (ca_cons (cv_ixN 1 (cv_var 2)) (ca_cons (cv_fz (call_ex h__law_minus hr tk (ca_cons (cv_tup (cl_cons cv_int (cl_cons cv_int cl_nil))) (ca_cons (cv_fz (call_ex h__law_sum hr tk (ca_cons (cv_var 1) ca_nil))) ca_nil)))) ca_nil))))
    (css_cons (cs_if (ct_cmp (op_eqD hr.units) so_eq (cv_fz (call_ex h__law_draw hr tk (ca_bor 0 (ca_cons cv_int ca_nil)))) cv_int.p) (css_one (cs_ret (cr_move 3))) css_nil)
    (css_one (cs_ret (call_ex h__law_plus hr tk (ca_cons (cv_var 3) (ca_cons (cv_tup (cl_cons cv_int (cl_cons (cv_bin op_addA so_add cv_int (cv_fz (call_ex h__law_draw hr tk (ca_bor 0 (ca_cons (cv_bin op_pow so_pow cv_int cv_int.p) ca_nil)))).p) cl_nil))) ca_nil)))))))⟩) ok
theorem fn__law_nothing {f : Addr} {fd : FuncData} {m : FnM} (F : FunD K "_law_nothing" "_law_nothing" (defArgs s__law_nothing) (defBody s__law_nothing) (defScope s__law_nothing) [] [] f fd) (hself : mg "_law_nothing" = some (.ref f)) (h_range : mg "range" = none) (h_tuple : mg "tuple" = none)
    (ok : ∀ args P EP, m args P EP → args.length = 1 ∧ denF (den__law_nothing) 2 args P EP) : Fn P w K mg base (k + 1) "_law_nothing" m :=
  fn_ok F sc__law_nothing hself (FunD.bindsN F fun _ _ _ _ _ _ us hl => match us, hl with | [_], _ => rfl) (fun cdv A outer s H E hr tk hp => ⟨_, 
    (css_cons (cs_set 1 sc__law_nothing.nd (cr_sh (cv_t1 call_tuple_of sc_tuple h_tuple (cv_fz (cr_lc [("at", 2)] rfl sc__law_nothing.nd (ci_rg1 h_range (cv_var 0)) (blkOk_by (by rfl)) (fun _ _ _ _ _ => (cg_name (vs := [2]) 2 sc__law_nothing.nd)) (fun _ _ _ _ _ => cts_nil) (fun _ _ _ _ _ => (cv_tup (cl_cons cv_int (cl_cons cv_int cl_nil)))))).p)))
    (css_one (cs_ret (cr_sh (cv_tup (cl_cons (cv_var 1) (cl_cons (cv_t1 call_tuple_of sc_tuple h_tuple (cv_fz (cr_lc [("at", 2)] rfl sc__law_nothing.nd (ci_rg1 h_range (cv_var 0)) (blkOk_by (by rfl)) (fun _ _ _ _ _ => (cg_name (vs := [2]) 2 sc__law_nothing.nd)) (fun _ _ _ _ _ => cts_nil) (fun _ _ _ _ _ => (cv_var 1)))).p) cl_nil)))))))⟩) ok
theorem fn__law_bent_whole {f : Addr} {fd : FuncData} {m : FnM} (F : FunD K "_law_bent_whole" "_law_bent_whole" (defArgs s__law_bent_whole) (defBody s__law_bent_whole) (defScope s__law_bent_whole) [] [] f fd) (hself : mg "_law_bent_whole" = some (.ref f)) {m__law_pick : FnM} (h__law_pick : Fn P w K mg base k "_law_pick" m__law_pick) {m__law_nothing : FnM} (h__law_nothing : Fn P w K mg base k "_law_nothing" m__law_nothing) (h_len : mg "len" = none) (h_range : mg "range" = none) (h_tuple : mg "tuple" = none)
    (ok : ∀ args P EP, m args P EP → args.length = 3 ∧ denF (den__law_bent_whole m__law_pick m__law_nothing) 7 args P EP) : Fn P w K mg base (k + 1) "_law_bent_whole" m :=
  fn_ok F sc__law_bent_whole hself (FunD.bindsN F fun _ _ _ _ _ _ us hl => match us, hl with | [_, _, _], _ => rfl) (fun cdv A outer s H E hr tk hp => ⟨_, 
    (css_cons (cs_asg (cv_var 1) (cg_tup (vs := [0, 1, 2, 3, 4, 5, 6, 7, 8, 9]) rfl (cgs_cons 3 sc__law_bent_whole.nd (cgs_cons 4 sc__law_bent_whole.nd cgs_nil))))
    (css_cons (cs_if (ct_cmp (op_eqD hr.units) so_eq (cv_var 2) cv_int.p) (css_cons (cs_set 5 sc__law_bent_whole.nd (cr_lst (cl_cons cv_non (cl_cons cv_int (cl_cons cv_str (cl_cons cv_bl (cl_cons (cv_tup cl_nil) (cl_cons (cv_tup (cl_cons (cv_var 3) cl_nil)) (cl_cons (cv_tup (cl_cons (cv_var 3) (cl_cons (cv_var 4) (cl_cons (cv_var 4) cl_nil)))) (cl_cons (cv_tup (cl_cons (cv_var 4) (cl_cons (cv_var 3) cl_nil))) (cl_cons (cv_var 3) (cl_cons (cv_var 4) cl_nil))))))))))))
    (css_one (cs_ret (call_ex h__law_pick hr tk (ca_bor 0 (ca_cons (cv_var 5) ca_nil)))))) css_nil)
    (css_cons (cs_if (ct_cmp (op_eqD hr.units) so_eq (cv_var 2) cv_int.p) (css_cons (cs_set 6 sc__law_bent_whole.nd (cr_sh (cv_bin op_addA so_add (cv_var 3) (cv_tup (cl_cons (cv_tup (cl_cons cv_int (cl_cons cv_int cl_nil))) cl_nil)).p)))
    (css_one (cs_ret (cr_sh (cv_tup (cl_cons (cv_fz (call_ex h__law_pick hr tk (ca_bor 0 (ca_cons (cv_fz (cr_lst (cl_cons cv_non (cl_cons cv_int (cl_cons cv_str (cl_cons (cv_tup cl_nil) (cl_cons (cv_var 6) (cl_cons (cv_slice (cv_var 3) (co_some cv_int) co_none) (cl_cons (cv_tup (cl_cons (cv_var 3) cl_nil)) (cl_cons (cv_ixN 3 cv_int) cl_nil)))))))))) ca_nil)))) (cl_cons (cv_var 4) cl_nil))))))) css_nil)
    (css_cons (cs_if (ct_cmp (op_eqD hr.units) so_eq (cv_var 2) cv_int.p) (css_cons (cs_set 6 sc__law_bent_whole.nd (cr_sh (cv_bin op_addA so_add (cv_var 4) (cv_tup (cl_cons (cv_ixN 4 cv_int) cl_nil)).p)))
    (css_one (cs_ret (cr_sh (cv_tup (cl_cons (cv_var 3) (cl_cons (cv_fz (call_ex h__law_pick hr tk (ca_bor 0 (ca_cons (cv_fz (cr_lst (cl_cons cv_non (cl_cons cv_int (cl_cons cv_str (cl_cons (cv_tup cl_nil) (cl_cons (cv_slice (cv_var 4) (co_some cv_int) co_none) (cl_cons (cv_var 6) (cl_cons (cv_bin op_addA so_add (cv_var 4) (cv_tup (cl_cons (cv_tup cl_nil) cl_nil)).p) (cl_cons (cv_ixN 4 cv_int) cl_nil)))))))))) ca_nil)))) cl_nil))))))) css_nil)
    (css_cons (cs_if (ct_cmp (op_eqD hr.units) so_eq (cv_var 2) cv_int.p) (css_cons (cs_set 7 sc__law_bent_whole.nd (cr_sh (cv_t1 call_tuple_of sc_tuple h_tuple (cv_fz (cr_lc [("at", 8)] rfl sc__law_bent_whole.nd (ci_rg1 h_range (cv_bin op_addA so_add (cv_b1 call_len_seq sc_len h_len (cp_var 3)) cv_int.p)) (blkOk_by (by rfl)) (fun _ _ _ _ _ => (cg_name (vs := [8]) 8 sc__law_bent_whole.nd)) (fun _ _ _ _ _ => cts_nil) (fun _ _ _ _ _ => (cv_tup (cl_cons cv_int (cl_cons cv_int cl_nil)))))).p)))
    (css_one (cs_ret (cr_sh (cv_tup (cl_cons (cv_bin op_addA so_add (cv_var 3) (cv_tup (cl_cons (cv_tup (cl_cons cv_int (cl_cons cv_int cl_nil))) cl_nil)).p) (cl_cons (cv_bin op_addA so_add (cv_t1 call_tuple_of sc_tuple h_tuple (cv_fz (cr_lc [("row", 9)] rfl sc__law_bent_whole.nd (ci_seq (cv_var 4)) (blkOk_by (by rfl)) (fun _ _ _ _ _ => (cg_name (vs := [9]) 9 sc__law_bent_whole.nd)) (fun _ _ _ _ _ => cts_nil) (fun _ _ _ _ _ => (cv_bin op_addA so_add (cv_var 9) (cv_tup (cl_cons (cv_tup (cl_cons cv_int (cl_cons cv_int cl_nil))) cl_nil)).p)))).p) (cv_tup (cl_cons (cv_var 7) cl_nil)).p) cl_nil))))))) css_nil)
    (css_cons (cs_if (ct_cmp (op_eqD hr.units) so_eq (cv_var 2) cv_int.p) (css_one (cs_ret (call_ex h__law_nothing hr tk (ca_cons (cv_fz (call_ex h__law_pick hr tk (ca_bor 0 (ca_cons (cv_fz (cr_lst (cl_cons cv_int (cl_cons cv_int (cl_cons cv_int (cl_cons cv_int (cl_cons cv_int cl_nil))))))) ca_nil)))) ca_nil)))) css_nil)
    (css_one (cs_ret (cr_sh (cv_tup (cl_cons (cv_var 3) (cl_cons (cv_bin op_addA so_add (cv_slice (cv_var 4) (co_some cv_int) co_none) (cv_slice (cv_var 4) co_none (co_some cv_int)).p) cl_nil))))))))))))⟩) ok
theorem fn__law_bent_part {f : Addr} {fd : FuncData} {m : FnM} (F : FunD K "_law_bent_part" "_law_bent_part" (defArgs s__law_bent_part) (defBody s__law_bent_part) (defScope s__law_bent_part) [] [] f fd) (hself : mg "_law_bent_part" = some (.ref f)) {m__law_draw : FnM} (h__law_draw : Fn P w K mg base k "_law_draw" m__law_draw) {m__law_put : FnM} (h__law_put : Fn P w K mg base k "_law_put" m__law_put) {m__law_odd : FnM} (h__law_odd : Fn P w K mg base k "_law_odd" m__law_odd) {m__law_filled : FnM} (h__law_filled : Fn P w K mg base k "_law_filled" m__law_filled) {m__law_pick : FnM} (h__law_pick : Fn P w K mg base k "_law_pick" m__law_pick) {m__law_times : FnM} (h__law_times : Fn P w K mg base k "_law_times" m__law_times) (h_len : mg "len" = none) (h_tuple : mg "tuple" = none)
    (ok : ∀ args P EP, m args P EP → args.length = 3 ∧ denF (den__law_bent_part m__law_draw m__law_put m__law_odd m__law_filled m__law_pick m__law_times) 8 args P EP) : Fn P w K mg base (k + 1) "_law_bent_part" m :=
  fn_ok F sc__law_bent_part hself (FunD.bindsN F fun _ _ _ _ _ _ us hl => match us, hl with | [_, _, _], _ => rfl) (fun cdv A outer s H E hr tk hp => ⟨_, 
    (css_cons (cs_asg (cv_var 1) (cg_tup (vs := [0, 1, 2, 3, 4, 5, 6, 7, 8, 9, 10]) rfl (cgs_cons 3 sc__law_bent_part.nd (cgs_cons 4 sc__law_bent_part.nd cgs_nil))))
    (css_cons (cs_par 5 6 rfl sc__law_bent_part.nd (cv_fz (call_ex h__law_draw hr tk (ca_bor 0 (ca_cons (cv_b1 call_len_seq sc_len h_len (cp_var 3)) ca_nil)))) (cv_fz (call_ex h__law_draw hr tk (ca_bor 0 (ca_cons (cv_b1 call_len_seq sc_len h_len (cp_var 3)) ca_nil)))))
    (css_cons (cs_set 7 sc__law_bent_part.nd (cr_sh (cv_ixN 4 (cv_var 5))))
    (css_cons (cs_if (ct_cmp (op_eqD hr.units) so_eq (cv_var 2) cv_int.p) (css_one (cs_ret (cr_sh (cv_tup (cl_cons (cv_fz (call_ex h__law_put hr tk (ca_cons (cv_var 3) (ca_cons (cv_var 5) (ca_cons (cv_fz (call_ex h__law_odd hr tk (ca_bor 0 ca_nil))) ca_nil))))) (cl_cons (cv_var 4) cl_nil)))))) css_nil)
    (css_cons (cs_if (ct_cmp (op_eqD hr.units) so_eq (cv_var 2) cv_int.p) (css_one (cs_ret (cr_sh (cv_tup (cl_cons (cv_fz (call_ex h__law_put hr tk (ca_cons (cv_var 3) (ca_cons (cv_var 5) (ca_cons (cv_fz (call_ex h__law_filled hr tk (ca_bor 0 (ca_cons (cv_var 3) (ca_cons (cv_var 5) ca_nil))))) ca_nil))))) (cl_cons (cv_var 4) cl_nil)))))) css_nil)
    (css_cons (cs_if (ct_cmp (op_eqD hr.units) so_eq (cv_var 2) cv_int.p) (css_cons (cs_set 8 sc__law_bent_part.nd (call_ex h__law_pick hr tk (ca_bor 0 (ca_cons (cv_fz (cr_lst (cl_cons cv_non (cl_cons cv_int (cl_cons cv_str (cl_cons (cv_tup cl_nil) (cl_cons (cv_slice (cv_var 7) (co_some cv_int) co_none) (cl_cons (cv_bin op_addA so_add (cv_var 7) (cv_tup (cl_cons (cv_tup (cl_cons cv_int (cl_cons cv_int cl_nil))) cl_nil)).p) (cl_cons (cv_ixN 7 cv_int) cl_nil))))))))) ca_nil))))
    (css_one (cs_ret (cr_sh (cv_tup (cl_cons (cv_var 3) (cl_cons (cv_fz (call_ex h__law_put hr tk (ca_cons (cv_var 4) (ca_cons (cv_var 5) (ca_cons (cv_var 8) ca_nil))))) cl_nil))))))) css_nil)
    (css_cons (cs_if (ct_cmp (op_eqD hr.units) so_eq (cv_var 2) cv_int.p) (css_one (cs_ret (cr_sh (cv_tup (cl_cons (cv_var 3) (cl_cons (cv_fz (call_ex h__law_put hr tk (ca_cons (cv_var 4) (ca_cons (cv_var 5) (ca_cons (cv_fz (call_ex h__law_put hr tk (ca_cons (cv_var 7) (ca_cons (cv_var 6) (ca_cons (cv_fz (call_ex h__law_odd hr tk (ca_bor 0 ca_nil))) ca_nil))))) ca_nil))))) cl_nil)))))) css_nil)
    (css_cons (cs_if (ct_cmp (op_eqD hr.units) so_eq (cv_var 2) cv_int.p) (css_one (cs_ret (cr_sh (cv_tup (cl_cons (cv_var 3) (cl_cons (cv_fz (call_ex h__law_put hr tk (ca_cons (cv_var 4) (ca_cons (cv_var 5) (ca_cons (cv_fz (call_ex h__law_put hr tk (ca_cons (cv_var 7) (ca_cons (cv_var 6) (ca_cons (cv_fz (call_ex h__law_filled hr tk (ca_bor 0 (ca_cons (cv_var 7) (ca_cons (cv_var 6) ca_nil))))) ca_nil))))) ca_nil))))) cl_nil)))))) css_nil)
    (css_cons (cs_set 9 sc__law_bent_part.nd (cr_sh (cv_t1 call_tuple_of sc_tuple h_tuple (cv_fz (cr_lc [("part", 10)] rfl sc__law_bent_part.nd (ci_seq (cv_var 7)) (blkOk_by (by rfl)) (fun _ _ _ _ _ => (cg_name (vs := [10]) 10 sc__law_bent_part.nd)) (fun _ _ _ _ _ => cts_nil) (fun _ _ _ _ _ => (cv_fz (call_ex h__law_times hr takes0 (ca_cons (cv_var 10) (ca_cons (cv_tup (cl_cons cv_int (cl_cons cv_int cl_nil))) ca_nil))))))).p)))
    (css_one (cs_ret (cr_sh (cv_tup (cl_cons (cv_var 3) (cl_cons (cv_fz (call_ex h__law_put hr tk (ca_cons (cv_var 4) (ca_cons (cv_var 5) (ca_cons (cv_fz (call_ex h__law_put hr tk (ca_cons (cv_var 9) (ca_cons (cv_var 5) (ca_cons (cv_tup (cl_cons cv_int (cl_cons (cv_bin op_addA so_add cv_int (cv_fz (call_ex h__law_draw hr tk (ca_bor 0 (ca_cons cv_int ca_nil)))).p) cl_nil))) ca_nil))))) ca_nil))))) cl_nil)))))))))))))))⟩) ok
theorem fn__law_is_judged {f : Addr} {fd : FuncData} {m : FnM} (F : FunD K "_law_is_judged" "_law_is_judged" (defArgs s__law_is_judged) (defBody s__law_is_judged) (defScope s__law_is_judged) [] [] f fd) (hself : mg "_law_is_judged" = some (.ref f)) {m_is_graph : FnM} (h_is_graph : Fn P w K mg base k "is_graph" m_is_graph) {m__law_is_right : FnM} (h__law_is_right : Fn P w K mg base k "_law_is_right" m__law_is_right) (h_bool : mg "bool" = none) (h_isinstance : mg "isinstance" = none)
    (ok : ∀ args P EP, m args P EP → args.length = 1 ∧ denF (den__law_is_judged m_is_graph m__law_is_right) 1 args P EP) : Fn P w K mg base (k + 1) "_law_is_judged" m :=
  fn_ok F sc__law_is_judged hself (FunD.bindsN F fun _ _ _ _ _ _ us hl => match us, hl with | [_], _ => rfl) (fun cdv A outer s H E hr tk hp => ⟨_, 
    (css_cons (cs_set 1 sc__law_is_judged.nd (call_ex h_is_graph hr tk (ca_cons (cv_var 0) ca_nil)))
    (css_one (cs_ret (cr_sh (cv_and (cv_isTy kit_bool h_isinstance h_bool (cp_var 1)) (cv_one (cv_cmp (op_eqD hr.units) so_eq (cv_var 1) (cv_fz (call_ex h__law_is_right hr tk (ca_cons (cv_var 0) ca_nil))).p)))))))⟩) ok
theorem fn__law_is_taken {f : Addr} {fd : FuncData} {m : FnM} (F : FunD K "_law_is_taken" "_law_is_taken" (defArgs s__law_is_taken) (defBody s__law_is_taken) (defScope s__law_is_taken) [] [] f fd) (hself : mg "_law_is_taken" = some (.ref f)) {m_without : FnM} (h_without : Fn P w K mg base k "without" m_without) {m_is_graph : FnM} (h_is_graph : Fn P w K mg base k "is_graph" m_is_graph) {m__law_same : FnM} (h__law_same : Fn P w K mg base k "_law_same" m__law_same) {m__law_taken : FnM} (h__law_taken : Fn P w K mg base k "_law_taken" m__law_taken)
    (ok : ∀ args P EP, m args P EP → args.length = 2 ∧ denF (den__law_is_taken m_without m_is_graph m__law_same m__law_taken) 1 args P EP) : Fn P w K mg base (k + 1) "_law_is_taken" m :=
  fn_ok F sc__law_is_taken hself (FunD.bindsN F fun _ _ _ _ _ _ us hl => match us, hl with | [_, _], _ => rfl) (fun cdv A outer s H E hr tk hp => ⟨_, 
    (css_cons (cs_set 2 sc__law_is_taken.nd (call_ex h_without hr tk (ca_cons (cv_var 0) (ca_cons (cv_var 1) ca_nil))))
    (css_one (cs_ret (cr_sh (cv_and (cv_fz (call_ex h__law_same hr tk (ca_cons (cv_var 2) (ca_cons (cv_fz (call_ex h__law_taken hr tk (ca_cons (cv_var 0) (ca_cons (cv_var 1) ca_nil)))) ca_nil)))) (cv_one (cv_cmp op_isBl so_is (cv_fz (call_ex h_is_graph hr tk (ca_cons (cv_var 2) ca_nil))) cv_bl.p)))))))⟩) ok
theorem fnF_law {f : Addr} {fd : FuncData} {m : FnM} (F : FunD K "law" "law" (defArgs s_law) (defBody s_law) (defScope s_law) [] [] f fd)  {m__law_begin : FnM} (h__law_begin : Fn P w K mg base k "_law_begin" m__law_begin) {m__law_graph : FnM} (h__law_graph : Fn P w K mg base k "_law_graph" m__law_graph) {m__law_draw : FnM} (h__law_draw : Fn P w K mg base k "_law_draw" m__law_draw) {m_is_graph : FnM} (h_is_graph : Fn P w K mg base k "is_graph" m_is_graph) {m__law_bent_whole : FnM} (h__law_bent_whole : Fn P w K mg base k "_law_bent_whole" m__law_bent_whole) {m__law_bent_part : FnM} (h__law_bent_part : Fn P w K mg base k "_law_bent_part" m__law_bent_part) {m__law_is_judged : FnM} (h__law_is_judged : Fn P w K mg base k "_law_is_judged" m__law_is_judged) {m__law_is_taken : FnM} (h__law_is_taken : Fn P w K mg base k "_law_is_taken" m__law_is_taken) {m__law_pick : FnM} (h__law_pick : Fn P w K mg base k "_law_pick" m__law_pick) {m__law_taken : FnM} (h__law_taken : Fn P w K mg base k "_law_taken" m__law_taken) (h_all : mg "all" = none) (h_len : mg "len" = none) (h_list : mg "list" = none) (h_range : mg "range" = none)
    (ok : ∀ args P EP, m args P EP → args.length = 1 ∧ denF (den_law m__law_begin m__law_graph m__law_draw m_is_graph m__law_bent_whole m__law_bent_part m__law_is_judged m__law_is_taken m__law_pick m__law_taken) 9 args P EP) : FnOk P w K mg base (L2.CX P w) (k + 1) f fd ["script"] (spA K m) :=
  fn_okF F sc_law (fun cdv A outer s H E hr tk hp => ⟨_, 
    (css_cons (cs_set 1 sc_law.nd (call_ex h__law_begin hr tk (ca_cons (cv_var 0) ca_nil)))
    (css_cons (cs_set 2 sc_law.nd (call_ex h__law_graph hr tk (ca_bor 1 (ca_cons (cv_bin op_addA so_add cv_int (cv_fz (call_ex h__law_draw hr tk (ca_bor 1 (ca_cons cv_int ca_nil)))).p) ca_nil))))
    (css_cons (cs_set 3 sc_law.nd (call_ex h__law_graph hr tk (ca_bor 1 (ca_cons (cv_bin op_addA so_add cv_int (cv_fz (call_ex h__law_draw hr tk (ca_bor 1 (ca_cons cv_int ca_nil)))).p) ca_nil))))
    (css_cons (cs_if (cw_or (ct_cmp op_notBl so_isN (cv_fz (call_ex h_is_graph hr tk (ca_cons (cv_var 2) ca_nil))) cv_bl.p) (cw_or1 (ct_cmp op_notBl so_isN (cv_fz (call_ex h_is_graph hr tk (ca_cons (cv_var 3) ca_nil))) cv_bl.p))).t (css_one (cs_ret (cr_sh cv_bl))) css_nil)
    (css_cons (cs_for hp rfl (ci_rg1 h_range cv_int) (cg_name (vs := [0, 1, 2, 3, 4, 5, 6, 7, 8, 9]) 4 sc_law.nd) (css_cons (cs_set 5 sc_law.nd (cr_sh (cv_ifE (ct_cmp op_lt so_lt (cv_var 4) cv_int.p) (cv_fz (call_ex h__law_bent_whole hr tk (ca_bor 1 (ca_cons (cv_var 2) (ca_cons (cv_var 4) ca_nil))))) (cv_fz (call_ex h__law_bent_part hr tk (ca_bor 1 (ca_cons (cv_var 2) (ca_cons (cv_var 4) ca_nil))))))))
    (css_one (cs_if (ct_not (ct_val (cv_fz (call_ex h__law_is_judged hr tk (ca_cons (cv_var 5) ca_nil))).p)) (css_one (cs_ret (cr_sh cv_bl))) css_nil))))
    (css_cons (cs_set 6 sc_law.nd (cr_listRg rfl h_list h_range (cv_b1 call_len_seq sc_len h_len (cv_ixN 2 cv_int).p)))
    (css_cons (cs_if (ct_not (ct_val (cv_b1 (cr_all rfl) sc_all h_all (cv_fz (cr_lc [("question", 9)] rfl sc_law.nd (ci_seq (cv_var 6)) (blkOk_by (by rfl)) (fun _ _ _ _ _ => (cg_name (vs := [9]) 9 sc_law.nd)) (fun _ _ _ _ _ => cts_nil) (fun _ _ _ _ _ => (cv_fz (call_ex h__law_is_taken hr takes0 (ca_cons (cv_var 2) (ca_cons (cv_var 9) ca_nil))))))).p).p)) (css_one (cs_ret (cr_sh cv_bl))) css_nil)
    (css_cons (cs_if (ct_not (ct_val (cv_b1 (cr_all rfl) sc_all h_all (cv_fz (cr_lc [("question", 9)] rfl sc_law.nd (ci_rg1 h_range (cv_b1 call_len_seq sc_len h_len (cv_ixN 3 cv_int).p)) (blkOk_by (by rfl)) (fun _ _ _ _ _ => (cg_name (vs := [9]) 9 sc_law.nd)) (fun _ _ _ _ _ => cts_nil) (fun _ _ _ _ _ => (cv_fz (call_ex h__law_is_taken hr takes0 (ca_cons (cv_var 3) (ca_cons (cv_var 9) ca_nil))))))).p).p)) (css_one (cs_ret (cr_sh cv_bl))) css_nil)
    (css_cons (cs_set 7 sc_law.nd (call_ex h__law_pick hr tk (ca_bor 1 (ca_cons (cv_var 6) ca_nil))))
    (css_cons (cs_set 8 sc_law.nd (call_ex h__law_taken hr tk (ca_cons (cv_var 2) (ca_cons (cv_var 7) ca_nil))))
    (css_cons (cs_if (ct_not (ct_val (cv_b1 (cr_all rfl) sc_all h_all (cv_fz (cr_lc [("question", 9)] rfl sc_law.nd (ci_seq (cv_var 6)) (blkOk_by (by rfl)) (fun _ _ _ _ _ => (cg_name (vs := [9]) 9 sc_law.nd)) (fun _ _ _ _ _ => cts_nil) (fun _ _ _ _ _ => (cv_fz (call_ex h__law_is_taken hr takes0 (ca_cons (cv_var 8) (ca_cons (cv_var 9) ca_nil))))))).p).p)) (css_one (cs_ret (cr_sh cv_bl))) css_nil)
    (css_one (cs_ret (cr_sh (cv_and (cv_fz (call_ex h__law_is_taken hr tk (ca_cons (cv_var 2) (ca_cons (cv_var 7) ca_nil)))) (cv_and (cv_cmp op_isBl so_is (cv_fz (call_ex h_is_graph hr tk (ca_cons (cv_var 2) ca_nil))) cv_bl.p) (cv_one (cv_fz (call_ex h__law_is_judged hr tk (ca_cons (cv_fz (call_ex h__law_bent_part hr tk (ca_bor 1 (ca_cons (cv_var 3) (ca_cons cv_int ca_nil))))) ca_nil))))))))))))))))))))⟩) ok
end
end K59
/-! what each def promises, and that what it computes keeps it: the fractions -/
namespace K59
open PySem AL
def m_is_whole : FnM := fun args P _ => ∃ (x : A) (B : Nat), args = [.sh x] ∧ bnd B x = true ∧ P (.sh (.bl (isInt x))) []
theorem ok_is_whole (args : List Slot) (P : Res → List (List A) → Prop) (EP : Ex → Prop) (h : m_is_whole args P EP) : args.length = 1 ∧ denF den_is_whole 0 args P EP := by
  obtain ⟨x, B, rfl, hx, hP⟩ := h
  refine ⟨rfl, ?_⟩
  cases x with
  | scr _ => simp [bnd] at hx
  | lst _ => simp [bnd] at hx
  | _ => exact hP
theorem c_is_whole {x : A} {B : Nat} {P : Res → List (List A) → Prop} {EP : Ex → Prop} (hx : bnd B x = true) (h : P (.sh (.bl (isInt x))) []) : m_is_whole [.sh x] P EP := ⟨x, B, rfl, hx, h⟩
def isFr (x : A) : Bool := (frOf x).isSome
def m_is_fraction : FnM := fun args P _ => ∃ (x : A) (B : Nat), args = [.sh x] ∧ bnd B x = true ∧ P (.sh (.bl (isFr x))) []
theorem not_tup {x : A} (h : isTup x = false) (B : Nat) (hx : bnd B x = true) : isTy (tyN x) "tuple" = false := by
  rw [isTy_tuple]
  cases x <;> first | rfl | cases h
theorem ok_is_fraction (args : List Slot) (P : Res → List (List A) → Prop) (EP : Ex → Prop) (h : m_is_fraction args P EP) : args.length = 1 ∧ denF (den_is_fraction m_is_whole) 0 args P EP := by
  obtain ⟨x, B, rfl, hx, hP⟩ := h
  refine ⟨rfl, ?_⟩
  cases x with
  | scr _ => simp [bnd] at hx
  | lst _ => simp [bnd] at hx
  | tup xs =>
    rw [bnd_tup, bnds_iff] at hx
    refine And.intro (eqOk_int _) (And.intro (eqOk_int 2) ?_)
    match xs, hx, hP with
    | [], _, hP => exact iteY (by rw [eqA_int]; rfl) hP
    | [x], _, hP =>
      have e : isFr (.tup [x]) = false := by unfold isFr frOf; cases x <;> rfl
      rw [e] at hP
      exact iteY (by rw [eqA_int]; rfl) hP
    | a :: b :: c :: r, _, hP =>
      refine iteY (by rw [eqA_int]; simp; omega) ?_
      have : isFr (.tup (a :: b :: c :: r)) = false := by unfold isFr frOf; cases a <;> cases b <;> rfl
      rw [this] at hP; exact hP
    | [a, b], hx, hP =>
      refine iteN (by rw [eqA_int]; simp) ?_
      refine cV1 (c_is_whole (B := B) (hx a (by simp)) ?_)
      cases ha : isInt a with
      | false =>
        refine iteY (by rfl) ?_
        have : isFr (.tup [a, b]) = false := by unfold isFr frOf; cases a <;> cases b <;> first | rfl | cases ha
        rw [this] at hP; exact hP
      | true =>
        refine iteN (by simp) ?_
        refine cV1 (c_is_whole (B := B) (hx b (by simp)) ?_)
        cases hb : isInt b with
        | false =>
          refine iteY (by rfl) ?_
          have : isFr (.tup [a, b]) = false := by unfold isFr frOf; cases a <;> cases b <;> first | rfl | cases hb
          rw [this] at hP; exact hP
        | true =>
          refine iteN (by simp) ?_
          cases a <;> try cases ha
          cases b <;> try cases hb
          rename_i n d
          have hP : P (.sh (.bl (frOf (.tup [.int n, .int d])).isSome)) [] := hP
          rw [frOf_ii] at hP
          refine iteD (fun h1 => ?_) fun h1 => ?_
          · have h1 : 1 ≤ d := by simpa using h1
            refine And.intro (eqOk_int _) (And.intro (eqOk_int 1) ?_)
            show P (.sh (.bl (eqA (.int ((Nat.gcd n.natAbs d.natAbs : Nat) : Int)) (.int 1)))) []
            rw [eqA_int]
            by_cases h2 : Nat.gcd n.natAbs d.natAbs = 1
            · rw [if_pos ⟨h1, h2⟩] at hP
              rw [h2]; exact hP
            · rw [if_neg (fun z => h2 z.2)] at hP
              rw [decide_eq_false (by omega)]; exact hP
          · have h1 : ¬ 1 ≤ d := by simpa using h1
            rw [if_neg (fun z => h1 z.1)] at hP
            exact hP
  | _ => exact hP
theorem c_is_fraction {x : A} {B : Nat} {P : Res → List (List A) → Prop} {EP : Ex → Prop} (hx : bnd B x = true) (h : P (.sh (.bl (isFr x))) []) : m_is_fraction [.sh x] P EP := ⟨x, B, rfl, hx, h⟩
def m_is_amount : FnM := fun args P _ => ∃ (x : A) (B : Nat), args = [.sh x] ∧ bnd B x = true ∧ P (.sh (.bl (isAmt x))) []
theorem fr_ex {x : A} (h : isFr x = true) : ∃ q, x = qA q := by
  unfold isFr at h
  cases e : frOf x with
  | none => rw [e] at h; cases h
  | some q => exact ⟨q, frOf_eq e⟩
theorem isFr_q (q : Rat) : isFr (qA q) = true := by unfold isFr; rw [frOf_q]; rfl
theorem isAmt_no {x : A} (h : isFr x = false) : isAmt x = false := by
  unfold isFr at h
  unfold isAmt
  cases e : frOf x with
  | none => rfl
  | some q => rw [e] at h; cases h
theorem ok_is_amount (args : List Slot) (P : Res → List (List A) → Prop) (EP : Ex → Prop) (h : m_is_amount args P EP) : args.length = 1 ∧ denF (den_is_amount m_is_fraction) 0 args P EP := by
  obtain ⟨x, B, rfl, hx, hP⟩ := h
  refine ⟨rfl, cV1 (c_is_fraction hx ?_)⟩
  cases hf : isFr x with
  | false => rw [isAmt_no hf] at hP; exact hP
  | true =>
    obtain ⟨q, rfl⟩ := fr_ex hf
    rw [isAmt_q] at hP
    have e : decide ((0 : Int) ≤ q.num) = decide (0 ≤ q) := by simp only [Rat.num_nonneg]
    rw [← e] at hP
    exact hP
theorem c_is_amount {x : A} {B : Nat} {P : Res → List (List A) → Prop} {EP : Ex → Prop} (hx : bnd B x = true) (h : P (.sh (.bl (isAmt x))) []) : m_is_amount [.sh x] P EP := ⟨x, B, rfl, hx, h⟩
def m_fraction : FnM := fun args P _ => ∃ (n d : Int) (B : Nat), args = [.sh (.int n), .sh (.int d)] ∧ d ≠ 0 ∧ n.natAbs < 2 ^ B ∧ d.natAbs < 2 ^ B ∧ B ≤ 9000 ∧ P (.sh (qA (Rat.divInt n d))) []
theorem fr_end {n d : Int} {B : Nat} {P : A → Prop} (hp : 0 < d) (hn : n.natAbs < 2 ^ B) (hd : d.natAbs < 2 ^ B) (hB : B ≤ 9000) (h : P (qA (Rat.divInt n d))) :
    L2.CDivW n ((Nat.gcd n.natAbs d.natAbs : Nat) : Int) ∧ L2.CDivW d ((Nat.gcd n.natAbs d.natAbs : Nat) : Int) ∧ P (.tup [.int (n / ((Nat.gcd n.natAbs d.natAbs : Nat) : Int)), .int (d / ((Nat.gcd n.natAbs d.natAbs : Nat) : Int))]) := by
  have hg := gcdI_pos (a := n) hp
  have hgB := gcdI_lt (a := n) hp hd
  refine ⟨divOk hg hgB hB, divOk hg hgB hB, ?_⟩
  unfold qA at h
  rw [← fr_num hp, ← fr_den hp] at h
  exact h
theorem ok_fraction (args : List Slot) (P : Res → List (List A) → Prop) (EP : Ex → Prop) (h : m_fraction args P EP) : args.length = 2 ∧ denF den_fraction 1 args P EP := by
  obtain ⟨n, d, B, rfl, hd, hn, hdB, hB, hP⟩ := h
  refine ⟨rfl, And.intro (eqOk_int d) (And.intro (eqOk_int 0) (iteN (by rw [eqA_int]; simpa using hd) (iteD (fun hl => ?_) fun hl => ?_)))⟩
  · rw [← divInt_neg2] at hP
    have hp : 0 < -d := by
      have : d < 0 := by simpa using hl
      omega
    exact fr_end (P := fun z => P (.sh z) []) hp (by rw [Int.natAbs_neg]; exact hn) (by rw [Int.natAbs_neg]; exact hdB) hB hP
  · have hp : 0 < d := by
      have : ¬ d < 0 := by simpa using hl
      omega
    exact fr_end (P := fun z => P (.sh z) []) hp hn hdB hB hP
theorem c_fraction {n d : Int} {B : Nat} {P : Res → List (List A) → Prop} {EP : Ex → Prop} (hd : d ≠ 0) (hn : n.natAbs < 2 ^ B) (hdB : d.natAbs < 2 ^ B) (hB : B ≤ 9000) (h : P (.sh (qA (Rat.divInt n d))) []) : m_fraction [.sh (.int n), .sh (.int d)] P EP := ⟨n, d, B, rfl, hd, hn, hdB, hB, h⟩
/-- two fractions to a fraction -/
def m_op (f : Rat → Rat → Rat) (c : Rat → Rat → Prop) : FnM := fun args P _ => ∃ (a b : Rat) (B : Nat), args = [.sh (qA a), .sh (qA b)] ∧ Sz B a ∧ Sz B b ∧ c a b ∧ B ≤ 4000 ∧ P (.sh (qA (f a b))) []
theorem c_op {f : Rat → Rat → Rat} {c : Rat → Rat → Prop} {a b : Rat} (B : Nat) {P : Res → List (List A) → Prop} {EP : Ex → Prop} (ha : Sz B a) (hb : Sz B b) (hc : c a b) (hB : B ≤ 4000) (h : P (.sh (qA (f a b))) []) : m_op f c [.sh (qA a), .sh (qA b)] P EP := ⟨a, b, B, rfl, ha, hb, hc, hB, h⟩
abbrev m_plus : FnM := m_op (fun a b => a + b) fun _ _ => True
abbrev m_minus : FnM := m_op (fun a b => a - b) fun _ _ => True
abbrev m_times : FnM := m_op (fun a b => a * b) fun _ _ => True
abbrev m_over : FnM := m_op (fun a b => a / b) fun _ b => b ≠ 0
theorem ok_plus (args : List Slot) (P : Res → List (List A) → Prop) (EP : Ex → Prop) (h : m_plus args P EP) : args.length = 2 ∧ denF (den_plus m_fraction) 0 args P EP := by
  obtain ⟨a, b, B, rfl, ha, hb, hc, hB, hP⟩ := h
  refine ⟨rfl, And.intro (mulOk ha.n hb.dz (by omega)) (And.intro (mulOk hb.n ha.dz (by omega)) (And.intro (mulOk ha.dz hb.dz (by omega)) ?_))⟩
  refine cV2 (c_fraction (B := B + B + 1) (Int.mul_ne_zero (den0 a) (den0 b)) (na_add (na_mul ha.n hb.dz) (na_mul hb.n ha.dz)) (na_mulS ha.dz hb.dz (by omega)) (by omega) ?_)
  rw [q_add]; exact hP
theorem ok_minus (args : List Slot) (P : Res → List (List A) → Prop) (EP : Ex → Prop) (h : m_minus args P EP) : args.length = 2 ∧ denF (den_minus m_fraction) 0 args P EP := by
  obtain ⟨a, b, B, rfl, ha, hb, hc, hB, hP⟩ := h
  refine ⟨rfl, And.intro (mulOk ha.n hb.dz (by omega)) (And.intro (mulOk hb.n ha.dz (by omega)) (And.intro (mulOk ha.dz hb.dz (by omega)) ?_))⟩
  refine cV2 (c_fraction (B := B + B + 1) (Int.mul_ne_zero (den0 a) (den0 b)) (na_sub (na_mul ha.n hb.dz) (na_mul hb.n ha.dz)) (na_mulS ha.dz hb.dz (by omega)) (by omega) ?_)
  rw [q_sub]; exact hP
theorem ok_times (args : List Slot) (P : Res → List (List A) → Prop) (EP : Ex → Prop) (h : m_times args P EP) : args.length = 2 ∧ denF (den_times m_fraction) 0 args P EP := by
  obtain ⟨a, b, B, rfl, ha, hb, hc, hB, hP⟩ := h
  refine ⟨rfl, And.intro (mulOk ha.n hb.n (by omega)) (And.intro (mulOk ha.dz hb.dz (by omega)) ?_)⟩
  refine cV2 (c_fraction (B := B + B) (Int.mul_ne_zero (den0 a) (den0 b)) (na_mul ha.n hb.n) (na_mul ha.dz hb.dz) (by omega) ?_)
  rw [q_mul]; exact hP
theorem ok_over (args : List Slot) (P : Res → List (List A) → Prop) (EP : Ex → Prop) (h : m_over args P EP) : args.length = 2 ∧ denF (den_over m_fraction) 0 args P EP := by
  obtain ⟨a, b, B, rfl, ha, hb, hc, hB, hP⟩ := h
  refine ⟨rfl, And.intro (mulOk ha.n hb.dz (by omega)) (And.intro (mulOk ha.dz hb.n (by omega)) ?_)⟩
  refine cV2 (c_fraction (B := B + B) (Int.mul_ne_zero (den0 a) (num0 hc)) (na_mul ha.n hb.dz) (na_mul ha.dz hb.n) (by omega) ?_)
  rw [q_div]; exact hP
def m_less : FnM := fun args P _ => ∃ (a b : Rat) (B : Nat), args = [.sh (qA a), .sh (qA b)] ∧ Sz B a ∧ Sz B b ∧ B ≤ 400000 ∧ P (.sh (.bl (decide (a < b)))) []
theorem c_less {a b : Rat} (B : Nat) {P : Res → List (List A) → Prop} {EP : Ex → Prop} (ha : Sz B a) (hb : Sz B b) (hB : B ≤ 400000) (h : P (.sh (.bl (decide (a < b)))) []) : m_less [.sh (qA a), .sh (qA b)] P EP := ⟨a, b, B, rfl, ha, hb, hB, h⟩
theorem ok_less (args : List Slot) (P : Res → List (List A) → Prop) (EP : Ex → Prop) (h : m_less args P EP) : args.length = 2 ∧ denF den_less 0 args P EP := by
  obtain ⟨a, b, B, rfl, ha, hb, hB, hP⟩ := h
  refine ⟨rfl, And.intro (mulOk ha.n hb.dz (by omega)) (And.intro (mulOk hb.n ha.dz (by omega)) ?_)⟩
  have e : decide (a.num * (b.den : Int) < b.num * (a.den : Int)) = decide (a < b) := by simp only [Rat.lt_iff]
  rw [← e] at hP
  exact hP
/-- a row of fractions -/
def rowA (qs : List Rat) : A := .tup (qs.map qA)
structure SzL (B : Nat) (qs : List Rat) : Prop where
  at_ : ∀ q ∈ qs, Sz B q
def m_shared : FnM := fun args P _ => ∃ (qs : List Rat) (B : Nat), args = [.sh (rowA qs)] ∧ SzL B qs ∧ 0 < B ∧ qs.length ≤ 1000 ∧ B * qs.length + B ≤ 9000 ∧
  ∀ L : Int, 0 < L → (∀ q ∈ qs, (q.den : Int) ∣ L) → L.natAbs < 2 ^ (B * qs.length + 1) → P (.sh (.tup [.tup ((qs.map fun q => q.num * (L / q.den)).map A.int), .int L])) []
theorem get_map {α β : Type} {f : α → β} {xs : List α} {j : Nat} {y : β} (h : (xs.map f)[j]? = some y) : ∃ x, xs[j]? = some x ∧ y = f x := by
  rw [List.getElem?_map] at h
  cases e : xs[j]? with
  | none => rw [e] at h; cases h
  | some x => rw [e] at h; cases h; exact ⟨x, rfl, rfl⟩
theorem mem_of_get {α : Type} {xs : List α} {j : Nat} {x : α} (h : xs[j]? = some x) : x ∈ xs := List.mem_of_getElem? h
theorem ok_shared (args : List Slot) (P : Res → List (List A) → Prop) (EP : Ex → Prop) (h : m_shared args P EP) : args.length = 1 ∧ denF den_shared 3 args P EP := by
  obtain ⟨qs, B, rfl, hs, h0, hl, hB, hP⟩ := h
  refine ⟨rfl, ?_⟩
  refine for_inv (fun k e => ∃ (L : Int) (s2 s3 : Slot), e = [.sh (rowA qs), .sh (.int L), s2, s3] ∧ 0 < L ∧ (∀ j, j < k → ∀ q, qs[j]? = some q → (q.den : Int) ∣ L) ∧ L.natAbs < 2 ^ (B * k + 1)) ⟨1, _, _, rfl, by omega, fun j hj => absurd hj (Nat.not_lt_zero _), by simp⟩ (fun j x hx e he nx hn => ?_) fun e he => ?_
  · obtain ⟨q, hq, rfl⟩ := get_map hx
    obtain ⟨L, s2, s3, rfl, hL, hd, hLB⟩ := he
    have hz := hs.at_ q (mem_of_get hq)
    have hj : j < qs.length := (List.getElem?_eq_some_iff.mp hq).1
    have hjB : B * j + 1 + B ≤ B * qs.length + B := by
      have := Nat.mul_le_mul_left B (show j + 1 ≤ qs.length by omega)
      rw [Nat.mul_succ] at this; omega
    have hg := gcdI_pos (a := L) (denp q)
    have hgB := gcdI_lt (a := L) (denp q) hz.dz
    have hgL := gcdI_dl L q.den
    refine And.intro rfl ?_
    refine And.intro (divOk hg hgB (by omega)) (And.intro (mulOk (na_div hLB hg hgL) hz.dz (by omega)) ?_)
    refine hn _ ⟨_, _, _, rfl, ?_, ?_, ?_⟩
    · exact Int.mul_pos (div_pos' hL hg hgL) (denp q)
    · intro i hi p hp
      by_cases hij : i = j
      · subst hij
        rw [hq] at hp; cases hp
        exact Int.dvd_mul_left _ _
      · have h1 := hd i (by omega) p hp
        refine Int.dvd_trans h1 ?_
        obtain ⟨d', hd'⟩ := gcdI_dr L q.den
        obtain ⟨l', hl'⟩ := hgL
        refine ⟨d', ?_⟩
        show L / ((Nat.gcd L.natAbs (q.den : Int).natAbs : Nat) : Int) * (q.den : Int) = L * d'
        generalize ((Nat.gcd L.natAbs (q.den : Int).natAbs : Nat) : Int) = g at hg hd' hl' ⊢
        rw [hl', Int.mul_ediv_cancel_left _ (by omega : g ≠ 0), hd']
        grind
    · refine na_mulS (na_div hLB hg hgL) hz.dz ?_
      rw [Nat.mul_succ]; omega
  · obtain ⟨L, s2, s3, rfl, hL, hd, hLB⟩ := he
    rw [List.length_map] at hd hLB
    have hd' : ∀ q ∈ qs, (q.den : Int) ∣ L := fun q hq => by
      obtain ⟨j, hj, e⟩ := List.getElem_of_mem hq
      exact hd j hj q (by rw [List.getElem?_eq_getElem hj, e])
    have hfin := hP L hL hd' hLB
    refine comp_map (fun q : Rat => .int (q.num * (L / q.den))) qs (fun q hq k hk => ?_) hl ?_
    · have hz := hs.at_ q hq
      refine And.intro rfl ?_
      refine And.intro (divOk (denp q) hz.dz (by omega)) (And.intro (mulOk hz.n (na_div hLB (denp q) (hd' q hq)) (by omega)) ?_)
      exact hk _ rfl
    · rw [List.map_map] at hfin
      exact hfin
end K59
/-! what each def promises: totals, graphs judged -/
namespace K59
open PySem AL
theorem c_shared {qs : List Rat} (B : Nat) {P : Res → List (List A) → Prop} {EP : Ex → Prop} (hs : SzL B qs) (h0 : 0 < B) (hl : qs.length ≤ 1000) (hB : B * qs.length + B ≤ 9000)
    (h : ∀ L : Int, 0 < L → (∀ q ∈ qs, (q.den : Int) ∣ L) → L.natAbs < 2 ^ (B * qs.length + 1) → P (.sh (.tup [.tup ((qs.map fun q => q.num * (L / q.den)).map A.int), .int L])) []) : m_shared [.sh (rowA qs)] P EP := ⟨qs, B, rfl, hs, h0, hl, hB, h⟩
def m_total : FnM := fun args P _ => ∃ (qs : List Rat) (B : Nat), args = [.sh (rowA qs)] ∧ SzL B qs ∧ 0 < B ∧ qs.length ≤ 1000 ∧ B * qs.length + B + 1 + qs.length ≤ 9000 ∧ P (.sh (qA qs.sum)) []
theorem ok_total (args : List Slot) (P : Res → List (List A) → Prop) (EP : Ex → Prop) (h : m_total args P EP) : args.length = 1 ∧ denF (den_total m_shared m_fraction) 2 args P EP := by
  obtain ⟨qs, B, rfl, hs, h0, hl, hB, hP⟩ := h
  refine ⟨rfl, cV1 (c_shared B hs h0 hl (by omega) fun L hL hd hLB => ?_)⟩
  refine And.intro rfl ?_
  refine onInts ?_
  refine cV2 (c_fraction (B := B * qs.length + B + 1 + qs.length) (by omega) ?_ (na_up hLB (by omega)) (by omega) ?_)
  · have := na_sum (B := B * qs.length + B + 1) (xs := qs.map fun q => q.num * (L / q.den)) fun x hx => by
      obtain ⟨q, hq, rfl⟩ := List.mem_map.mp hx
      exact na_mulS (hs.at_ q hq).n (na_div hLB (denp q) (hd q hq)) (by omega)
    rw [List.length_map] at this
    exact this
  · rw [divInt_sum (by omega) hd]; exact hP
theorem c_total {qs : List Rat} (B : Nat) {P : Res → List (List A) → Prop} {EP : Ex → Prop} (hs : SzL B qs) (h0 : 0 < B) (hl : qs.length ≤ 1000) (hB : B * qs.length + B + 1 + qs.length ≤ 9000) (h : P (.sh (qA qs.sum)) []) : m_total [.sh (rowA qs)] P EP := ⟨qs, B, rfl, hs, h0, hl, hB, h⟩
/-- an amount row, judged -/
def frV (x : A) : Rat := (frOf x).getD 0
def amtRow (x : A) (n : Int) : Bool := match x with
  | .tup xs => decide ((xs.length : Int) = n) && (xs.all isAmt && !decide (1 < (xs.map frV).sum))
  | _ => false
theorem frV_rows (qs : List Rat) : (qs.map qA).map frV = qs := by
  rw [List.map_map]
  have : frV ∘ qA = id := funext fun q => by show (frOf (qA q)).getD 0 = q; rw [frOf_q]; rfl
  rw [this, List.map_id]
/-- a bound for things that are judged -/
abbrev BB : Nat := 1100
theorem sz_sum {B : Nat} (h0 : 0 < B) : ∀ {qs : List Rat}, SzL B qs → Sz ((B + 1) * qs.length + 1) qs.sum
  | [], _ => Sz.zero (by omega)
  | q :: qs, h => by
    rw [List.sum_cons, List.length_cons]
    have h1 := h.at_ q List.mem_cons_self
    have h2 := sz_sum h0 (qs := qs) ⟨fun z hz => h.at_ z (List.mem_cons_of_mem _ hz)⟩
    rw [← q_add]
    have e : (B + 1) * (qs.length + 1) + 1 = (B + ((B + 1) * qs.length + 1)) + 1 := by rw [Nat.mul_succ]; omega
    rw [e]
    refine sz_divInt (Int.mul_ne_zero (den0 _) (den0 _)) (na_add (na_mul h1.n h2.dz) (na_mulS h2.n h1.dz (by omega))) (na_mulS h1.dz h2.dz (by omega))
def m_is_amount_row : FnM := fun args P _ => ∃ (x : A) (n : Int), args = [.sh x, .sh (.int n)] ∧ bnd BB x = true ∧ n ≤ 7 ∧ P (.sh (.bl (amtRow x n))) []
theorem allAmt (xs : List A) : (xs.map fun x => A.bl (isAmt x)) = (xs.map isAmt).map A.bl := by rw [List.map_map]; rfl
theorem all_id {α : Type} (p : α → Bool) (xs : List α) : (xs.map p).all id = xs.all p := by rw [List.all_map]; rfl
theorem szl_of {B : Nat} {qs : List Rat} (h : bnds B (qs.map qA) = true) : SzL B qs := ⟨fun q hq => sz_of_bnd (bnds_iff.mp h (qA q) (List.mem_map_of_mem hq))⟩
theorem ok_is_amount_row (args : List Slot) (P : Res → List (List A) → Prop) (EP : Ex → Prop) (h : m_is_amount_row args P EP) : args.length = 2 ∧ denF (den_is_amount_row m_is_amount m_less m_total) 1 args P EP := by
  obtain ⟨x, n, rfl, hx, hn, hP⟩ := h
  refine ⟨rfl, ?_⟩
  cases x with
  | scr _ => simp [bnd] at hx
  | lst _ => simp [bnd] at hx
  | tup xs =>
    have hP : P (.sh (.bl (decide ((xs.length : Int) = n) && (xs.all isAmt && !decide (1 < (xs.map frV).sum))))) [] := hP
    rw [bnd_tup] at hx
    refine And.intro (eqOk_int _) (And.intro (eqOk_int _) (iteD (fun hne => ?_) fun heq => ?_))
    · have : ¬ (xs.length : Int) = n := by rw [eqA_int] at hne; simpa using hne
      rw [decide_eq_false this] at hP; exact hP
    · have hln : (xs.length : Int) = n := by rw [eqA_int] at heq; simpa using heq
      rw [decide_eq_true hln, Bool.true_and] at hP
      have h7 : xs.length ≤ 7 := by omega
      refine comp_self (fun x : A => .bl (isAmt x)) (fun x hx' k hk => cV1 (c_is_amount (bnds_iff.mp hx x hx') (hk _ rfl))) (by omega) ?_
      · rw [allAmt]
        refine onBools ?_
        refine iteD (fun hno => ?_) fun hyes => ?_
        · have : xs.all isAmt = false := by rw [all_id] at hno; simpa using hno
          rw [this] at hP; exact hP
        · have hall : xs.all isAmt = true := by rw [all_id] at hyes; simpa using hyes
          rw [hall, Bool.true_and] at hP
          obtain ⟨qs, rfl, hq⟩ := amts_ex hall
          rw [frV_rows] at hP
          rw [List.length_map] at h7
          have hs := szl_of hx
          refine cV1 (c_total BB hs (by decide) (by omega) (by have : BB * qs.length ≤ BB * 7 := Nat.mul_le_mul_left _ h7
                                                               unfold BB at *; omega) ?_)
          have hsum := sz_sum (B := BB) (by decide) hs
          refine cV2 (c_less (a := 1) (b := qs.sum) ((BB + 1) * qs.length + 1) (Sz.one (by omega)) hsum (by have : (BB + 1) * qs.length ≤ (BB + 1) * 7 := Nat.mul_le_mul_left _ h7
                                                                                                            unfold BB at *; omega) ?_)
          exact hP
  | _ => exact hP
end K59
/-! what each def promises: is_graph -/
namespace K59
open PySem AL
theorem c_is_amount_row {x : A} {n : Int} {P : Res → List (List A) → Prop} {EP : Ex → Prop} (hx : bnd BB x = true) (hn : n ≤ 7) (h : P (.sh (.bl (amtRow x n))) []) : m_is_amount_row [.sh x, .sh (.int n)] P EP := ⟨x, n, rfl, hx, hn, h⟩
/-- the i-th entry of row i is zero -/
def dgAt (ps : List A) (i : Nat) : Bool := match ps[i]? with
  | some (.tup row) => (match row[i]? with
    | some a => eqA a (qA 0)
    | none => false)
  | _ => false
def diagZ (ps : List A) : Bool := (List.range ps.length).all (dgAt ps)
/-- a graph, judged -/
def isGr (x : A) : Bool := match x with
  | .tup [.tup rs, .tup ps] => decide (1 ≤ (rs.length : Int)) && (decide ((rs.length : Int) ≤ 5) && (amtRow (.tup rs) rs.length && (decide (ps.length = rs.length) && (ps.all (fun row => amtRow row rs.length) && diagZ ps))))
  | _ => false
theorem isGr_2 {r p : A} (h : isTup r = false ∨ isTup p = false) : isGr (.tup [r, p]) = false := by
  unfold isGr
  rcases h with h | h
  · cases r <;> first | rfl | cases h
  · cases p <;> first | (cases h; done) | (cases r <;> rfl)
theorem isGr_n {xs : List A} (h : xs.length ≠ 2) : isGr (.tup xs) = false := by
  match xs, h with
  | [], _ => rfl
  | [a], _ => unfold isGr; cases a <;> rfl
  | [a, b], h => exact absurd rfl h
  | a :: b :: c :: r, _ => unfold isGr; cases a <;> cases b <;> rfl
/-- the judge of graphs: both is_graph and the law's own -/
def m_judge : FnM := fun args P _ => ∃ (x : A), args = [.sh x] ∧ bnd BB x = true ∧ P (.sh (.bl (isGr x))) []
theorem c_judge {x : A} {P : Res → List (List A) → Prop} {EP : Ex → Prop} (hx : bnd BB x = true) (h : P (.sh (.bl (isGr x))) []) : m_judge [.sh x] P EP := ⟨x, rfl, hx, h⟩
theorem amtRow_tup {x : A} {n : Int} (h : amtRow x n = true) : ∃ qs : List Rat, x = rowA qs ∧ (qs.length : Int) = n ∧ (∀ q ∈ qs, 0 ≤ q) ∧ qs.sum ≤ 1 := by
  unfold amtRow at h
  split at h
  · rename_i xs
    simp only [Bool.and_eq_true, decide_eq_true_eq] at h
    obtain ⟨qs, rfl, hq⟩ := amts_ex h.2.1
    rw [frV_rows, List.length_map] at h
    refine ⟨qs, rfl, h.1, hq, ?_⟩
    have := h.2.2
    simp at this
    exact Rat.not_lt.mp this
  · cases h
theorem boolsTab {n : Nat} {f : Nat → Bool} {P : List Bool → Prop} (h : P ((List.range n).map f)) : onSome (bls (tab n fun i => .bl (f i))) P := by
  have : (tab n fun i => A.bl (f i)) = ((List.range n).map f).map A.bl := by unfold tab; rw [List.map_map]; rfl
  rw [this]
  exact onBools h
theorem ok_is_graph (args : List Slot) (P : Res → List (List A) → Prop) (EP : Ex → Prop) (h : m_judge args P EP) : args.length = 1 ∧ denF (den_is_graph m_is_amount_row) 4 args P EP := by
  obtain ⟨x, rfl, hx, hP⟩ := h
  refine ⟨rfl, ?_⟩
  cases x with
  | scr _ => simp [bnd] at hx
  | lst _ => simp [bnd] at hx
  | tup xs =>
    rw [bnd_tup, bnds_iff] at hx
    refine And.intro (eqOk_int _) (And.intro (eqOk_int 2) (iteD (fun hne => ?_) fun heq => ?_))
    · rw [isGr_n (fun z => by rw [eqA_int, z] at hne; simp at hne)] at hP
      exact hP
    · have h2 : xs.length = 2 := by rw [eqA_int] at heq; simp at heq; omega
      match xs, h2, hx, hP with
      | [r, p], _, hx, hP =>
        refine And.intro rfl ?_
        cases r with
        | tup rs =>
          have hr := hx (.tup rs) (by simp)
          refine iteD (fun h1 => iteD (fun h5 => ?_) fun h5 => ?_) fun h1 => ?_
          · -- more than five
            have : ¬ ((rs.length : Int) ≤ 5) := by simpa using h5
            have e : isGr (.tup [.tup rs, p]) = false := by
              cases p with
              | tup ps => show (decide _ && (decide ((rs.length : Int) ≤ 5) && _)) = false; rw [decide_eq_false this]; simp
              | _ => exact isGr_2 (.inr rfl)
            rw [e] at hP; exact hP
          · have h5 : (rs.length : Int) ≤ 5 := by simpa using h5
            have h1 : 1 ≤ (rs.length : Int) := by simpa using h1
            refine cV2 (c_is_amount_row hr (by omega) ?_)
            refine iteD (fun ha => ?_) fun ha => ?_
            · have ha : amtRow (.tup rs) rs.length = false := by simpa using ha
              have e : isGr (.tup [.tup rs, p]) = false := by
                cases p with
                | tup ps => show (decide _ && (decide ((rs.length : Int) ≤ 5) && (amtRow (.tup rs) rs.length && _))) = false; rw [ha]; simp
                | _ => exact isGr_2 (.inr rfl)
              rw [e] at hP; exact hP
            · have ha : amtRow (.tup rs) rs.length = true := by simpa using ha
              cases p with
              | tup ps =>
                have hp := hx (.tup ps) (by simp)
                rw [bnd_tup, bnds_iff] at hp
                have hP : P (.sh (.bl (decide (1 ≤ (rs.length : Int)) && (decide ((rs.length : Int) ≤ 5) && (amtRow (.tup rs) rs.length && (decide (ps.length = rs.length) && (ps.all (fun row => amtRow row rs.length) && diagZ ps))))))) [] := hP
                rw [decide_eq_true h1, decide_eq_true h5, ha, Bool.true_and, Bool.true_and, Bool.true_and] at hP
                refine And.intro (eqOk_int _) (And.intro (eqOk_int _) (iteD (fun hl => ?_) fun hl => ?_))
                · have : ¬ ps.length = rs.length := by rw [eqA_int] at hl; simp at hl; omega
                  rw [decide_eq_false this] at hP; exact hP
                · have hl : ps.length = rs.length := by rw [eqA_int] at hl; simp at hl; omega
                  rw [decide_eq_true hl, Bool.true_and] at hP
                  refine comp_self (fun x : A => .bl (amtRow x rs.length)) (fun x hx' k hk => cV2 (c_is_amount_row (hp x hx') (by omega) (hk _ rfl))) (by omega) ?_
                  have em : (ps.map fun x => A.bl (amtRow x rs.length)) = (ps.map fun x => amtRow x rs.length).map A.bl := by rw [List.map_map]; rfl
                  rw [em]
                  refine onBools (iteD (fun hno => ?_) fun hyes => ?_)
                  · have : (ps.all fun row => amtRow row rs.length) = false := by rw [all_id] at hno; simpa using hno
                    rw [this] at hP; exact hP
                  · have hall : (ps.all fun row => amtRow row rs.length) = true := by rw [all_id] at hyes; simpa using hyes
                    rw [hall, Bool.true_and] at hP
                    refine And.intro (by omega) (And.intro (by omega) ?_)
                    refine comp_rg (fun i => .bl (dgAt ps i)) (fun i hi k hk => ?_) (by omega) ?_
                    · have hi : i < ps.length := by omega
                      have hrow := List.all_eq_true.mp hall ps[i] (List.getElem_mem hi)
                      obtain ⟨qs, e, hn, _, _⟩ := amtRow_tup hrow
                      have hq : i < qs.length := by omega
                      refine onAt_of (List.getElem?_eq_getElem hi) ?_
                      rw [e]
                      refine onAt_of (a := qA qs[i]) (by rw [List.getElem?_map, List.getElem?_eq_getElem hq]; rfl) ?_
                      refine And.intro (eqOk_q _) (And.intro (eqOk_q 0) ?_)
                      have e2 : dgAt ps i = eqA (qA qs[i]) (qA 0) := by
                        unfold dgAt
                        rw [List.getElem?_eq_getElem hi, e]
                        show (match (qs.map qA)[i]? with | some a => eqA a (qA 0) | none => false) = _
                        rw [List.getElem?_map, List.getElem?_eq_getElem hq]; rfl
                      rw [e2] at hk
                      exact hk _ rfl
                    · refine boolsTab ?_
                      rw [all_id]
                      exact hP
              | scr _ => have := hx _ (List.mem_cons_of_mem _ List.mem_cons_self); simp [bnd] at this
              | lst _ => have := hx _ (List.mem_cons_of_mem _ List.mem_cons_self); simp [bnd] at this
              | _ => exact hP
          · have : ¬ (1 ≤ (rs.length : Int)) := by simpa using h1
            have e : isGr (.tup [.tup rs, p]) = false := by
              cases p with
              | tup ps => show (decide (1 ≤ (rs.length : Int)) && _) = false; rw [decide_eq_false this]; simp
              | _ => exact isGr_2 (.inr rfl)
            rw [e] at hP; exact hP
        | scr _ => have := hx _ List.mem_cons_self; simp [bnd] at this
        | lst _ => have := hx _ List.mem_cons_self; simp [bnd] at this
        | _ => exact hP
  | _ => exact hP
theorem ok__law_is_right (args : List Slot) (P : Res → List (List A) → Prop) (EP : Ex → Prop) (h : m_judge args P EP) : args.length = 1 ∧ denF (den__law_is_right m_is_amount_row) 4 args P EP := by
  obtain ⟨x, rfl, hx, hP⟩ := h
  refine ⟨rfl, ?_⟩
  cases x with
  | scr _ => simp [bnd] at hx
  | lst _ => simp [bnd] at hx
  | tup xs =>
    rw [bnd_tup, bnds_iff] at hx
    refine And.intro (eqOk_int _) (And.intro (eqOk_int 2) (iteD (fun hne => ?_) fun heq => ?_))
    · rw [isGr_n (fun z => by rw [eqA_int, z] at hne; simp at hne)] at hP
      exact hP
    · have h2 : xs.length = 2 := by rw [eqA_int] at heq; simp at heq; omega
      match xs, h2, hx, hP with
      | [r, p], _, hx, hP =>
        refine And.intro rfl ?_
        cases r with
        | tup rs =>
          have hr := hx (.tup rs) (by simp)
          refine iteD (fun h1 => iteD (fun h5 => ?_) fun h5 => ?_) fun h1 => ?_
          · -- more than five
            have : ¬ ((rs.length : Int) ≤ 5) := by simpa using h5
            have e : isGr (.tup [.tup rs, p]) = false := by
              cases p with
              | tup ps => show (decide _ && (decide ((rs.length : Int) ≤ 5) && _)) = false; rw [decide_eq_false this]; simp
              | _ => exact isGr_2 (.inr rfl)
            rw [e] at hP; exact hP
          · have h5 : (rs.length : Int) ≤ 5 := by simpa using h5
            have h1 : 1 ≤ (rs.length : Int) := by simpa using h1
            refine cV2 (c_is_amount_row hr (by omega) ?_)
            refine iteD (fun ha => ?_) fun ha => ?_
            · have ha : amtRow (.tup rs) rs.length = false := by simpa using ha
              have e : isGr (.tup [.tup rs, p]) = false := by
                cases p with
                | tup ps => show (decide _ && (decide ((rs.length : Int) ≤ 5) && (amtRow (.tup rs) rs.length && _))) = false; rw [ha]; simp
                | _ => exact isGr_2 (.inr rfl)
              rw [e] at hP; exact hP
            · have ha : amtRow (.tup rs) rs.length = true := by simpa using ha
              cases p with
              | tup ps =>
                have hp := hx (.tup ps) (by simp)
                rw [bnd_tup, bnds_iff] at hp
                have hP : P (.sh (.bl (decide (1 ≤ (rs.length : Int)) && (decide ((rs.length : Int) ≤ 5) && (amtRow (.tup rs) rs.length && (decide (ps.length = rs.length) && (ps.all (fun row => amtRow row rs.length) && diagZ ps))))))) [] := hP
                rw [decide_eq_true h1, decide_eq_true h5, ha, Bool.true_and, Bool.true_and, Bool.true_and] at hP
                refine And.intro (eqOk_int _) (And.intro (eqOk_int _) (iteD (fun hl => ?_) fun hl => ?_))
                · have : ¬ ps.length = rs.length := by rw [eqA_int] at hl; simp at hl; omega
                  rw [decide_eq_false this] at hP; exact hP
                · have hl : ps.length = rs.length := by rw [eqA_int] at hl; simp at hl; omega
                  rw [decide_eq_true hl, Bool.true_and] at hP
                  refine comp_self (fun x : A => .bl (amtRow x rs.length)) (fun x hx' k hk => cV2 (c_is_amount_row (hp x hx') (by omega) (hk _ rfl))) (by omega) ?_
                  have em : (ps.map fun x => A.bl (amtRow x rs.length)) = (ps.map fun x => amtRow x rs.length).map A.bl := by rw [List.map_map]; rfl
                  rw [em]
                  refine onBools (iteD (fun hno => ?_) fun hyes => ?_)
                  · have : (ps.all fun row => amtRow row rs.length) = false := by rw [all_id] at hno; simpa using hno
                    rw [this] at hP; exact hP
                  · have hall : (ps.all fun row => amtRow row rs.length) = true := by rw [all_id] at hyes; simpa using hyes
                    rw [hall, Bool.true_and] at hP
                    refine And.intro (by omega) (And.intro (by omega) ?_)
                    refine comp_rg (fun i => .bl (dgAt ps i)) (fun i hi k hk => ?_) (by omega) ?_
                    · have hi : i < ps.length := by omega
                      have hrow := List.all_eq_true.mp hall ps[i] (List.getElem_mem hi)
                      obtain ⟨qs, e, hn, _, _⟩ := amtRow_tup hrow
                      have hq : i < qs.length := by omega
                      refine onAt_of (List.getElem?_eq_getElem hi) ?_
                      rw [e]
                      refine onAt_of (a := qA qs[i]) (by rw [List.getElem?_map, List.getElem?_eq_getElem hq]; rfl) ?_
                      refine And.intro (eqOk_q _) (And.intro (eqOk_q 0) ?_)
                      have e2 : dgAt ps i = eqA (qA qs[i]) (qA 0) := by
                        unfold dgAt
                        rw [List.getElem?_eq_getElem hi, e]
                        show (match (qs.map qA)[i]? with | some a => eqA a (qA 0) | none => false) = _
                        rw [List.getElem?_map, List.getElem?_eq_getElem hq]; rfl
                      rw [e2] at hk
                      exact hk _ rfl
                    · refine boolsTab ?_
                      rw [all_id]
                      exact hP
              | scr _ => have := hx _ (List.mem_cons_of_mem _ List.mem_cons_self); simp [bnd] at this
              | lst _ => have := hx _ (List.mem_cons_of_mem _ List.mem_cons_self); simp [bnd] at this
              | _ => exact hP
          · have : ¬ (1 ≤ (rs.length : Int)) := by simpa using h1
            have e : isGr (.tup [.tup rs, p]) = false := by
              cases p with
              | tup ps => show (decide (1 ≤ (rs.length : Int)) && _) = false; rw [decide_eq_false this]; simp
              | _ => exact isGr_2 (.inr rfl)
            rw [e] at hP; exact hP
        | scr _ => have := hx _ List.mem_cons_self; simp [bnd] at this
        | lst _ => have := hx _ List.mem_cons_self; simp [bnd] at this
        | _ => exact hP
  | _ => exact hP
end K59
/-! what each def promises: passed_part, without -/
namespace K59
open PySem AL
theorem tab_row (n : Nat) (r : Nat → Rat) : tab n (fun i => qA (r i)) = ((List.range n).map r).map qA := by unfold tab; rw [List.map_map]; rfl
theorem sum_sm (r : Nat → Rat) : ∀ n, ((List.range n).map r).sum = sm n r
  | 0 => rfl
  | n + 1 => by
    rw [List.range_succ, List.map_append, List.sum_append, sum_sm r n]
    show sm n r + (r n + 0) = sm n r + r n
    rw [Rat.add_zero]
theorem amt_ok {n : Nat} {r : Nat → Rat} (h0 : ∀ i, i < n → 0 ≤ r i) (h1 : sm n r ≤ 1) {k : Int} (hk : (n : Int) = k) : amtRow (ratesA n r) k = true := by
  unfold ratesA amtRow
  show (decide (((tab n fun i => qA (r i)).length : Int) = k) && ((tab n fun i => qA (r i)).all isAmt && !decide (1 < ((tab n fun i => qA (r i)).map frV).sum))) = true
  rw [tab_length, decide_eq_true hk, tab_row, frV_rows, sum_sm, Bool.true_and, Bool.and_eq_true]
  refine ⟨List.all_eq_true.mpr fun x hx => ?_, ?_⟩
  · obtain ⟨q, hq, rfl⟩ := List.mem_map.mp hx
    obtain ⟨i, hi, rfl⟩ := List.mem_map.mp hq
    rw [isAmt_q]
    exact decide_eq_true (h0 i (by simpa using hi))
  · rw [decide_eq_false (Rat.not_lt.mpr h1)]; rfl
theorem isGr_ok {n : Nat} {r : Nat → Rat} {p : Nat → Nat → Rat} (g : GOk n r p) : isGr (gA n r p) = true := by
  have n1 := g.n1
  have n5 := g.n5
  show (decide (1 ≤ ((tab n fun i => qA (r i)).length : Int)) && (decide (((tab n fun i => qA (r i)).length : Int) ≤ 5) && (amtRow (ratesA n r) ((tab n fun i => qA (r i)).length : Int) && (decide ((tab n fun i => ratesA n (p i)).length = (tab n fun i => qA (r i)).length) &&
    ((tab n fun i => ratesA n (p i)).all (fun row => amtRow row ((tab n fun i => qA (r i)).length : Int)) && diagZ (tab n fun i => ratesA n (p i))))))) = true
  rw [tab_length, tab_length, decide_eq_true (by omega), decide_eq_true (by omega), amt_ok g.r0 g.r1 rfl, decide_eq_true rfl, Bool.true_and, Bool.true_and, Bool.true_and, Bool.true_and, Bool.and_eq_true]
  refine ⟨List.all_eq_true.mpr fun x hx => ?_, List.all_eq_true.mpr fun i hi => ?_⟩
  · unfold tab at hx
    obtain ⟨i, hi, rfl⟩ := List.mem_map.mp hx
    have hi : i < n := by simpa using hi
    exact amt_ok (fun j hj => g.p0 i j hi hj) (g.p1 i hi) rfl
  · rw [tab_length] at hi
    have hi : i < n := by simpa using hi
    unfold dgAt
    rw [tab_get hi]
    show (match (tab n fun j => qA (p i j))[i]? with | some a => eqA a (qA 0) | none => false) = true
    rw [tab_get hi]
    show eqA (qA (p i i)) (qA 0) = true
    rw [eqA_q, g.d0 i hi]
    exact decide_eq_true rfl
/-- one place of the rows behind q's going -/
def m_part : FnM := fun args P _ => ∃ (n B q i j : Nat) (r : Nat → Rat) (p : Nat → Nat → Rat), args = [.sh (passesA n p), .sh (.int q), .sh (.int i), .sh (.int j)] ∧ GSz n B r p ∧ q < n ∧ i < n ∧ j < n ∧ B ≤ 400 ∧ P (.sh (qA (takenP p q i j))) []
theorem c_part {n B q i j : Nat} {r : Nat → Rat} {p : Nat → Nat → Rat} {P : Res → List (List A) → Prop} {EP : Ex → Prop} (g : GSz n B r p) (hq : q < n) (hi : i < n) (hj : j < n) (hB : B ≤ 400) (h : P (.sh (qA (takenP p q i j))) []) :
    m_part [.sh (passesA n p), .sh (.int q), .sh (.int i), .sh (.int j)] P EP := ⟨n, B, q, i, j, r, p, rfl, g, hq, hi, hj, hB, h⟩
theorem tk_z {p : Nat → Nat → Rat} {q i j : Nat} (h : i = j ∨ i = q ∨ j = q) : takenP p q i j = 0 := by unfold takenP; rw [if_pos h]
theorem nat_of {i j : Nat} (h : eqA (.int i) (.int j) = true) : i = j := by
  rw [eqA_int] at h
  have := of_decide_eq_true h
  omega
theorem nat_no {i j : Nat} (h : ¬ eqA (.int i) (.int j) = true) : ¬ i = j := fun z => h (by rw [eqA_int, z]; simp)
theorem ok_passed_part (args : List Slot) (P : Res → List (List A) → Prop) (EP : Ex → Prop) (h : m_part args P EP) : args.length = 4 ∧ denF (den_passed_part m_minus m_times m_over m_plus) 1 args P EP := by
  obtain ⟨n, B, q, i, j, r, p, rfl, g, hq, hi, hj, hB, hP⟩ := h
  have b0 := g.b0
  refine ⟨rfl, And.intro (eqOk_int _) (And.intro (eqOk_int _) (iteD (fun h1 => ?_) fun h1 => ?_))⟩
  · rw [tk_z (.inl (nat_of h1))] at hP; exact hP
  have h1 := nat_no h1
  refine And.intro (eqOk_int _) (And.intro (eqOk_int _) (iteD (fun h2 => ?_) fun h2 => ?_))
  · rw [tk_z (.inr (.inl (nat_of h2)))] at hP; exact hP
  have h2 := nat_no h2
  refine And.intro (eqOk_int _) (And.intro (eqOk_int _) (iteD (fun h3 => ?_) fun h3 => ?_))
  · rw [tk_z (.inr (.inr (nat_of h3)))] at hP; exact hP
  have h3 := nat_no h3
  unfold takenP at hP
  rw [if_neg (fun z => by rcases z with z | z | z; exact h1 z; exact h2 z; exact h3 z)] at hP
  refine onTab hi (onTab hq (onTab hq (onTab hi ?_)))
  refine cV2 (c_op B (g.p i q hi hq) (g.p q i hq hi) trivial (by omega) ?_)
  have hz := (Sz.one (B := B + B) (by omega)).sub ((g.p i q hi hq).mul (g.p q i hq hi))
  refine cV2 (c_op (a := 1) (B + B) (Sz.one (by omega)) ((g.p i q hi hq).mul (g.p q i hq hi)) trivial (by omega) ?_)
  refine And.intro (eqOk_q _) (And.intro (eqOk_q 0) (iteD (fun h4 => ?_) fun h4 => ?_))
  · have h4 : 1 - p i q * p q i = 0 := by rw [show a_ZERO = qA 0 from rfl, eqA_q] at h4; simpa using h4
    rw [if_pos (by grind)] at hP
    exact hP
  · have h4 : ¬ (1 - p i q * p q i = 0) := fun z => h4 (by show eqA (qA (1 - p i q * p q i)) (qA 0) = true; rw [eqA_q, z]; simp)
    rw [if_neg (by grind)] at hP
    refine onTab hi (onTab hj (onTab hi (onTab hq (onTab hq (onTab hj ?_)))))
    refine cV2 (c_op B (g.p i q hi hq) (g.p q j hq hj) trivial (by omega) ?_)
    refine cV2 (c_op (B + B) ((g.p i j hi hj).mono (by omega)) ((g.p i q hi hq).mul (g.p q j hq hj)) trivial (by omega) ?_)
    exact cV2 (c_op (B + B + (B + B) + 1) (((g.p i j hi hj).mono (show B ≤ B + B by omega)).add ((g.p i q hi hq).mul (g.p q j hq hj))) hz h4 (by omega) hP)
theorem ok__law_taken_part (args : List Slot) (P : Res → List (List A) → Prop) (EP : Ex → Prop) (h : m_part args P EP) : args.length = 4 ∧ denF (den__law_taken_part m_times m_over m_minus m_plus) 2 args P EP := by
  obtain ⟨n, B, q, i, j, r, p, rfl, g, hq, hi, hj, hB, hP⟩ := h
  have b0 := g.b0
  refine ⟨rfl, And.intro (eqOk_int _) (And.intro (eqOk_int _) (iteD (fun h1 => ?_) fun h1 => ?_))⟩
  · rw [tk_z (.inl (nat_of h1))] at hP; exact hP
  have h1 := nat_no h1
  refine And.intro (eqOk_int _) (And.intro (eqOk_int _) (iteD (fun h2 => ?_) fun h2 => ?_))
  · rw [tk_z (.inr (.inl (nat_of h2)))] at hP; exact hP
  have h2 := nat_no h2
  refine And.intro (eqOk_int _) (And.intro (eqOk_int _) (iteD (fun h3 => ?_) fun h3 => ?_))
  · rw [tk_z (.inr (.inr (nat_of h3)))] at hP; exact hP
  have h3 := nat_no h3
  unfold takenP at hP
  rw [if_neg (fun z => by rcases z with z | z | z; exact h1 z; exact h2 z; exact h3 z)] at hP
  refine onTab hi (onTab hq (onTab hq (onTab hi ?_)))
  refine cV2 (c_op B (g.p i q hi hq) (g.p q i hq hi) trivial (by omega) ?_)
  have hz := (Sz.one (B := B + B) (by omega)).sub ((g.p i q hi hq).mul (g.p q i hq hi))
  refine And.intro (eqOk_q _) (And.intro (eqOk_q 1) (iteD (fun h4 => ?_) fun h4 => ?_))
  · have h4 : p i q * p q i = 1 := by
      have h4 : eqA (qA (p i q * p q i)) (qA 1) = true := h4
      rw [eqA_q] at h4; simpa using h4
    rw [if_pos h4] at hP
    exact hP
  · have h4 : ¬ (p i q * p q i = 1) := fun z => h4 (by show eqA (qA (p i q * p q i)) (qA 1) = true; rw [eqA_q, z]; simp)
    rw [if_neg h4] at hP
    refine onTab hi (onTab hq (onTab hq (onTab hj ?_)))
    refine cV2 (c_op B (g.p i q hi hq) (g.p q j hq hj) trivial (by omega) ?_)
    refine onTab hi (onTab hj ?_)
    refine cV2 (c_op (B + B) ((g.p i j hi hj).mono (by omega)) ((g.p i q hi hq).mul (g.p q j hq hj)) trivial (by omega) ?_)
    refine cV2 (c_op (a := 1) (B + B) (Sz.one (by omega)) ((g.p i q hi hq).mul (g.p q i hq hi)) trivial (by omega) ?_)
    exact cV2 (c_op (B + B + (B + B) + 1) (((g.p i j hi hj).mono (show B ≤ B + B by omega)).add ((g.p i q hi hq).mul (g.p q j hq hj))) hz (by grind) (by omega) hP)
/-- the graph that is left -/
def m_without : FnM := fun args P _ => ∃ (n B q : Nat) (r : Nat → Rat) (p : Nat → Nat → Rat), args = [.sh (gA n r p), .sh (.int q)] ∧ GSz n B r p ∧ q < n ∧ B ≤ 400 ∧ P (.sh (gA n (takenR r p q) (takenP p q))) []
theorem c_without {n B q : Nat} {r : Nat → Rat} {p : Nat → Nat → Rat} {P : Res → List (List A) → Prop} {EP : Ex → Prop} (g : GSz n B r p) (hq : q < n) (hB : B ≤ 400) (h : P (.sh (gA n (takenR r p q) (takenP p q))) []) :
    m_without [.sh (gA n r p), .sh (.int q)] P EP := ⟨n, B, q, r, p, rfl, g, hq, hB, h⟩
theorem tab_succ (n : Nat) (f : Nat → A) : tab (n + 1) f = tab n f ++ [f n] := by unfold tab; rw [List.range_succ, List.map_append]; rfl
theorem line5 {n : Nat} (h : n < 1000) : n < sizeLine := Nat.lt_of_lt_of_le h (by decide)
theorem ok_without (args : List Slot) (P : Res → List (List A) → Prop) (EP : Ex → Prop) (h : m_without args P EP) : args.length = 2 ∧ denF (den_without m_plus m_times m_part) 9 args P EP := by
  obtain ⟨n, B, q, r, p, rfl, g, hq, hB, hP⟩ := h
  have b0 := g.b0
  have n5 := g.n5
  refine ⟨rfl, And.intro rfl ?_⟩
  have hl : ((tab n fun i => qA (r i)).length : Int) = n := by rw [tab_length]
  refine And.intro (by rw [hl]; omega) (And.intro (by rw [hl]; omega) ?_)
  rw [show ((((tab n fun i => qA (r i)).length : Int)).toNat) = n by rw [hl]; omega]
  refine for_rg (fun k e => ∃ L s6 s7, L = (tab k fun i => qA (takenR r p q i)) ∧ e = [.sh (gA n r p), .sh (.int q), .sh (ratesA n r), .sh (passesA n p), .sh (.int ((tab n fun i => qA (r i)).length : Int)), .ow false L, s6, s7, .no, .no, .no]) ⟨_, _, _, rfl, rfl⟩ (fun k hk e he nx hn => ?_) fun e he => ?_
  · obtain ⟨L, s6, s7, rfl, rfl⟩ := he
    refine onTab hk (onTab hq (onTab hq (onTab hk ?_)))
    refine cV2 (c_op B (g.r q hq) (g.p q k hq hk) trivial (by omega) ?_)
    refine cV2 (c_op (B + B) ((g.r k hk).mono (by omega)) ((g.r q hq).mul (g.p q k hq hk)) trivial (by omega) ?_)
    refine And.intro (eqOk_int _) (And.intro (eqOk_int _) (iteD (fun h1 => ?_) fun h1 => ?_))
    · refine And.intro (by rw [tab_length]; exact line5 (by omega)) (hn _ ⟨_, _, _, ?_, rfl⟩)
      rw [tab_succ]
      have e : takenR r p q k = 0 := by unfold takenR; rw [if_pos (nat_of h1)]
      rw [e]; rfl
    · refine And.intro (by rw [tab_length]; exact line5 (by omega)) (hn _ ⟨_, _, _, ?_, rfl⟩)
      rw [tab_succ]
      have e : takenR r p q k = r k + r q * p q k := by unfold takenR; rw [if_neg (nat_no h1)]
      rw [e]
  · obtain ⟨L, s6, s7, rfl, rfl⟩ := he
    refine And.intro (by rw [hl]; omega) (And.intro (by rw [hl]; omega) ?_)
    rw [show ((((tab n fun i => qA (r i)).length : Int)).toNat) = n by rw [hl]; omega]
    refine comp_rg (fun i => .tup (tab n fun j => qA (takenP p q i j))) (fun i hi k hk => ?_) (by omega) ?_
    · refine And.intro (by rw [hl]; omega) (And.intro (by rw [hl]; omega) ?_)
      rw [show ((((tab n fun i => qA (r i)).length : Int)).toNat) = n by rw [hl]; omega]
      refine comp_rg (fun j => qA (takenP p q i j)) (fun j hj k' hk' => ?_) (by omega) ?_
      · exact cV4 (c_part g hq hi hj hB (hk' _ rfl))
      · exact hk _ rfl
    · exact hP
end K59
/-! what each def promises: the law's draws, its gcd -/
namespace K59
open PySem AL
/-- the script as it is drawn from -/
def DOk (xs : List A) : Prop := ∃ (ns : List Int) (a b c : Int), xs = [.lst (ns.map A.int), .int a, .int b, .int c] ∧ 0 ≤ a
def m__law_begin : FnM := fun args P _ => ∃ ns : List Int, args = [.sh (.scr ns)] ∧ ns.length ≤ 1000 ∧ ∀ dl, DOk dl → P (.ow dl) []
theorem ok__law_begin (args : List Slot) (P : Res → List (List A) → Prop) (EP : Ex → Prop) (h : m__law_begin args P EP) : args.length = 1 ∧ denF den__law_begin 1 args P EP := by
  obtain ⟨ns, rfl, hl, hP⟩ := h
  refine ⟨rfl, ?_⟩
  refine comp_map (toA := A.int) A.int ns (fun x hx k hk => hk _ rfl) hl ?_
  exact hP _ ⟨ns, 0, 0, 5, rfl, by omega⟩
theorem c_begin {ns : List Int} {P : Res → List (List A) → Prop} {EP : Ex → Prop} (hl : ns.length ≤ 1000) (h : ∀ dl, DOk dl → P (.ow dl) []) : m__law_begin [.sh (.scr ns)] P EP := ⟨ns, rfl, hl, h⟩
theorem emod_nat {a m : Int} (h : 0 < m) : ∃ r : Nat, a % m = r ∧ (r : Int) < m := by
  have h1 := Int.emod_nonneg a (show m ≠ 0 by omega)
  have h2 := Int.emod_lt_of_pos a h
  exact ⟨(a % m).toNat, by omega, by omega⟩
def m_draw : FnM := fun args P _ => ∃ (dl : List A) (m : Int), args = [.ow true dl, .sh (.int m)] ∧ DOk dl ∧ 0 < m ∧ m < 2 ^ 64 ∧ ∀ (r : Nat) dl', (r : Int) < m → DOk dl' → P (.sh (.int r)) [dl']
theorem c_draw {dl : List A} {m : Int} {P : Res → List (List A) → Prop} {EP : Ex → Prop} (hd : DOk dl) (h0 : 0 < m) (h1 : m < 2 ^ 64) (h : ∀ (r : Nat) dl', (r : Int) < m → DOk dl' → P (.sh (.int r)) [dl']) : m_draw [.ow true dl, .sh (.int m)] P EP := ⟨dl, m, rfl, hd, h0, h1, h⟩
theorem draw_end {m x : Int} {dl : List A} {P : Res → List (List A) → Prop} (h0 : 0 < m) (hd : DOk dl) (h : ∀ (r : Nat) dl', (r : Int) < m → DOk dl' → P (.sh (.int r)) [dl']) : 0 < m ∧ P (.sh (.int (x % m))) [dl] := by
  obtain ⟨r, e, hr⟩ := emod_nat (a := x) h0
  rw [e]
  exact ⟨h0, h r dl hr hd⟩
theorem div_small {i m : Int} (h0 : 0 < m) (h1 : m < 2 ^ 64) : L2.CDivW i m := divOk (B := 64) h0 (by omega) (by decide)
theorem ok__law_draw (args : List Slot) (P : Res → List (List A) → Prop) (EP : Ex → Prop) (h : m_draw args P EP) : args.length = 2 ∧ denF den__law_draw 3 args P EP := by
  obtain ⟨dl, m, rfl, ⟨ns, a, b, c, rfl, ha⟩, h0, h1, hP⟩ := h
  refine ⟨rfl, iteD (fun hb => ?_) fun hb => ?_⟩
  · refine And.intro (div_small h0 h1) ?_
    exact draw_end h0 ⟨ns, a, b / m, c, rfl, ha⟩ hP
  · have rest : ∀ (size : Int) (s4 : Slot), 
        (cSeq (cAugIx 0 (cK (.int 1)) (cK (.int 1)))
    (cSeq (cIf (cB (cOp fGe (cVar 3) (cOp fMul (cK (.int 2)) (cOp fPow (cK (.int 10)) (cK (.int 18)))))) (cSeq (cSet 2 (cSh (cOp fMod (cUn fInt (cOp fDiv (cVar 3) (cK (.int 2)))) (cOp fShl (cK (.int 1)) (cK (.int 6000))))))
    (cSeq (cSetIx 0 (cOp fDiv (cVar 2) (cPeek 1)) (cK (.int 2)))
    (cRet (cSh (cOp fMod (cUn fInt (cPeek 2)) (cPeek 1)))))) cNext)
    (cSeq (cSetIx 0 (cOp fMod (cUn fInt (cOp fAdd (cOp fAdd (cOp fAdd (cOp fMul (cIxN 0 (cK (.int 3))) (cK (.int 48271))) (cOp fMul (cOp fMod (cUn fInt (cPeek 3)) (cK (.int 2147483629))) (cK (.int 16807)))) (cOp fMul (cIxN 0 (cK (.int 1))) (cK (.int 69621)))) (cK (.int 11)))) (cK (.int 2147483647))) (cK (.int 3)))
    (cRet (cSh (cOp fMod (cUn fInt (cOp fDiv (cIxN 0 (cK (.int 3))) (cK (.int 16)))) (cPeek 1)))))))
        { nx := fun e => AL.collect [Slot.ow true [.lst (ns.map A.int), .int a, .int b, .int c], Slot.sh (.int m)] e fun o => P (.sh .non) o, rt := fun r e => AL.collect [Slot.ow true [.lst (ns.map A.int), .int a, .int b, .int c], Slot.sh (.int m)] e fun o => P r o, bk := fun _ => False, ct := fun _ => False }
        (fun x _ => noPin [Slot.ow true [.lst (ns.map A.int), .int a, .int b, .int c], Slot.sh (.int m)] = true ∧ EP x)
        [.ow true [.lst (ns.map A.int), .int a, .int b, .int c], .sh (.int m), .no, .sh (.int size), s4] := fun size s4 => by
      refine And.intro (by decide) (And.intro (by decide) (And.intro (show (1 : Nat) < 4 by decide) ?_))
      refine And.intro ⟨by decide, by decide, by decide⟩ (And.intro (mulOkL (by decide)) (iteD (fun hs => ?_) fun hs => ?_))
      · refine And.intro (div_small (by decide) (by decide)) ?_
        refine And.intro ⟨by decide, by decide, by decide⟩ (And.intro ?_ ?_)
        · show (0 : Int) < 1 * 2 ^ (6000 : Int).toNat
          rw [Int.one_mul]
          exact Int.pow_pos (by decide)
        · refine And.intro (div_small h0 h1) ?_
          exact draw_end h0 ⟨ns, a + 1, _, c, rfl, by omega⟩ hP
      · refine And.intro (mulOkR (by decide)) ?_
        refine And.intro (show (0 : Int) < 2147483629 by decide) (And.intro (mulOkR (by decide)) (And.intro (mulOkR (by decide)) (And.intro (show (0 : Int) < 2147483647 by decide) ?_)))
        refine And.intro (div_small (by decide) (by decide)) ?_
        exact draw_end h0 ⟨ns, a + 1, b, _, rfl, by omega⟩ hP
    refine iteD (fun hl => ?_) fun hl => ?_
    · have hl : a < ((ns.map A.int).length : Int) := by simpa using hl
      rw [List.length_map] at hl
      refine onAt_i (a := .int ns[a.toNat]) ha (by rw [List.getElem?_map, List.getElem?_eq_getElem (by omega)]; rfl) ?_
      refine And.intro (mulOkL (by decide)) ?_
      exact rest _ _
    · exact rest _ _
end K59
/-! what each def promises: the law's picks, its gcd, its fractions -/
namespace K59
open PySem AL
def m_pick : FnM := fun args P _ => ∃ (dl xs : List A), args = [.ow true dl, .sh (.lst xs)] ∧ DOk dl ∧ 0 < xs.length ∧ xs.length ≤ 1000 ∧ ∀ x ∈ xs, ∀ dl', DOk dl' → P (.sh x) [dl']
theorem c_pick {dl xs : List A} {P : Res → List (List A) → Prop} {EP : Ex → Prop} (hd : DOk dl) (h0 : 0 < xs.length) (h1 : xs.length ≤ 1000) (h : ∀ x ∈ xs, ∀ dl', DOk dl' → P (.sh x) [dl']) : m_pick [.ow true dl, .sh (.lst xs)] P EP := ⟨dl, xs, rfl, hd, h0, h1, h⟩
theorem ok__law_pick (args : List Slot) (P : Res → List (List A) → Prop) (EP : Ex → Prop) (h : m_pick args P EP) : args.length = 2 ∧ denF (den__law_pick m_draw) 0 args P EP := by
  obtain ⟨dl, xs, rfl, hd, h0, h1, hP⟩ := h
  refine ⟨rfl, cB1 rfl (c_draw hd (by omega) (by omega) fun r dl' hr hd' => ?_)⟩
  have hr : r < xs.length := by omega
  exact onAt_of (List.getElem?_eq_getElem hr) (hP _ (List.getElem_mem hr) dl' hd')
def m_rare : FnM := fun args P _ => ∃ (dl : List A) (m : Int), args = [.ow true dl, .sh (.int m)] ∧ DOk dl ∧ 0 < m ∧ m < 2 ^ 64 ∧ ∀ (b : Bool) dl', DOk dl' → P (.sh (.bl b)) [dl']
theorem c_rare {dl : List A} {m : Int} {P : Res → List (List A) → Prop} {EP : Ex → Prop} (hd : DOk dl) (h0 : 0 < m) (h1 : m < 2 ^ 64) (h : ∀ (b : Bool) dl', DOk dl' → P (.sh (.bl b)) [dl']) : m_rare [.ow true dl, .sh (.int m)] P EP := ⟨dl, m, rfl, hd, h0, h1, h⟩
theorem ok__law_rare (args : List Slot) (P : Res → List (List A) → Prop) (EP : Ex → Prop) (h : m_rare args P EP) : args.length = 2 ∧ denF (den__law_rare m_draw) 0 args P EP := by
  obtain ⟨dl, m, rfl, hd, h0, h1, hP⟩ := h
  refine ⟨rfl, cB1 rfl (c_draw hd h0 h1 fun r dl' hr hd' => ?_)⟩
  exact And.intro (div_small (by decide) (by decide)) (And.intro (eqOk_int _) (And.intro (eqOk_int _) (hP _ dl' hd')))
/-- ints in another order -/
def m_shuffled : FnM := fun args P _ => ∃ (dl : List A) (js : List Nat), args = [.ow true dl, .sh (.lst (js.map fun (j : Nat) => A.int (j : Int)))] ∧ DOk dl ∧ js.length ≤ 1000 ∧ ∀ (ks : List Nat) dl', ks.Perm js → DOk dl' → P (.ow (ks.map fun (j : Nat) => A.int (j : Int))) [dl']
theorem c_shuffled {dl : List A} {js : List Nat} {P : Res → List (List A) → Prop} {EP : Ex → Prop} (hd : DOk dl) (hl : js.length ≤ 1000) (h : ∀ (ks : List Nat) dl', ks.Perm js → DOk dl' → P (.ow (ks.map fun (j : Nat) => A.int (j : Int))) [dl']) :
    m_shuffled [.ow true dl, .sh (.lst (js.map fun (j : Nat) => A.int (j : Int)))] P EP := ⟨dl, js, rfl, hd, hl, h⟩
theorem eraseIdx_map {α β : Type} (f : α → β) : ∀ (l : List α) (i : Nat), (l.map f).eraseIdx i = (l.eraseIdx i).map f
  | [], _ => rfl
  | _ :: _, 0 => rfl
  | a :: l, i + 1 => by
    show f a :: (l.map f).eraseIdx i = f a :: (l.eraseIdx i).map f
    rw [eraseIdx_map f l i]
theorem erase_perm {α : Type} : ∀ (l : List α) (i : Nat) (h : i < l.length), (l[i] :: l.eraseIdx i).Perm l
  | [], _, h => absurd h (Nat.not_lt_zero _)
  | a :: l, 0, _ => List.Perm.refl _
  | a :: l, i + 1, h => by
    show (l[i]'(Nat.lt_of_succ_lt_succ h) :: a :: l.eraseIdx i).Perm (a :: l)
    exact (List.Perm.swap _ _ _).trans (List.Perm.cons a (erase_perm l i (Nat.lt_of_succ_lt_succ h)))
theorem ok__law_shuffled (args : List Slot) (P : Res → List (List A) → Prop) (EP : Ex → Prop) (h : m_shuffled args P EP) : args.length = 2 ∧ denF (den__law_shuffled m_draw) 3 args P EP := by
  obtain ⟨dl, js, rfl, hd, hl, hP⟩ := h
  refine ⟨rfl, ?_⟩
  have hlen : ((js.map fun (j : Nat) => A.int (j : Int)).length : Int) = js.length := by rw [List.length_map]
  refine And.intro (by rw [hlen]; omega) (And.intro (by rw [hlen]; omega) ?_)
  rw [show (((js.map fun (j : Nat) => A.int (j : Int)).length : Int)).toNat = js.length by rw [hlen]; omega]
  refine for_rg (fun k e => ∃ (dl : List A) (left found : List Nat) (L F : List A) (s4 : Slot), L = left.map (fun (j : Nat) => A.int (j : Int)) ∧ F = found.map (fun (j : Nat) => A.int (j : Int)) ∧ e = [.ow true dl, .sh (.lst (js.map fun (j : Nat) => A.int (j : Int))), .ow false L, .ow false F, s4] ∧ DOk dl ∧ found.length = k ∧ (found ++ left).Perm js)
    ⟨dl, js, [], _, _, _, rfl, rfl, rfl, hd, rfl, List.Perm.refl _⟩ (fun k hk e he nx hn => ?_) fun e he => ?_
  · obtain ⟨dl, left, found, L, F, s4, rfl, rfl, rfl, hd, hf, hp⟩ := he
    have hpl := hp.length_eq
    rw [List.length_append] at hpl
    have hln : ((left.map fun (j : Nat) => A.int (j : Int)).length : Int) = left.length := by rw [List.length_map]
    refine cB1 rfl (c_draw hd (by rw [hln]; omega) (by rw [hln]; omega) fun r dl' hr hd' => ?_)
    have hr : r < left.length := by rw [hln] at hr; omega
    refine And.intro (by omega) (And.intro (by omega) ?_)
    have hget : (left.map fun (j : Nat) => A.int (j : Int))[((r : Int)).toNat]? = some (A.int ((left[r] : Nat) : Int)) := by
      rw [Int.toNat_natCast, List.getElem?_map, List.getElem?_eq_getElem hr]; rfl
    show (match (left.map fun (j : Nat) => A.int (j : Int))[((r : Int)).toNat]? with
      | some y => _
      | none => False)
    rw [hget]
    refine And.intro (by rw [List.length_map]; exact line5 (by omega)) ?_
    refine hn _ ⟨dl', left.eraseIdx r, found ++ [left[r]], _, _, _, ?_, ?_, rfl, hd', by rw [List.length_append, hf]; rfl, ?_⟩
    · rw [Int.toNat_natCast, eraseIdx_map]
    · rw [List.map_append]; rfl
    · rw [List.append_assoc]
      exact (List.Perm.append_left found (erase_perm left r hr)).trans hp
  · obtain ⟨dl, left, found, L, F, s4, rfl, rfl, rfl, hd, hf, hp⟩ := he
    have hpl := hp.length_eq
    rw [List.length_append] at hpl
    have hl0 : left = [] := List.length_eq_zero_iff.mp (by omega)
    rw [hl0, List.append_nil] at hp
    exact hP found dl hp hd
theorem ok__law_is_int (args : List Slot) (P : Res → List (List A) → Prop) (EP : Ex → Prop) (h : m_is_whole args P EP) : args.length = 1 ∧ denF den__law_is_int 0 args P EP := ok_is_whole args P EP h
def m_gcd : FnM := fun args P _ => ∃ a b : Int, args = [.sh (.int a), .sh (.int b)] ∧ P (.sh (.int ((Nat.gcd a.natAbs b.natAbs : Nat) : Int))) []
theorem c_gcd {a b : Int} {P : Res → List (List A) → Prop} {EP : Ex → Prop} (h : P (.sh (.int ((Nat.gcd a.natAbs b.natAbs : Nat) : Int))) []) : m_gcd [.sh (.int a), .sh (.int b)] P EP := ⟨a, b, rfl, h⟩
theorem gcd_loop {AD : AEnds} {EQ : XQ} : ∀ (n : Nat) (x y : Int), 0 ≤ x → 0 ≤ y → y < n → (AD.nx [.sh (.int ((Nat.gcd x.natAbs y.natAbs : Nat) : Int)), .sh (.int 0)]) →
    whileN (cB (cOp fNe (cVar 1) (cK (.int 0)))) (cPar 0 1 (cVar 1) (cOp fMod (cUn fInt (cPeek 0)) (cPeek 1))) AD EQ n [.sh (.int x), .sh (.int y)]
  | 0, _, y, _, h0, h1, _ => by omega
  | n + 1, x, y, hx, hy, hyn, hP => by
    refine And.intro (eqOk_int _) (And.intro (eqOk_int 0) (iteD (fun hne => ?_) fun heq => ?_))
    · have hp : 0 < y := by
        rw [eqA_int] at hne
        have : ¬ y = 0 := by simpa using hne
        omega
      refine And.intro hp ?_
      refine gcd_loop n y (x % y) hy (Int.emod_nonneg _ (by omega)) (by have := Int.emod_lt_of_pos x hp; omega) ?_
      rw [← gcd_step hx hp]; exact hP
    · have h0 : y = 0 := by rw [eqA_int] at heq; simpa using heq
      subst h0
      have e : ((Nat.gcd x.natAbs (0 : Int).natAbs : Nat) : Int) = x := by
        rw [show (0 : Int).natAbs = 0 from rfl, Nat.gcd_zero_right]; omega
      rw [e] at hP
      exact hP
theorem abs_if (i : Int) : (if i < 0 then -i else i) = ((i.natAbs : Nat) : Int) := by split <;> omega
theorem ok__law_gcd (args : List Slot) (P : Res → List (List A) → Prop) (EP : Ex → Prop) (h : m_gcd args P EP) : args.length = 2 ∧ denF den__law_gcd 0 args P EP := by
  obtain ⟨a, b, rfl, hP⟩ := h
  refine ⟨rfl, Exists.intro (b.natAbs + 1) ?_⟩
  show whileN _ _ _ _ _ [.sh (.int (if a < 0 then -a else a)), .sh (.int (if b < 0 then -b else b))]
  rw [abs_if, abs_if]
  exact gcd_loop (b.natAbs + 1) (a.natAbs : Int) (b.natAbs : Int) (by omega) (by omega) (by omega) hP
theorem ok__law_frac (args : List Slot) (P : Res → List (List A) → Prop) (EP : Ex → Prop) (h : m_fraction args P EP) : args.length = 2 ∧ denF (den__law_frac m_gcd) 1 args P EP := by
  obtain ⟨n, d, B, rfl, hd, hn, hdB, hB, hP⟩ := h
  refine ⟨rfl, iteD (fun hl => ?_) fun hl => ?_⟩
  · rw [← divInt_neg2] at hP
    have hp : 0 < -d := by
      have : d < 0 := by simpa using hl
      omega
    exact cV2 (c_gcd (fr_end (P := fun z => P (.sh z) []) hp (by rw [Int.natAbs_neg]; exact hn) (by rw [Int.natAbs_neg]; exact hdB) hB hP))
  · have hp : 0 < d := by
      have : ¬ d < 0 := by simpa using hl
      omega
    exact cV2 (c_gcd (fr_end (P := fun z => P (.sh z) []) hp hn hdB hB hP))
end K59
/-! what each def promises: the law's fractions, sums, rows, what is the same -/
namespace K59
open PySem AL
theorem ok__law_plus (args : List Slot) (P : Res → List (List A) → Prop) (EP : Ex → Prop) (h : m_plus args P EP) : args.length = 2 ∧ denF (den__law_plus m_fraction) 0 args P EP := by
  obtain ⟨a, b, B, rfl, ha, hb, hc, hB, hP⟩ := h
  refine ⟨rfl, And.intro (mulOk ha.n hb.dz (by omega)) (And.intro (mulOk hb.n ha.dz (by omega)) (And.intro (mulOk ha.dz hb.dz (by omega)) ?_))⟩
  refine cV2 (c_fraction (B := B + B + 1) (Int.mul_ne_zero (den0 a) (den0 b)) (na_add (na_mul ha.n hb.dz) (na_mul hb.n ha.dz)) (na_mulS ha.dz hb.dz (by omega)) (by omega) ?_)
  rw [q_add]; exact hP
theorem ok__law_minus (args : List Slot) (P : Res → List (List A) → Prop) (EP : Ex → Prop) (h : m_minus args P EP) : args.length = 2 ∧ denF (den__law_minus m_fraction) 0 args P EP := by
  obtain ⟨a, b, B, rfl, ha, hb, hc, hB, hP⟩ := h
  refine ⟨rfl, And.intro (mulOk ha.n hb.dz (by omega)) (And.intro (mulOk hb.n ha.dz (by omega)) (And.intro (mulOk ha.dz hb.dz (by omega)) ?_))⟩
  refine cV2 (c_fraction (B := B + B + 1) (Int.mul_ne_zero (den0 a) (den0 b)) (na_sub (na_mul ha.n hb.dz) (na_mul hb.n ha.dz)) (na_mulS ha.dz hb.dz (by omega)) (by omega) ?_)
  rw [q_sub]; exact hP
theorem ok__law_times (args : List Slot) (P : Res → List (List A) → Prop) (EP : Ex → Prop) (h : m_times args P EP) : args.length = 2 ∧ denF (den__law_times m_fraction) 0 args P EP := by
  obtain ⟨a, b, B, rfl, ha, hb, hc, hB, hP⟩ := h
  refine ⟨rfl, And.intro (mulOk ha.n hb.n (by omega)) (And.intro (mulOk ha.dz hb.dz (by omega)) ?_)⟩
  refine cV2 (c_fraction (B := B + B) (Int.mul_ne_zero (den0 a) (den0 b)) (na_mul ha.n hb.n) (na_mul ha.dz hb.dz) (by omega) ?_)
  rw [q_mul]; exact hP
theorem ok__law_over (args : List Slot) (P : Res → List (List A) → Prop) (EP : Ex → Prop) (h : m_over args P EP) : args.length = 2 ∧ denF (den__law_over m_fraction) 0 args P EP := by
  obtain ⟨a, b, B, rfl, ha, hb, hc, hB, hP⟩ := h
  refine ⟨rfl, And.intro (mulOk ha.n hb.dz (by omega)) (And.intro (mulOk ha.dz hb.n (by omega)) ?_)⟩
  refine cV2 (c_fraction (B := B + B) (Int.mul_ne_zero (den0 a) (num0 hc)) (na_mul ha.n hb.dz) (na_mul ha.dz hb.n) (by omega) ?_)
  rw [q_div]; exact hP
theorem ok__law_less (args : List Slot) (P : Res → List (List A) → Prop) (EP : Ex → Prop) (h : m_less args P EP) : args.length = 2 ∧ denF den__law_less 0 args P EP := by
  obtain ⟨a, b, B, rfl, ha, hb, hB, hP⟩ := h
  refine ⟨rfl, And.intro (mulOk ha.n hb.dz (by omega)) (And.intro (mulOk hb.n ha.dz (by omega)) ?_)⟩
  have e : decide (a.num * (b.den : Int) < b.num * (a.den : Int)) = decide (a < b) := by simp only [Rat.lt_iff]
  rw [← e] at hP
  exact hP
theorem ok__law_is_frac (args : List Slot) (P : Res → List (List A) → Prop) (EP : Ex → Prop) (h : m_is_fraction args P EP) : args.length = 1 ∧ denF (den__law_is_frac m_is_whole m_gcd) 0 args P EP := by
  obtain ⟨x, B, rfl, hx, hP⟩ := h
  refine ⟨rfl, ?_⟩
  cases x with
  | scr _ => simp [bnd] at hx
  | lst _ => simp [bnd] at hx
  | tup xs =>
    rw [bnd_tup, bnds_iff] at hx
    refine And.intro (eqOk_int _) (And.intro (eqOk_int 2) ?_)
    match xs, hx, hP with
    | [], _, hP => exact iteY (by rw [eqA_int]; rfl) hP
    | [x], _, hP =>
      have e : isFr (.tup [x]) = false := by unfold isFr frOf; cases x <;> rfl
      rw [e] at hP
      exact iteY (by rw [eqA_int]; rfl) hP
    | a :: b :: c :: r, _, hP =>
      refine iteY (by rw [eqA_int]; simp; omega) ?_
      have : isFr (.tup (a :: b :: c :: r)) = false := by unfold isFr frOf; cases a <;> cases b <;> rfl
      rw [this] at hP; exact hP
    | [a, b], hx, hP =>
      refine iteN (by rw [eqA_int]; simp) ?_
      refine cV1 (c_is_whole (B := B) (hx a (by simp)) ?_)
      cases ha : isInt a with
      | false =>
        have : isFr (.tup [a, b]) = false := by unfold isFr frOf; cases a <;> cases b <;> first | rfl | cases ha
        rw [this] at hP; exact hP
      | true =>
        refine cV1 (c_is_whole (B := B) (hx b (by simp)) ?_)
        cases hb : isInt b with
        | false =>
          have : isFr (.tup [a, b]) = false := by unfold isFr frOf; cases a <;> cases b <;> first | rfl | cases hb
          rw [this] at hP; exact hP
        | true =>
          cases a <;> try cases ha
          cases b <;> try cases hb
          rename_i n d
          have hP : P (.sh (.bl (frOf (.tup [.int n, .int d])).isSome)) [] := hP
          rw [frOf_ii] at hP
          refine iteN (by simp) ?_
          refine iteD (fun h1 => ?_) fun h1 => ?_
          · have h1 : 1 ≤ d := by simpa using h1
            refine cV2 (c_gcd ?_)
            refine And.intro (eqOk_int _) (And.intro (eqOk_int 1) ?_)
            show P (.sh (.bl (eqA (.int ((Nat.gcd n.natAbs d.natAbs : Nat) : Int)) (.int 1)))) []
            rw [eqA_int]
            by_cases h2 : Nat.gcd n.natAbs d.natAbs = 1
            · rw [if_pos ⟨h1, h2⟩] at hP
              rw [h2]; exact hP
            · rw [if_neg (fun z => h2 z.2)] at hP
              rw [decide_eq_false (by omega)]; exact hP
          · have h1 : ¬ 1 ≤ d := by simpa using h1
            rw [if_neg (fun z => h1 z.1)] at hP
            exact hP
  | _ => exact hP
theorem sum_take {qs : List Rat} {j : Nat} {q : Rat} (h : qs[j]? = some q) : (qs.take (j + 1)).sum = (qs.take j).sum + q := by
  obtain ⟨hj, e⟩ := List.getElem?_eq_some_iff.mp h
  rw [List.take_succ, h, List.sum_append]
  show (qs.take j).sum + (q + 0) = _
  rw [Rat.add_zero]
theorem ok__law_sum (args : List Slot) (P : Res → List (List A) → Prop) (EP : Ex → Prop) (h : m_total args P EP) : args.length = 1 ∧ denF (den__law_sum m_gcd m_fraction) 5 args P EP := by
  obtain ⟨qs, B, rfl, hs, h0, hl, hB, hP⟩ := h
  refine ⟨rfl, And.intro rfl ?_⟩
  refine for_inv (fun k e => ∃ (t b : Int) (s3 s4 s5 : Slot), e = [.sh (rowA qs), .sh (.int t), .sh (.int b), s3, s4, s5] ∧ 0 < b ∧ t.natAbs < 2 ^ (B * k + k + 1) ∧ b.natAbs < 2 ^ (B * k + 1) ∧ Rat.divInt t b = (qs.take k).sum) ⟨0, 1, _, _, _, rfl, by omega, by simp, by simp, by
      show Rat.divInt 0 1 = 0
      exact Rat.zero_divInt 1⟩ (fun j x hx e he nx hn => ?_) fun e he => ?_
  · obtain ⟨q, hq, rfl⟩ := get_map hx
    obtain ⟨t, b, s3, s4, s5, rfl, hb, ht, hbB, hsum⟩ := he
    have hz := hs.at_ q (mem_of_get hq)
    have hj : j < qs.length := (List.getElem?_eq_some_iff.mp hq).1
    have hjB : B * j + B ≤ B * qs.length := by
      have := Nat.mul_le_mul_left B (show j + 1 ≤ qs.length by omega)
      rw [Nat.mul_succ] at this; omega
    have hg := gcdI_pos (a := b) (denp q)
    have hgB := gcdI_lt (a := b) (denp q) hz.dz
    have hgL := gcdI_dl b q.den
    have hgR := gcdI_dr b q.den
    refine And.intro rfl ?_
    refine cV2 (c_gcd ?_)
    refine And.intro (divOk hg hgB (by omega)) (And.intro (mulOk ht (na_div hz.dz hg hgR) (by omega)) ?_)
    refine And.intro (divOk hg hgB (by omega)) (And.intro (mulOk hz.n (na_div hbB hg hgL) (by omega)) ?_)
    refine And.intro (divOk hg hgB (by omega)) (And.intro (mulOk hbB (na_div hz.dz hg hgR) (by omega)) ?_)
    refine hn _ ⟨_, _, _, _, _, rfl, ?_, ?_, ?_, ?_⟩
    · exact Int.mul_pos hb (div_pos' (denp q) hg hgR)
    · have e : B * (j + 1) + (j + 1) + 1 = (B * j + j + 1 + B) + 1 := by rw [Nat.mul_succ]; omega
      rw [e]
      exact na_add (na_mul ht (na_div hz.dz hg hgR)) (na_mulS hz.n (na_div hbB hg hgL) (by omega))
    · refine na_mulS hbB (na_div hz.dz hg hgR) ?_
      rw [Nat.mul_succ]; omega
    · rw [sum_take hq, ← hsum]
      have := sum_step (t := t) (b := b) (n := q.num) (d := q.den) hb (denp q)
      rw [Rat.num_divInt_den] at this
      exact this
  · obtain ⟨t, b, s3, s4, s5, rfl, hb, ht, hbB, hsum⟩ := he
    rw [List.length_map] at ht hbB hsum
    rw [List.take_length] at hsum
    refine cV2 (c_fraction (B := B * qs.length + qs.length + 1) (by omega) ht (na_up hbB (by omega)) (by omega) ?_)
    rw [hsum]; exact hP
theorem ok__law_is_amounts (args : List Slot) (P : Res → List (List A) → Prop) (EP : Ex → Prop) (h : m_is_amount_row args P EP) : args.length = 2 ∧ denF (den__law_is_amounts m_is_fraction m_less m_total) 1 args P EP := by
  obtain ⟨x, n, rfl, hx, hn, hP⟩ := h
  refine ⟨rfl, ?_⟩
  cases x with
  | scr _ => simp [bnd] at hx
  | lst _ => simp [bnd] at hx
  | tup xs =>
    have hP : P (.sh (.bl (decide ((xs.length : Int) = n) && (xs.all isAmt && !decide (1 < (xs.map frV).sum))))) [] := hP
    rw [bnd_tup] at hx
    refine And.intro (eqOk_int _) (And.intro (eqOk_int _) (iteD (fun hne => ?_) fun heq => ?_))
    · have : ¬ (xs.length : Int) = n := by rw [eqA_int] at hne; simpa using hne
      rw [decide_eq_false this] at hP; exact hP
    · have hln : (xs.length : Int) = n := by rw [eqA_int] at heq; simpa using heq
      rw [decide_eq_true hln, Bool.true_and] at hP
      have h7 : xs.length ≤ 7 := by omega
      refine comp_self (fun x : A => .bl (isAmt x)) (fun x hx' k hk => cV1 (c_is_fraction (bnds_iff.mp hx x hx') (by
        cases hf : isFr x with
        | false => rw [isAmt_no hf] at hk; exact hk _ rfl
        | true =>
          obtain ⟨q, rfl⟩ := fr_ex hf
          rw [isAmt_q] at hk
          have e : decide ((0 : Int) ≤ q.num) = decide (0 ≤ q) := by simp only [Rat.num_nonneg]
          rw [← e] at hk
          exact hk _ rfl))) (by omega) ?_
      · rw [allAmt]
        refine onBools ?_
        refine iteD (fun hno => ?_) fun hyes => ?_
        · have : xs.all isAmt = false := by rw [all_id] at hno; simpa using hno
          rw [this] at hP; exact hP
        · have hall : xs.all isAmt = true := by rw [all_id] at hyes; simpa using hyes
          rw [hall, Bool.true_and] at hP
          obtain ⟨qs, rfl, hq⟩ := amts_ex hall
          rw [frV_rows] at hP
          rw [List.length_map] at h7
          have hs := szl_of hx
          refine cV1 (c_total BB hs (by decide) (by omega) (by have : BB * qs.length ≤ BB * 7 := Nat.mul_le_mul_left _ h7
                                                               unfold BB at *; omega) ?_)
          have hsum := sz_sum (B := BB) (by decide) hs
          refine cV2 (c_less (a := 1) (b := qs.sum) ((BB + 1) * qs.length + 1) (Sz.one (by omega)) hsum (by have : (BB + 1) * qs.length ≤ (BB + 1) * 7 := Nat.mul_le_mul_left _ h7
                                                                                                            unfold BB at *; omega) ?_)
          exact hP
  | _ => exact hP
end K59
/-! what each def promises: the law's taken, same, parted -/
namespace K59
open PySem AL
theorem ok__law_taken (args : List Slot) (P : Res → List (List A) → Prop) (EP : Ex → Prop) (h : m_without args P EP) : args.length = 2 ∧ denF (den__law_taken m_plus m_times m_part) 8 args P EP := by
  obtain ⟨n, B, q, r, p, rfl, g, hq, hB, hP⟩ := h
  have b0 := g.b0
  have n5 := g.n5
  refine ⟨rfl, And.intro rfl ?_⟩
  have hl : ((tab n fun i => qA (r i)).length : Int) = n := by rw [tab_length]
  refine And.intro (by rw [hl]; omega) (And.intro (by rw [hl]; omega) ?_)
  rw [show ((((tab n fun i => qA (r i)).length : Int)).toNat) = n by rw [hl]; omega]
  refine for_rg (fun k e => ∃ L M s7 s8, L = (tab k fun i => qA (takenR r p q i)) ∧ M = (tab k fun i => .tup (tab n fun j => qA (takenP p q i j))) ∧ e = [.sh (gA n r p), .sh (.int q), .sh (ratesA n r), .sh (passesA n p), .sh (.int ((tab n fun i => qA (r i)).length : Int)), .ow false L, .ow false M, s7, s8, .no]) ⟨_, _, _, _, rfl, rfl, rfl⟩ (fun k hk e he nx hn => ?_) fun e he => ?_
  · obtain ⟨L, M, s7, s8, rfl, rfl, rfl⟩ := he
    refine onTab hk (onTab hq (onTab hq (onTab hk ?_)))
    refine cV2 (c_op B (g.r q hq) (g.p q k hq hk) trivial (by omega) ?_)
    refine cV2 (c_op (B + B) ((g.r k hk).mono (by omega)) ((g.r q hq).mul (g.p q k hq hk)) trivial (by omega) ?_)
    have rest : ∀ (L : List A), L = (tab (k + 1) fun i => qA (takenR r p q i)) → ∀ s8, 
        (cExpr (cSh (cApp 6 (cUn fTuple (cFz (cLC (cRg1 (cVar 4)) (gN 9) cYes (cFz (cCall m_part (cConsA (cVar 3) (cConsA (cVar 1) (cConsA (cVar 7) (cConsA (cVar 9) cNilA)))))) [9]))))))
          { nx := nx, rt := fun r_1 e => AL.collect [Slot.sh (gA n r p), Slot.sh (.int q)] e fun o => P r_1 o, bk := fun _ => False, ct := nx } (fun x _ => noPin [Slot.sh (gA n r p), Slot.sh (.int q)] = true ∧ EP x)
          [.sh (gA n r p), .sh (.int q), .sh (ratesA n r), .sh (passesA n p), .sh (.int ((tab n fun i => qA (r i)).length : Int)), .ow false L, .ow false (tab k fun i => .tup (tab n fun j => qA (takenP p q i j))), .sh (.int k), s8, .no] := fun L hL s8 => by
      refine And.intro (by rw [hl]; omega) (And.intro (by rw [hl]; omega) ?_)
      rw [show ((((tab n fun i => qA (r i)).length : Int)).toNat) = n by rw [hl]; omega]
      refine comp_rg (fun j => qA (takenP p q k j)) (fun j hj k' hk' => cV4 (c_part g hq hk hj hB (hk' _ rfl))) (by omega) ?_
      refine And.intro (by rw [tab_length]; exact line5 (by omega)) (hn _ ⟨_, _, _, _, hL, ?_, rfl⟩)
      rw [tab_succ]
    refine And.intro (eqOk_int _) (And.intro (eqOk_int _) (iteD (fun h1 => ?_) fun h1 => ?_))
    · refine And.intro (by rw [tab_length]; exact line5 (by omega)) (rest _ ?_ _)
      rw [tab_succ]
      have e : takenR r p q k = 0 := by unfold takenR; rw [if_pos (nat_of h1)]
      rw [e]; rfl
    · refine And.intro (by rw [tab_length]; exact line5 (by omega)) (rest _ ?_ _)
      rw [tab_succ]
      have e : takenR r p q k = r k + r q * p q k := by unfold takenR; rw [if_neg (nat_no h1)]
      rw [e]
  · obtain ⟨L, M, s7, s8, rfl, rfl, rfl⟩ := he
    exact hP
/-! the same twice -/
mutual
def dep : Nat → A → Bool
  | _, .int _ => true
  | 0, _ => false
  | d + 1, .tup xs => decide (xs.length ≤ 1000) && deps d xs
  | _ + 1, _ => false
def deps : Nat → List A → Bool
  | _, [] => true
  | d, x :: xs => dep d x && deps d xs
end
theorem deps_iff {d : Nat} : ∀ {xs : List A}, deps d xs = true ↔ ∀ x ∈ xs, dep d x = true
  | [] => by simp [deps]
  | x :: xs => by
    simp only [deps, Bool.and_eq_true, List.mem_cons]
    rw [deps_iff (xs := xs)]
    exact ⟨fun ⟨h1, h2⟩ y hy => by rcases hy with rfl | hy; exact h1; exact h2 y hy, fun h => ⟨h x (.inl rfl), fun y hy => h y (.inr hy)⟩⟩
def m_same (d : Nat) : FnM := fun args P _ => ∃ x : A, args = [.sh x, .sh x] ∧ dep d x = true ∧ P (.sh (.bl true)) []
theorem c_same {d : Nat} {x : A} {P : Res → List (List A) → Prop} {EP : Ex → Prop} (h : dep d x = true) (hP : P (.sh (.bl true)) []) : m_same d [.sh x, .sh x] P EP := ⟨x, rfl, h, hP⟩
def m_none : FnM := fun _ _ _ => False
theorem same_int (m : FnM) {i : Int} {P : Res → List (List A) → Prop} {EP : Ex → Prop} (hP : P (.sh (.bl true)) []) : denF (den__law_same m m_is_whole) 1 [.sh (.int i), .sh (.int i)] P EP := by
  refine cV1 (c_is_whole (B := i.natAbs) (by rw [bnd_int]; exact decide_eq_true Nat.lt_two_pow_self) ?_)
  refine And.intro (eqOk_int _) (And.intro (eqOk_int _) ?_)
  show P (.sh (.bl (eqA (.int i) (.int i)))) []
  rw [eqA_int, decide_eq_true rfl]
  exact hP
theorem ok__law_same0 (args : List Slot) (P : Res → List (List A) → Prop) (EP : Ex → Prop) (h : m_same 0 args P EP) : args.length = 2 ∧ denF (den__law_same m_none m_is_whole) 1 args P EP := by
  obtain ⟨x, rfl, hx, hP⟩ := h
  refine ⟨rfl, ?_⟩
  cases x with
  | int i => exact same_int _ hP
  | _ => simp [dep] at hx
theorem ok__law_same (d : Nat) (args : List Slot) (P : Res → List (List A) → Prop) (EP : Ex → Prop) (h : m_same (d + 1) args P EP) : args.length = 2 ∧ denF (den__law_same (m_same d) m_is_whole) 1 args P EP := by
  obtain ⟨x, rfl, hx, hP⟩ := h
  refine ⟨rfl, ?_⟩
  cases x with
  | int i => exact same_int _ hP
  | tup xs =>
    have hx : (decide (xs.length ≤ 1000) && deps d xs) = true := by simpa only [dep] using hx
    rw [Bool.and_eq_true, decide_eq_true_eq] at hx
    refine And.intro (eqOk_int _) (And.intro (eqOk_int _) (iteN (by rw [eqA_int]; simp) ?_))
    refine And.intro (by omega) (And.intro (by omega) ?_)
    refine comp_rg (fun i => .bl true) (fun i hi k hk => ?_) (by omega) ?_
    · have hi : i < xs.length := by omega
      refine onAt_of (List.getElem?_eq_getElem hi) (onAt_of (List.getElem?_eq_getElem hi) ?_)
      exact cV2 (c_same (deps_iff.mp hx.2 _ (List.getElem_mem hi)) (hk _ rfl))
    · refine boolsTab (f := fun _ => true) ?_
      rw [all_id, List.all_eq_true.mpr fun _ _ => rfl]
      exact hP
  | _ => simp [dep] at hx
theorem dep_q (q : Rat) : dep 1 (qA q) = true := by simp [qA, dep, deps]
theorem deps_tab {d n : Nat} {f : Nat → A} (h : ∀ i, i < n → dep d (f i) = true) : deps d (tab n f) = true := deps_iff.mpr fun x hx => by
  unfold tab at hx
  obtain ⟨i, hi, rfl⟩ := List.mem_map.mp hx
  exact h i (by simpa using hi)
theorem dep_tup {d : Nat} {xs : List A} (hl : xs.length ≤ 1000) (h : deps d xs = true) : dep (d + 1) (.tup xs) = true := by
  simp only [dep, Bool.and_eq_true, decide_eq_true_eq]
  exact ⟨hl, h⟩
mutual
theorem dep_up {d : Nat} : ∀ {d' : Nat} (x : A), d' ≤ d → dep d' x = true → dep d x = true
  | d', .int i, _, _ => by simp [dep]
  | 0, .tup xs, _, h => by simp [dep] at h
  | d' + 1, .tup xs, l, h => by
    obtain ⟨e, rfl⟩ : ∃ e, d = e + 1 := ⟨d - 1, by omega⟩
    simp only [dep, Bool.and_eq_true] at h ⊢
    exact ⟨h.1, deps_up xs (by omega) h.2⟩
  | d', .non, _, h => by cases d' <;> simp [dep] at h
  | d', .bl _, _, h => by cases d' <;> simp [dep] at h
  | d', .str _, _, h => by cases d' <;> simp [dep] at h
  | d', .lst _, _, h => by cases d' <;> simp [dep] at h
  | d', .scr _, _, h => by cases d' <;> simp [dep] at h
theorem deps_up {d : Nat} : ∀ {d' : Nat} (xs : List A), d' ≤ d → deps d' xs = true → deps d xs = true
  | _, [], _, _ => by simp [deps]
  | d', x :: xs, l, h => by
    simp only [deps, Bool.and_eq_true] at h ⊢
    exact ⟨dep_up x l h.1, deps_up xs l h.2⟩
end
theorem dep_rates {n : Nat} {r : Nat → Rat} (hn : n ≤ 1000) : dep 2 (ratesA n r) = true := dep_tup (by rw [tab_length]; exact hn) (deps_tab fun i _ => dep_q (r i))
theorem dep_passes {n : Nat} {p : Nat → Nat → Rat} (hn : n ≤ 1000) : dep 3 (passesA n p) = true := dep_tup (by rw [tab_length]; exact hn) (deps_tab fun i _ => dep_rates (r := p i) hn)
theorem dep_g {n : Nat} {r : Nat → Rat} {p : Nat → Nat → Rat} (hn : n ≤ 1000) : dep 4 (gA n r p) = true := by
  refine dep_tup (show 2 ≤ 1000 by decide) ?_
  simp only [deps, Bool.and_true, Bool.and_eq_true]
  exact ⟨dep_up _ (by decide) (dep_rates hn), dep_passes hn⟩
end K59
/-! what each def promises: the law's graphs -/
namespace K59
open PySem AL
abbrev iA (t : Nat) : A := .int (t : Int)
structure RowOk (n : Nat) (r : Nat → Rat) : Prop where
  r0 : ∀ i, i < n → 0 ≤ r i
  r1 : sm n r ≤ 1
  sz : ∀ i, i < n → Sz 13 (r i)
def m_parted : FnM := fun args P _ => ∃ (ts : List Nat) (s : Nat), args = [.sh (.lst (ts.map iA)), .sh (.int s)] ∧ (∀ t ∈ ts, t < 1000) ∧ s ≤ 2 ∧ ts.length ≤ 5 ∧ ∀ r, RowOk ts.length r → (∀ i, ts[i]? = some 0 → r i = 0) → P (.sh (ratesA ts.length r)) []
theorem c_parted {ts : List Nat} {s : Nat} {P : Res → List (List A) → Prop} {EP : Ex → Prop} (ht : ∀ t ∈ ts, t < 1000) (hs : s ≤ 2) (hl : ts.length ≤ 5) (h : ∀ r, RowOk ts.length r → (∀ i, ts[i]? = some 0 → r i = 0) → P (.sh (ratesA ts.length r)) []) :
    m_parted [.sh (.lst (ts.map iA)), .sh (.int s)] P EP := ⟨ts, s, rfl, ht, hs, hl, h⟩
theorem sum_lt : ∀ {ts : List Nat}, (∀ t ∈ ts, t < 1000) → (ts.map fun (t : Nat) => (t : Int)).sum ≤ 999 * ts.length
  | [], _ => by simp
  | t :: ts, h => by
    rw [List.map_cons, List.sum_cons, List.length_cons]
    have h1 := h t List.mem_cons_self
    have h2 := sum_lt fun z hz => h z (List.mem_cons_of_mem _ hz)
    omega
theorem sum_nn : ∀ (ts : List Nat), 0 ≤ (ts.map fun (t : Nat) => (t : Int)).sum
  | [] => by simp
  | t :: ts => by
    rw [List.map_cons, List.sum_cons]
    have := sum_nn ts
    omega
theorem divInt_nn {n d : Int} (hn : 0 ≤ n) (hd : 0 < d) : 0 ≤ Rat.divInt n d := by
  rw [← Rat.num_nonneg, ← fr_num hd]
  have := gcdI_pos (a := n) hd
  exact Int.ediv_nonneg hn (by omega)
theorem divInt_le1 {n d : Int} (h : n ≤ d) (hd : 0 < d) : Rat.divInt n d ≤ 1 := by
  have h1 := divInt_nn (n := d - n) (by omega) hd
  have h2 : Rat.divInt n d + Rat.divInt (d - n) d = 1 := by
    rw [divInt_addS (by omega), show n + (d - n) = d by omega]
    have : Rat.divInt d d = Rat.divInt 1 1 := by rw [Rat.divInt_eq_divInt_iff (by omega) (by omega)]; omega
    rw [this]; rfl
  grind
theorem ok__law_parted (args : List Slot) (P : Res → List (List A) → Prop) (EP : Ex → Prop) (h : m_parted args P EP) : args.length = 2 ∧ denF (den__law_parted m_fraction) 2 args P EP := by
  obtain ⟨ts, s, rfl, ht, hs, hl, hP⟩ := h
  refine ⟨rfl, ?_⟩
  have em : ts.map iA = (ts.map fun (t : Nat) => (t : Int)).map A.int := by rw [List.map_map]; rfl
  have h1 := sum_lt ht
  have h2 := sum_nn ts
  have key : ∀ W : Int, (W = if (ts.map fun (t : Nat) => (t : Int)).sum + s > 1 then (ts.map fun (t : Nat) => (t : Int)).sum + s else 1) →
      (cRet (cSh (cUn fTuple (cFz (cLC (cSeqI (cVar 0)) (gN 3) cYes (cFz (cCall m_fraction (cConsA (cVar 3) (cConsA (cVar 2) cNilA)))) [3])))))
        { nx := fun e => AL.collect [Slot.sh (.lst (ts.map iA)), Slot.sh (.int s)] e fun o => P (.sh .non) o, rt := fun r e => AL.collect [Slot.sh (.lst (ts.map iA)), Slot.sh (.int s)] e fun o => P r o, bk := fun _ => False, ct := fun _ => False }
        (fun x _ => noPin [Slot.sh (.lst (ts.map iA)), Slot.sh (.int s)] = true ∧ EP x)
        [.sh (.lst (ts.map iA)), .sh (.int s), .sh (.int W), .no] := fun W hW => by
    have hW0 : 0 < W := by rw [hW]; split <;> omega
    have hW1 : W < 8192 := by rw [hW]; split <;> omega
    have hWs : (ts.map fun (t : Nat) => (t : Int)).sum ≤ W := by rw [hW]; split <;> omega
    refine comp_map (toA := iA) (fun t : Nat => qA (Rat.divInt t W)) ts (fun t hm k hk => cV2 (c_fraction (B := 13) (by omega) (by have := ht t hm; omega) (by omega) (by decide) (hk _ rfl))) (by omega) ?_
    have := hP (fun i => Rat.divInt ((ts.getD i 0 : Nat) : Int) W) ⟨fun i hi => divInt_nn (by omega) hW0, ?_, fun i hi => sz_divInt (by omega) ?_ (by omega)⟩ (fun i hi => ?_)
    · rw [map_tab (fun t : Nat => qA (Rat.divInt (t : Int) W)) 0]; exact this
    · rw [← sum_sm]
      have e : (List.range ts.length).map (fun i => Rat.divInt ((ts.getD i 0 : Nat) : Int) W) = (ts.map fun (t : Nat) => (t : Int)).map fun t => Rat.divInt t W := by
        rw [List.map_map]
        refine List.ext_getElem? fun j => ?_
        by_cases hj : j < ts.length
        · rw [List.getElem?_map, List.getElem?_range hj, List.getElem?_map, List.getElem?_eq_getElem hj]
          show some (Rat.divInt ((ts.getD j 0 : Nat) : Int) W) = _
          rw [List.getD_eq_getElem?_getD, List.getElem?_eq_getElem hj]; rfl
        · rw [List.getElem?_eq_none (by rw [List.length_map, List.length_range]; omega), List.getElem?_eq_none (by rw [List.length_map]; omega)]
      rw [e, divInt_ints (by omega)]
      exact divInt_le1 hWs hW0
    · have : ts.getD i 0 < 1000 := by
        rw [List.getD_eq_getElem?_getD, List.getElem?_eq_getElem hi]
        exact ht _ (List.getElem_mem hi)
      omega
    · show Rat.divInt ((ts.getD i 0 : Nat) : Int) W = 0
      rw [List.getD_eq_getElem?_getD, hi]
      exact Rat.zero_divInt W
  rw [em]
  refine onInts ?_
  rw [← em]
  exact key _ rfl
def m_pass_row : FnM := fun args P _ => ∃ (dl : List A) (n at_ : Nat), args = [.ow true dl, .sh (.int n), .sh (.int at_)] ∧ DOk dl ∧ n ≤ 5 ∧ at_ < n ∧ ∀ r dl', DOk dl' → RowOk n r → r at_ = 0 → P (.sh (ratesA n r)) [dl']
theorem c_pass_row {dl : List A} {n at_ : Nat} {P : Res → List (List A) → Prop} {EP : Ex → Prop} (hd : DOk dl) (hn : n ≤ 5) (ha : at_ < n) (h : ∀ r dl', DOk dl' → RowOk n r → r at_ = 0 → P (.sh (ratesA n r)) [dl']) :
    m_pass_row [.ow true dl, .sh (.int n), .sh (.int at_)] P EP := ⟨dl, n, at_, rfl, hd, hn, ha, h⟩
theorem map_set' {ts : List Nat} {i v : Nat} : (ts.map iA).set i (iA v) = (ts.set i v).map iA := by rw [List.map_set]
theorem mem_set {ts : List Nat} {i v m : Nat} (h : ∀ t ∈ ts, t < m) (hv : v < m) : ∀ t ∈ ts.set i v, t < m := fun t ht => by
  rcases List.mem_or_eq_of_mem_set ht with h1 | rfl
  · exact h t h1
  · exact hv
theorem map_zero (n v : Nat) : (tab n fun _ => iA v) = (List.replicate n v).map iA := by
  unfold tab
  rw [List.map_const', List.length_range, List.map_replicate]
theorem ixN_nat {n i : Nat} (h : i < n) : L2.ixN n (i : Int) = some i := by
  have := ixN_of (n := n) (k := (i : Int)) (by omega) (by simpa using h)
  simpa using this
/-- x[i] = a, the place known -/
theorem setAt {xs : List A} {i : Nat} {P : Nat → Prop} (h : i < xs.length) (p : P i) : (match L2.ixN xs.length (i : Int) with
    | some j => P j
    | none => False) := by
  rw [ixN_nat h]; exact p
theorem setAtE {xs : List A} {v : Int} {j : Nat} {P : Nat → Prop} (e : v = j) (h : j < xs.length) (p : P j) : (match L2.ixN xs.length v with
    | some j => P j
    | none => False) := by
  rw [e]; exact setAt h p
theorem ok__law_pass_row (args : List Slot) (P : Res → List (List A) → Prop) (EP : Ex → Prop) (h : m_pass_row args P EP) : args.length = 3 ∧ denF (den__law_pass_row m_draw m_rare m_parted) 5 args P EP := by
  obtain ⟨dl0, n, at_, rfl, hd, hn, ha, hP⟩ := h
  refine ⟨rfl, cB1 rfl (c_draw hd (by decide) (by decide) fun kind dl hk hd => ?_)⟩
  refine And.intro (by omega) (And.intro (by omega) ?_)
  rw [Int.toNat_natCast]
  refine comp_rg (fun _ => iA 0) (fun i hi k hk => hk _ rfl) (by omega) ?_
  rw [map_zero]
  have rest : ∀ (dl : List A) (ts : List Nat) (s : Nat) (s6 : Slot), DOk dl → (∀ t ∈ ts, t < 1000) → ts.length = n → s ≤ 2 → 
      (cSeq (cSetIx 4 (cK (.int 0)) (cVar 2)) (cRet (cCall m_parted (cConsA (cVar 4) (cConsA (cVar 5) cNilA)))))
        { nx := fun e => AL.collect [Slot.ow true dl0, Slot.sh (.int n), Slot.sh (.int at_)] e fun o => P (.sh .non) o, rt := fun r e => AL.collect [Slot.ow true dl0, Slot.sh (.int n), Slot.sh (.int at_)] e fun o => P r o, bk := fun _ => False, ct := fun _ => False }
        (fun x _ => noPin [Slot.ow true dl0, Slot.sh (.int n), Slot.sh (.int at_)] = true ∧ EP x)
        [.ow true dl, .sh (.int n), .sh (.int at_), .sh (.int kind), .ow false (ts.map iA), .sh (.int s), s6, .no] := fun dl ts s s6 hd ht hl hs => by
    refine setAt (by rw [List.length_map]; omega) ?_
    rw [show (A.int 0) = iA 0 from rfl, map_set']
    refine cV2 (c_parted (mem_set ht (by decide)) hs (by rw [List.length_set]; omega) fun r hr hz => ?_)
    rw [List.length_set, hl] at hr ⊢
    exact hP r dl hd hr (hz at_ (by rw [List.getElem?_set_self (by omega)]))
  refine And.intro (eqOk_int _) (And.intro (eqOk_int 0) (iteD (fun h0 => ?_) fun h0 => ?_))
  · refine cB1 rfl (c_draw hd ?_ ?_ fun r dl' hr hd' => ?_)
    · show (0 : Int) < if (n : Int) - 1 > 1 then (n : Int) - 1 else 1
      split <;> omega
    · show (if (n : Int) - 1 > 1 then (n : Int) - 1 else 1) < 2 ^ 64
      split <;> omega
    · refine And.intro (show (0 : Int) < n by omega) ?_
      obtain ⟨j, e, hj⟩ := emod_nat (a := (at_ : Int) + 1 + r) (m := n) (by omega)
      refine setAtE e (by rw [List.length_map, List.length_replicate]; omega) ?_
      rw [show (A.int 1) = iA 1 from rfl, map_set']
      exact rest dl' _ 0 .no hd' (mem_set (fun t ht => by rw [List.eq_of_mem_replicate ht]; decide) (by decide)) (by rw [List.length_set, List.length_replicate]) (by decide)
  · refine And.intro (eqOk_int _) (And.intro (eqOk_int 1) (iteD (fun h1 => ?_) fun h1 => ?_))
    · refine And.intro (by omega) (And.intro (by omega) ?_)
      rw [Int.toNat_natCast]
      refine comp_rg (fun _ => iA 1) (fun i hi k hk => hk _ rfl) (by omega) ?_
      rw [map_zero]
      exact rest dl _ 0 .no hd (fun t ht => by rw [List.eq_of_mem_replicate ht]; decide) (by rw [List.length_replicate]) (by decide)
    · refine iteD (fun h2 => ?_) fun h2 => ?_
      · refine cB1 rfl (c_rare hd (by decide) (by decide) fun b dl hd => ?_)
        have go : ∀ (m : Int) (Q : List A → Ev → Prop), 0 < m → m ≤ 1000 → (∀ (dl : List A) (ts : List Nat), (∀ t ∈ ts, t < 1000) → ts.length = n → DOk dl → Q (ts.map iA) [.ow true dl, .sh (.int n), .sh (.int at_), .sh (.int kind), .ow false ((List.replicate n 0).map iA), .sh (.int 0), .sh (.int m), .no]) → 
            compA (gN 7) cYes (cFz (cCall m_draw (cBorA 0 (cConsA (cVar 6) cNilA)))) [7] Q (rgA 0 n) [] [.ow true dl, .sh (.int n), .sh (.int at_), .sh (.int kind), .ow false ((List.replicate n 0).map iA), .sh (.int 0), .sh (.int m), .no] := fun m Q hm0 hm1 hQ => by
          refine comp_inv (fun acc e => ∃ (dl : List A) (ts : List Nat), acc = ts.map iA ∧ (∀ t ∈ ts, t < 1000) ∧ DOk dl ∧ e = [.ow true dl, .sh (.int n), .sh (.int at_), .sh (.int kind), .ow false ((List.replicate n 0).map iA), .sh (.int 0), .sh (.int m), .no]) ⟨dl, [], rfl, fun _ h => absurd h (by simp), hd, rfl⟩ (fun x hx acc e hI k hk => ?_) (by rw [rgA_length]; omega) fun acc e hI hl => ?_
          · obtain ⟨dl, ts, rfl, ht, hd, rfl⟩ := hI
            refine cB1 rfl (c_draw hd hm0 (by omega) fun r dl' hr hd' => hk _ _ ⟨dl', ts ++ [r], by rw [List.map_append]; rfl, fun t h => ?_, hd', rfl⟩)
            rcases List.mem_append.mp h with h | h
            · exact ht t h
            · rw [List.mem_singleton.mp h]; omega
          · obtain ⟨dl, ts, rfl, ht, hd, rfl⟩ := hI
            rw [List.length_map, rgA_length] at hl
            exact hQ dl ts ht hl hd
        cases b with
        | true => exact And.intro (by omega) (And.intro (by omega) (go 1000 _ (by decide) (by decide) fun dl ts ht hl hd => cB1 rfl (c_draw hd (by decide) (by decide) fun s dl' hs hd' => rest dl' ts s _ hd' ht hl (by omega))))
        | false => exact And.intro (by omega) (And.intro (by omega) (go 4 _ (by decide) (by decide) fun dl ts ht hl hd => cB1 rfl (c_draw hd (by decide) (by decide) fun s dl' hs hd' => rest dl' ts s _ hd' ht hl (by omega))))
      · exact rest dl _ 0 .no hd (fun t ht => by rw [List.eq_of_mem_replicate ht]; decide) (by rw [List.length_replicate]) (by decide)
end K59
/-! what each def promises: the law's graphs -/
namespace K59
open PySem AL
def RowsOk (n : Nat) (p : Nat → Nat → Rat) : Prop := ∀ i, i < n → RowOk n (p i) ∧ p i i = 0
theorem rows_ok {n : Nat} {r : Nat → Rat} {p : Nat → Nat → Rat} (h1 : 1 ≤ n) (h5 : n ≤ 5) (hr : RowOk n r) (hp : RowsOk n p) : GOk n r p ∧ GSz n 13 r p :=
  ⟨⟨h1, h5, hr.r0, hr.r1, fun i j hi hj => (hp i hi).1.r0 j hj, fun i hi => (hp i hi).1.r1, fun i hi => (hp i hi).2⟩, ⟨h5, by decide, hr.sz, fun i j hi hj => (hp i hi).1.sz j hj⟩⟩
def rowsL (n m : Nat) (p : Nat → Nat → Rat) : List A := tab m fun i => ratesA n (p i)
def m_graph : FnM := fun args P _ => ∃ (dl : List A) (n : Nat), args = [.ow true dl, .sh (.int n)] ∧ DOk dl ∧ 1 ≤ n ∧ n ≤ 5 ∧ ∀ r p dl', DOk dl' → GOk n r p → GSz n 13 r p → P (.sh (gA n r p)) [dl']
theorem c_graph {dl : List A} {n : Nat} {P : Res → List (List A) → Prop} {EP : Ex → Prop} (hd : DOk dl) (h1 : 1 ≤ n) (hn : n ≤ 5) (h : ∀ r p dl', DOk dl' → GOk n r p → GSz n 13 r p → P (.sh (gA n r p)) [dl']) :
    m_graph [.ow true dl, .sh (.int n)] P EP := ⟨dl, n, rfl, hd, h1, hn, h⟩
/-- one place more -/
theorem rowsL_push {n m : Nat} {p : Nat → Nat → Rat} {r : Nat → Rat} : rowsL n m p ++ [ratesA n r] = rowsL n (m + 1) fun i => if i = m then r else p i := by
  unfold rowsL
  rw [tab_succ]
  have e : (tab m fun i => ratesA n (p i)) = tab m fun i => ratesA n ((fun i => if i = m then r else p i) i) := tab_congr fun i hi => by
    show _ = ratesA n (if i = m then r else p i)
    rw [if_neg (by omega)]
  rw [e]
  show _ = _ ++ [ratesA n (if m = m then r else p m)]
  rw [if_pos rfl]
theorem rowsL_set {n j : Nat} {p : Nat → Nat → Rat} {r : Nat → Rat} (h : j < n) : (rowsL n n p).set j (ratesA n r) = rowsL n n fun i => if i = j then r else p i := by
  unfold rowsL
  rw [tab_set h]
  exact tab_congr fun i hi => by by_cases e : i = j <;> simp [e]
theorem rowsOk_set {n j : Nat} {p : Nat → Nat → Rat} {r : Nat → Rat} (hp : RowsOk n p) (hr : RowOk n r) (h0 : r j = 0) : RowsOk n fun i => if i = j then r else p i := fun i hi => by
  by_cases e : i = j
  · simp only [if_pos e]; rw [e]; exact ⟨hr, h0⟩
  · simp only [if_neg e]; exact hp i hi
theorem ind_ok {n q : Nat} : RowOk n fun i => if i = q then 1 else 0 := by
  refine ⟨fun i _ => ?_, ?_, fun i _ => ?_⟩
  · show (0 : Rat) ≤ if i = q then 1 else 0
    split <;> decide
  · rw [sm_ind]; split <;> decide
  · show Sz 13 (if i = q then 1 else 0)
    split
    · exact Sz.one (by decide)
    · exact Sz.zero (by decide)
/-- the ring's k-th and the one before -/
theorem onRing {ks : List Nat} (nd : ks.Nodup) (h2 : 2 ≤ ks.length) {k : Nat} (hk : k < ks.length) : ∃ v, v ∈ ks ∧ v ≠ ks[k] ∧ ∀ P : A → Prop, P (iA v) → onAt (ks.map iA) ((k : Int) - 1) P := by
  cases k with
  | zero =>
    have hl : ks.length - 1 < ks.length := by omega
    refine ⟨ks[ks.length - 1], List.getElem_mem hl, fun z => ?_, fun P p => ?_⟩
    · have := (List.getElem_inj nd).mp z
      omega
    · refine onAt_neg (by omega) (by rw [List.length_map]; omega) (a := iA (ks[ks.length - 1])) ?_ p
      rw [List.length_map, show (((0 : Nat) : Int) - 1 + (ks.length : Int)).toNat = ks.length - 1 by omega, List.getElem?_map, List.getElem?_eq_getElem hl]; rfl
  | succ k =>
    have hl : k < ks.length := by omega
    refine ⟨ks[k], List.getElem_mem hl, fun z => ?_, fun P p => ?_⟩
    · have := (List.getElem_inj nd).mp z
      omega
    · rw [show (((k + 1 : Nat) : Int) - 1) = (k : Int) by omega]
      exact onAt_of (a := iA ks[k]) (by rw [List.getElem?_map, List.getElem?_eq_getElem hl]; rfl) p
theorem ind_A (i v : Nat) : A.tup [.int (if eqA (.int i) (.int v) then 1 else 0), .int 1] = qA (if i = v then 1 else 0) := by
  rw [eqA_int]
  by_cases e : i = v
  · rw [if_pos e, if_pos (decide_eq_true (by omega))]; rfl
  · rw [if_neg e, if_neg (by simpa using (show ¬ (i : Int) = v by omega))]; rfl
theorem rg_iA (n : Nat) : rgA 0 n = (List.range n).map iA := by rw [rgA_tab]; rfl
theorem c_shuffledR {dl : List A} {n : Nat} {P : Res → List (List A) → Prop} {EP : Ex → Prop} (hd : DOk dl) (hl : n ≤ 1000) (h : ∀ (ks : List Nat) dl', ks.Perm (List.range n) → DOk dl' → P (.ow (ks.map iA)) [dl']) : m_shuffled [.ow true dl, .sh (.lst (rgA 0 n))] P EP := by
  rw [rg_iA]
  exact c_shuffled hd (by rw [List.length_range]; exact hl) h
theorem ok__law_graph (args : List Slot) (P : Res → List (List A) → Prop) (EP : Ex → Prop) (h : m_graph args P EP) : args.length = 2 ∧ denF (den__law_graph m_rare m_draw m_parted m_pass_row m_shuffled) 8 args P EP := by
  obtain ⟨dl0, n, rfl, hd, h1, h5, hP⟩ := h
  -- the end
  have fin : ∀ (dl : List A) (r : Nat → Rat) (p : Nat → Nat → Rat) (s2 s3 s6 s7 s8 s9 : Slot), DOk dl → RowOk n r → RowsOk n p → 
      (cRet (cSh (cTup [(cVar 4), (cUn fTuple (cPeek 5))]))) { nx := fun e => AL.collect [Slot.ow true dl0, Slot.sh (.int n)] e fun o => P (.sh .non) o, rt := fun r e => AL.collect [Slot.ow true dl0, Slot.sh (.int n)] e fun o => P r o, bk := fun _ => False, ct := fun _ => False } (fun x _ => noPin [Slot.ow true dl0, Slot.sh (.int n)] = true ∧ EP x) [.ow true dl, .sh (.int n), s2, s3, .sh (ratesA n r), .ow false (rowsL n n p), s6, s7, s8, s9] := fun dl r p s2 s3 s6 s7 s8 s9 hd hr hp => by
    obtain ⟨g1, g2⟩ := rows_ok h1 h5 hr hp
    exact hP r p dl hd g1 g2
  -- the ring
  have loop : ∀ (dl : List A) (r : Nat → Rat) (p : Nat → Nat → Rat) (s2 s3 s7 s8 s9 : Slot) (L : List A) (ks : List Nat), L = ks.map iA → ks.Nodup → 2 ≤ ks.length → ks.length ≤ n → (∀ k ∈ ks, k < n) → DOk dl → RowOk n r → RowsOk n p → 
      (cFor (cRg1 (cUn fLen (cPeek 6))) (gN 7) (cSetIx 5 (cUn fTuple (cFz (cLC (cRg1 (cVar 1)) (gN 9) cYes (cTup [(cUn fInt (cOp fEq (cVar 9) (cIxN 6 (cOp fSub (cVar 7) (cK (.int 1)))))), (cK (.int 1))]) [9]))) (cIxN 6 (cVar 7))))
      { nx := fun e1 => (cRet (cSh (cTup [(cVar 4), (cUn fTuple (cPeek 5))]))) { nx := fun e => AL.collect [Slot.ow true dl0, Slot.sh (.int n)] e fun o => P (.sh .non) o, rt := fun r e => AL.collect [Slot.ow true dl0, Slot.sh (.int n)] e fun o => P r o, bk := fun _ => False, ct := fun _ => False } (fun x _ => noPin [Slot.ow true dl0, Slot.sh (.int n)] = true ∧ EP x) e1, rt := fun r e => AL.collect [Slot.ow true dl0, Slot.sh (.int n)] e fun o => P r o, bk := fun _ => False, ct := fun _ => False } (fun x _ => noPin [Slot.ow true dl0, Slot.sh (.int n)] = true ∧ EP x) [.ow true dl, .sh (.int n), s2, s3, .sh (ratesA n r), .ow false (rowsL n n p), .sh (.lst L), s7, s8, s9] := fun dl r p s2 s3 s7 s8 s9 L ks hL nd h2 hkn hks hd hr hp => by
    subst hL
    have hl : ((ks.map iA).length : Int) = ks.length := by rw [List.length_map]
    refine And.intro (by rw [hl]; omega) (And.intro (by rw [hl]; omega) ?_)
    rw [show (((ks.map iA).length : Int)).toNat = ks.length by rw [hl]; omega]
    refine for_rg (fun k e => ∃ (p : Nat → Nat → Rat) (M : List A) (s7 s9 : Slot), M = rowsL n n p ∧ RowsOk n p ∧ e = [.ow true dl, .sh (.int n), s2, s3, .sh (ratesA n r), .ow false M, .sh (.lst (ks.map iA)), s7, s8, s9]) ⟨p, _, _, _, rfl, hp, rfl⟩ (fun k hk e he nx hn => ?_) fun e he => ?_
    · obtain ⟨p, M, s7, s9, rfl, hp, rfl⟩ := he
      obtain ⟨v, hv, hne, hat⟩ := onRing nd h2 hk
      refine And.intro (by omega) (And.intro (by omega) ?_)
      refine comp_rg (fun i => A.tup [.int (if eqA (.int i) (.int v) then 1 else 0), .int 1]) (fun i hi k' hk' => ?_) (by omega) ?_
      · exact hat _ (And.intro (eqOk_int _) (And.intro (eqOk_int _) (hk' _ rfl)))
      · refine onAt_of (a := iA ks[k]) (by rw [List.getElem?_map, List.getElem?_eq_getElem hk]; rfl) ?_
        have hj := hks _ (List.getElem_mem hk)
        refine setAt (by unfold rowsL; rw [tab_length]; exact hj) ?_
        refine hn _ ⟨_, _, _, _, ?_, rowsOk_set (j := ks[k]) (r := fun i => if i = v then 1 else 0) hp ind_ok (if_neg fun z => hne z.symm), rfl⟩
        rw [← rowsL_set hj]
        congr 2
        exact tab_congr fun i _ => ind_A i v
    · obtain ⟨p, M, s7, s9, rfl, hp, rfl⟩ := he
      exact fin dl r p s2 s3 (.sh (.lst (ks.map iA))) s7 s8 s9 hd hr hp
  -- rates and rows stand
  have rest : ∀ (dl : List A) (r : Nat → Rat) (p : Nat → Nat → Rat) (s2 s3 s6 s7 s8 s9 : Slot), DOk dl → RowOk n r → RowsOk n p → 
      (cSeq (cIf (cAndT (cB (cOp fGt (cVar 1) (cK (.int 1)))) (cB (cOp fEq (cFz (cCall m_draw (cBorA 0 (cConsA (cK (.int 4)) cNilA)))) (cK (.int 1))))) (cSeq (cSet 6 (cSh (cSl (cFz (cCall m_shuffled (cBorA 0 (cConsA (cFz (cListRg (cVar 1))) cNilA)))) cNoP (cPart (cOp fAdd (cK (.int 2)) (cFz (cCall m_draw (cBorA 0 (cConsA (cOp fSub (cVar 1) (cK (.int 1))) cNilA)))))))))
    (cFor (cRg1 (cUn fLen (cPeek 6))) (gN 7) (cSetIx 5 (cUn fTuple (cFz (cLC (cRg1 (cVar 1)) (gN 9) cYes (cTup [(cUn fInt (cOp fEq (cVar 9) (cIxN 6 (cOp fSub (cVar 7) (cK (.int 1)))))), (cK (.int 1))]) [9]))) (cIxN 6 (cVar 7))))) cNext)
    (cRet (cSh (cTup [(cVar 4), (cUn fTuple (cPeek 5))])))) { nx := fun e => AL.collect [Slot.ow true dl0, Slot.sh (.int n)] e fun o => P (.sh .non) o, rt := fun r e => AL.collect [Slot.ow true dl0, Slot.sh (.int n)] e fun o => P r o, bk := fun _ => False, ct := fun _ => False } (fun x _ => noPin [Slot.ow true dl0, Slot.sh (.int n)] = true ∧ EP x) [.ow true dl, .sh (.int n), s2, s3, .sh (ratesA n r), .ow false (rowsL n n p), s6, s7, s8, s9] := fun dl r p s2 s3 s6 s7 s8 s9 hd hr hp => by
    refine iteD (fun hn => ?_) fun hn => fin dl r p s2 s3 s6 s7 s8 s9 hd hr hp
    have hn : 1 < n := by
      have : (1 : Int) < n := by simpa using hn
      omega
    refine cB1 rfl (c_draw hd (by decide) (by decide) fun r4 dl hr4 hd => And.intro (eqOk_int _) (And.intro (eqOk_int 1) (iteD (fun h4 => ?_) fun h4 => fin dl r p s2 s3 s6 s7 s8 s9 hd hr hp)))
    refine And.intro (by unfold L2.RgOk; omega) ?_
    refine cB1 rfl (c_shuffledR hd (by omega) fun ks dl hks hd => ?_)
    refine cB1 rfl (c_draw hd (by omega) (by omega) fun r2 dl hr2 hd => ?_)
    have hlen : ks.length = n := by rw [hks.length_eq, List.length_range, Int.toNat_natCast]
    refine loop dl r p s2 s3 s7 s8 s9 _ (ks.take (2 + r2)) ?_ ?_ ?_ ?_ ?_ hd hr hp
    · rw [cut_take _ (by omega), List.map_take, show ((2 : Int) + (r2 : Int)).toNat = 2 + r2 by omega]
    · exact (hks.symm.nodup List.nodup_range).sublist (List.take_sublist _ _)
    · rw [List.length_take]; omega
    · rw [List.length_take]; omega
    · intro k hk
      have := hks.mem_iff.mp (List.mem_of_mem_take hk)
      simpa using this
  refine ⟨rfl, cB1 rfl (c_rare hd (by decide) (by decide) fun b dl hd => ?_)⟩
  have go : ∀ (m : Int) (Q : List A → Ev → Prop), 0 < m → m ≤ 1000 → (∀ (dl : List A) (ts : List Nat), (∀ t ∈ ts, t < 1000) → ts.length = n → DOk dl → Q (ts.map iA) [.ow true dl, .sh (.int n), .sh (.int m), .no, .no, .no, .no, .no, .no, .no]) → 
      compA (gN 8) cYes (cFz (cCall m_draw (cBorA 0 (cConsA (cVar 2) cNilA)))) [8] Q (rgA 0 n) [] [.ow true dl, .sh (.int n), .sh (.int m), .no, .no, .no, .no, .no, .no, .no] := fun m Q hm0 hm1 hQ => by
    refine comp_inv (fun acc e => ∃ (dl : List A) (ts : List Nat), acc = ts.map iA ∧ (∀ t ∈ ts, t < 1000) ∧ DOk dl ∧ e = [.ow true dl, .sh (.int n), .sh (.int m), .no, .no, .no, .no, .no, .no, .no]) ⟨dl, [], rfl, fun _ h => absurd h (by simp), hd, rfl⟩ (fun x hx acc e hI k hk => ?_) (by rw [rgA_length]; omega) fun acc e hI hl => ?_
    · obtain ⟨dl, ts, rfl, ht, hd, rfl⟩ := hI
      refine cB1 rfl (c_draw hd hm0 (by omega) fun r dl' hr hd' => hk _ _ ⟨dl', ts ++ [r], by rw [List.map_append]; rfl, fun t h => ?_, hd', rfl⟩)
      rcases List.mem_append.mp h with h | h
      · exact ht t h
      · rw [List.mem_singleton.mp h]; omega
    · obtain ⟨dl, ts, rfl, ht, hd, rfl⟩ := hI
      rw [List.length_map, rgA_length] at hl
      exact hQ dl ts ht hl hd
  have rows : ∀ (dl : List A) (m : Int) (ts : List Nat) (r : Nat → Rat) (Q : List A → Ev → Prop), DOk dl → (∀ (dl : List A) (p : Nat → Nat → Rat), DOk dl → RowsOk n p → Q (rowsL n n p) [.ow true dl, .sh (.int n), .sh (.int m), .sh (.lst (ts.map iA)), .sh (ratesA n r), .no, .no, .no, .no, .no]) → 
      compA (gN 8) cYes (cFz (cCall m_pass_row (cBorA 0 (cConsA (cVar 1) (cConsA (cVar 8) cNilA))))) [8] Q (rgA 0 n) [] [.ow true dl, .sh (.int n), .sh (.int m), .sh (.lst (ts.map iA)), .sh (ratesA n r), .no, .no, .no, .no, .no] := fun dl m ts r Q hd hQ => by
    refine comp_rgI (fun acc e => ∃ (dl : List A) (p : Nat → Nat → Rat), acc = rowsL n acc.length p ∧ (∀ i, i < acc.length → RowOk n (p i) ∧ p i i = 0) ∧ DOk dl ∧ e = [.ow true dl, .sh (.int n), .sh (.int m), .sh (.lst (ts.map iA)), .sh (ratesA n r), .no, .no, .no, .no, .no]) ⟨dl, fun _ _ => 0, rfl, fun i hi => absurd hi (by simp), hd, rfl⟩ (fun acc e hl hI k hk => ?_) (by omega) fun acc e hI hl => ?_
    · obtain ⟨dl, p, hacc, hp, hd, rfl⟩ := hI
      refine cB2 rfl (c_pass_row hd h5 hl fun r' dl' hd' hr' h0 => hk _ _ ⟨dl', fun i => if i = acc.length then r' else p i, ?_, fun i hi => ?_, hd', rfl⟩)
      · rw [List.length_append]
        show acc ++ [ratesA n r'] = rowsL n (acc.length + 1) _
        rw [← rowsL_push, ← hacc]
      · rw [List.length_append] at hi
        have hi : i < acc.length + 1 := hi
        by_cases e : i = acc.length
        · simp only [if_pos e]; rw [e]; exact ⟨hr', h0⟩
        · simp only [if_neg e]; exact hp i (by omega)
    · obtain ⟨dl, p, hacc, hp, hd, rfl⟩ := hI
      rw [hl] at hacc hp
      rw [hacc]
      exact hQ dl p hd hp
  cases b with
  | true =>
    refine And.intro (by omega) (And.intro (by omega) (go 1000 _ (by decide) (by decide) fun dl ts ht hl hd => ?_))
    refine cB1 rfl (c_draw hd (by decide) (by decide) fun s dl hs hd => ?_)
    refine cV2 (c_parted ht (by omega) (by omega) fun r hr hz => ?_)
    rw [hl] at hr ⊢
    refine And.intro (by omega) (And.intro (by omega) (rows dl 1000 ts r _ hd fun dl p hd hp => ?_))
    exact rest dl r p _ _ _ _ _ _ hd hr hp
  | false =>
    refine And.intro (by omega) (And.intro (by omega) (go 4 _ (by decide) (by decide) fun dl ts ht hl hd => ?_))
    refine cB1 rfl (c_draw hd (by decide) (by decide) fun s dl hs hd => ?_)
    refine cV2 (c_parted ht (by omega) (by omega) fun r hr hz => ?_)
    rw [hl] at hr ⊢
    refine And.intro (by omega) (And.intro (by omega) (rows dl 4 ts r _ hd fun dl p hd hp => ?_))
    exact rest dl r p _ _ _ _ _ _ hd hr hp
end K59
/-! what each def promises: bent graphs -/
namespace K59
open PySem AL
def m_odd : FnM := fun args P _ => ∃ (dl : List A), args = [.ow true dl] ∧ DOk dl ∧ ∀ x dl', bnd 40 x = true → DOk dl' → P (.sh x) [dl']
theorem c_odd {dl : List A} {P : Res → List (List A) → Prop} {EP : Ex → Prop} (hd : DOk dl) (h : ∀ x dl', bnd 40 x = true → DOk dl' → P (.sh x) [dl']) : m_odd [.ow true dl] P EP := ⟨dl, rfl, hd, h⟩
theorem ok__law_odd (args : List Slot) (P : Res → List (List A) → Prop) (EP : Ex → Prop) (h : m_odd args P EP) : args.length = 1 ∧ denF (den__law_odd m_pick) 1 args P EP := by
  obtain ⟨dl, rfl, hd, hP⟩ := h
  refine ⟨rfl, And.intro (by decide) ?_⟩
  refine cB1 rfl (c_pick hd (by decide) (by decide) fun x hx dl' hd' => hP x dl' ?_ hd')
  refine bnds_iff.mp ?_ x hx
  simp [bnds, bnd]
def m_put : FnM := fun args P _ => ∃ (C i : Nat) (xs : List A) (x : A), args = [.sh (.tup xs), .sh (.int i), .sh x] ∧ bnds C xs = true ∧ bnd C x = true ∧ xs.length ≤ 1000 ∧ ∀ ys, bnds C ys = true → P (.sh (.tup ys)) []
theorem c_put {C i : Nat} {xs : List A} {x : A} {P : Res → List (List A) → Prop} {EP : Ex → Prop} (h1 : bnds C xs = true) (h2 : bnd C x = true) (hl : xs.length ≤ 1000) (h : ∀ ys, bnds C ys = true → P (.sh (.tup ys)) []) : m_put [.sh (.tup xs), .sh (.int i), .sh x] P EP := ⟨C, i, xs, x, rfl, h1, h2, hl, h⟩
theorem line_le {n : Nat} (h : n ≤ 5000) : n ≤ sizeLine := Nat.le_trans h (by decide)
theorem ok__law_put (args : List Slot) (P : Res → List (List A) → Prop) (EP : Ex → Prop) (h : m_put args P EP) : args.length = 3 ∧ denF den__law_put 0 args P EP := by
  obtain ⟨C, i, xs, x, rfl, h1, h2, hl, hP⟩ := h
  have l1 := cut_len xs none (some (i : Int))
  have l2 := cut_len xs (some ((i : Int) + 1)) none
  refine ⟨rfl, And.intro (line_le (by simp only [List.length_cons, List.length_nil]; omega)) (And.intro (line_le (by rw [List.length_append]; simp only [List.length_cons, List.length_nil]; omega)) ?_)⟩
  refine hP _ (bnds_iff.mpr fun y hy => ?_)
  rcases List.mem_append.mp hy with hy | hy
  · rcases List.mem_append.mp hy with hy | hy
    · exact bnds_iff.mp h1 y (cut_sub hy)
    · rw [List.mem_singleton.mp hy]; exact h2
  · exact bnds_iff.mp h1 y (cut_sub hy)
/-- filled up to just 1, or a little more -/
def m_filled : FnM := fun args P _ => ∃ (dl : List A) (n i : Nat) (r : Nat → Rat), args = [.ow true dl, .sh (ratesA n r), .sh (.int i)] ∧ DOk dl ∧ n ≤ 5 ∧ i < n ∧ (∀ i, i < n → Sz 13 (r i)) ∧ ∀ q dl', Sz 900 q → DOk dl' → P (.sh (qA q)) [dl']
theorem c_filled {dl : List A} {n i : Nat} {r : Nat → Rat} {P : Res → List (List A) → Prop} {EP : Ex → Prop} (hd : DOk dl) (h5 : n ≤ 5) (hi : i < n) (hs : ∀ i, i < n → Sz 13 (r i)) (h : ∀ q dl', Sz 900 q → DOk dl' → P (.sh (qA q)) [dl']) : m_filled [.ow true dl, .sh (ratesA n r), .sh (.int i)] P EP := ⟨dl, n, i, r, rfl, hd, h5, hi, hs, h⟩
theorem one_over {k : Int} (hk : 1 ≤ k) : A.tup [.int 1, .int k] = qA (Rat.divInt 1 k) := frOf_eq (by
  rw [frOf_ii, if_pos ⟨hk, by simp⟩])
theorem ok__law_filled (args : List Slot) (P : Res → List (List A) → Prop) (EP : Ex → Prop) (h : m_filled args P EP) : args.length = 3 ∧ denF (den__law_filled m_plus m_minus m_total m_draw) 1 args P EP := by
  obtain ⟨dl, n, i, r, rfl, hd, h5, hi, hs, hP⟩ := h
  have hrow : ratesA n r = rowA ((List.range n).map r) := by unfold ratesA rowA; rw [tab_row]
  have hsz : SzL 13 ((List.range n).map r) := ⟨fun q hq => by
    obtain ⟨j, hj, rfl⟩ := List.mem_map.mp hq
    exact hs j (by simpa using hj)⟩
  have hlen : ((List.range n).map r).length = n := by simp
  have hsum := sz_sum (B := 13) (by decide) hsz
  rw [hlen] at hsum
  have hsum := hsum.mono (C := 71) (by omega)
  have h1 := (Sz.one (B := 71) (by decide)).sub hsum
  have hf := ((hs i hi).mono (C := 71 + 71 + 1) (by decide)).add h1
  refine ⟨rfl, onTab hi ?_⟩
  have tot : ∀ {P : Res → List (List A) → Prop} {EP : Ex → Prop}, P (.sh (qA ((List.range n).map r).sum)) [] → m_total [.sh (ratesA n r)] P EP := fun {P EP} h => by
    rw [hrow]
    exact c_total 13 hsz (by decide) (by rw [hlen]; omega) (by rw [hlen]; omega) h
  refine cV1 (tot ?_)
  refine cV2 (c_op (a := 1) 71 (Sz.one (by decide)) hsum trivial (by decide) ?_)
  refine cV2 (c_op (71 + 71 + 1) ((hs i hi).mono (by decide)) h1 trivial (by decide) ?_)
  refine cB1 rfl (c_draw hd (by decide) (by decide) fun k dl hk hd => And.intro (eqOk_int _) (And.intro (eqOk_int _) (iteD (fun h0 => ?_) fun h0 => ?_)))
  · exact hP _ dl (hf.mono (by decide)) hd
  · refine And.intro ⟨by decide, by decide, by decide⟩ ?_
    refine cB1 rfl (c_draw hd (by decide) (by decide) fun k dl hk hd => ?_)
    have hk : (k : Int) < 10 ^ 9 := hk
    have e := one_over (k := 1 + (k : Int)) (by omega)
    have hz : Sz (71 + 71 + 1 + (71 + 71 + 1) + 1) (Rat.divInt 1 (1 + (k : Int))) := sz_divInt (by omega) (by decide) (Nat.lt_of_lt_of_le (show (1 + (k : Int)).natAbs < 2 ^ 31 by omega) (two_le (by decide)))
    have add : ∀ {P : Res → List (List A) → Prop} {EP : Ex → Prop} {q : Rat}, Sz (71 + 71 + 1 + (71 + 71 + 1) + 1) q → P (.sh (qA (q + Rat.divInt 1 (1 + (k : Int))))) [] → m_plus [.sh (qA q), .sh (.tup [.int 1, .int (1 + (k : Int))])] P EP := fun {P EP q} hq h => by
      rw [e]
      exact c_op _ hq hz trivial (by decide) h
    refine cV2 (add hf ?_)
    exact hP _ dl ((hf.add hz).mono (by decide)) hd
def m_nothing : FnM := fun args P _ => ∃ n : Nat, args = [.sh (.int n)] ∧ n ≤ 7 ∧ ∀ x, bnd 40 x = true → P (.sh x) []
theorem c_nothing {n : Nat} {P : Res → List (List A) → Prop} {EP : Ex → Prop} (hn : n ≤ 7) (h : ∀ x, bnd 40 x = true → P (.sh x) []) : m_nothing [.sh (.int n)] P EP := ⟨n, rfl, hn, h⟩
theorem ok__law_nothing (args : List Slot) (P : Res → List (List A) → Prop) (EP : Ex → Prop) (h : m_nothing args P EP) : args.length = 1 ∧ denF den__law_nothing 2 args P EP := by
  obtain ⟨n, rfl, hn, hP⟩ := h
  refine ⟨rfl, And.intro (by omega) (And.intro (by omega) ?_)⟩
  refine comp_rg (fun _ => .tup [.int 0, .int 1]) (fun i hi k hk => hk _ rfl) (by omega) ?_
  refine And.intro (by omega) (And.intro (by omega) ?_)
  refine comp_rg (fun _ => .tup (tab n fun _ => .tup [.int 0, .int 1])) (fun i hi k hk => hk _ rfl) (by omega) ?_
  refine hP _ ?_
  have z : bnd 40 (A.tup [.int 0, .int 1]) = true := by simp [bnd, bnds]
  have z2 : bnd 40 (A.tup (tab n fun _ => .tup [.int 0, .int 1])) = true := by rw [bnd_tup]; exact bnds_tab fun i _ => z
  rw [bnd_tup]
  simp only [bnds, Bool.and_true, Bool.and_eq_true]
  exact ⟨z2, by rw [bnd_tup]; exact bnds_tab fun i _ => z2⟩
end K59
/-! what each def promises: bent graphs, the law -/
namespace K59
open PySem AL
def m_bent : FnM := fun args P _ => ∃ (dl : List A) (n : Nat) (k : Int) (r : Nat → Rat) (p : Nat → Nat → Rat), args = [.ow true dl, .sh (gA n r p), .sh (.int k)] ∧ DOk dl ∧ 1 ≤ n ∧ GSz n 13 r p ∧ ∀ x dl', bnd BB x = true → DOk dl' → P (.sh x) [dl']
theorem c_bent {dl : List A} {n : Nat} {k : Int} {r : Nat → Rat} {p : Nat → Nat → Rat} {P : Res → List (List A) → Prop} {EP : Ex → Prop} (hd : DOk dl) (h1 : 1 ≤ n) (g : GSz n 13 r p) (h : ∀ x dl', bnd BB x = true → DOk dl' → P (.sh x) [dl']) :
    m_bent [.ow true dl, .sh (gA n r p), .sh (.int k)] P EP := ⟨dl, n, k, r, p, rfl, hd, h1, g, h⟩
theorem bnd01 {B : Nat} (h : 0 < B) : bnd B (A.tup [.int 0, .int 1]) = true := bnd_q (q := 0) (Sz.zero h)
theorem bnd_nil {B : Nat} : bnd B (A.tup []) = true := by simp [bnd, bnds]
theorem bnds_app {B : Nat} {xs ys : List A} (h1 : bnds B xs = true) (h2 : bnds B ys = true) : bnds B (xs ++ ys) = true := bnds_iff.mpr fun x hx => by
  rcases List.mem_append.mp hx with h | h
  · exact bnds_iff.mp h1 x h
  · exact bnds_iff.mp h2 x h
theorem bnds_cut {B : Nat} {xs : List A} {lo hi : Option Int} (h : bnds B xs = true) : bnds B (cutA xs lo hi) = true := bnds_iff.mpr fun x hx => bnds_iff.mp h x (cut_sub hx)
theorem bnds_1 {B : Nat} {x : A} (h : bnd B x = true) : bnds B [x] = true := by simp [bnds, h]
theorem bnd_pair {B : Nat} {x y : A} (h : bnd B x = true) (h2 : bnd B y = true) : bnd B (.tup [x, y]) = true := by simp [bnd, bnds, h, h2]
theorem tab_line {n m : Nat} {f : Nat → A} (hn : n ≤ 5) (hm : m ≤ 1000) : (tab n f).length + m ≤ sizeLine := line_le (by rw [tab_length]; omega)
theorem ok__law_bent_whole (args : List Slot) (P : Res → List (List A) → Prop) (EP : Ex → Prop) (h : m_bent args P EP) : args.length = 3 ∧ denF (den__law_bent_whole m_pick m_nothing) 7 args P EP := by
  obtain ⟨dl, n, k, r, p, rfl, hd, h1, g, hP⟩ := h
  have n5 := g.n5
  have hr : bnd BB (ratesA n r) = true := bnd_up (by decide) _ (bnd_rates g.r)
  have hp : bnd BB (passesA n p) = true := bnd_up (by decide) _ (bnd_passes g.p)
  have hrs : bnds BB (tab n fun i => qA (r i)) = true := by have := hr; unfold ratesA at this; rwa [bnd_tup] at this
  have hps : bnds BB (tab n fun i => ratesA n (p i)) = true := by have := hp; unfold passesA at this; rwa [bnd_tup] at this
  have z : bnd BB (A.tup [.int 0, .int 1]) = true := bnd01 (by decide)
  have rl : ∀ m : Nat, m ≤ 1000 → (tab n fun i => qA (r i)).length + m ≤ sizeLine := fun m hm => tab_line n5 hm
  have pl : ∀ m : Nat, m ≤ 1000 → (tab n fun i => ratesA n (p i)).length + m ≤ sizeLine := fun m hm => tab_line n5 hm
  refine ⟨rfl, And.intro rfl ?_⟩
  refine And.intro (eqOk_int _) (And.intro (eqOk_int _) (iteD (fun h0 => ?_) fun h0 => ?_))
  · refine cB1 rfl (c_pick hd (show 0 < 10 by decide) (show 10 ≤ 1000 by decide) fun x hx dl hd => hP x dl (bnds_iff.mp ?_ x hx) hd)
    have hr' : bnd BB (.tup (tab n fun i => qA (r i))) = true := hr
    have hp' : bnd BB (.tup (tab n fun i => ratesA n (p i))) = true := hp
    show bnds BB [.non, .int 0, .str _, .bl true, .tup [], .tup [ratesA n r], .tup [ratesA n r, passesA n p, passesA n p], .tup [passesA n p, ratesA n r], ratesA n r, passesA n p] = true
    simp [bnds, bnd, hr, hp]
    exact Nat.two_pow_pos _
  refine And.intro (eqOk_int _) (And.intro (eqOk_int _) (iteD (fun h0 => ?_) fun h0 => ?_))
  · refine And.intro (rl 1 (by decide)) ?_
    refine onTab (i := 0) (by omega) ?_
    refine cB1 rfl (c_pick hd (show 0 < 8 by decide) (show 8 ≤ 1000 by decide) fun x hx dl hd => hP _ dl (bnd_pair (bnds_iff.mp ?_ x hx) hp) hd)
    show bnds BB [.non, .int 1, .str _, .tup [], .tup ((tab n fun i => qA (r i)) ++ [.tup [.int 0, .int 1]]), .tup (cutA (tab n fun i => qA (r i)) (some 1) none), .tup [ratesA n r], qA (r 0)] = true
    have e1 : bnd BB (.tup ((tab n fun i => qA (r i)) ++ [.tup [.int 0, .int 1]])) = true := by rw [bnd_tup]; exact bnds_app hrs (bnds_1 z)
    have e2 : bnd BB (.tup (cutA (tab n fun i => qA (r i)) (some 1) none)) = true := by rw [bnd_tup]; exact bnds_cut hrs
    have e3 : bnd BB (qA (r 0)) = true := bnd_q ((g.r 0 (by omega)).mono (by decide))
    have e4 : bnd BB (.tup [ratesA n r]) = true := by rw [bnd_tup]; exact bnds_1 hr
    simp only [bnds, e1, e2, e3, e4, bnd_nil, Bool.and_true]
    simp [bnd]
  refine And.intro (eqOk_int _) (And.intro (eqOk_int _) (iteD (fun h0 => ?_) fun h0 => ?_))
  · refine onTab (i := 0) (by omega) (And.intro (pl 1 (by decide)) ?_)
    refine And.intro (pl 1 (by decide)) (onTab (i := 0) (by omega) ?_)
    refine cB1 rfl (c_pick hd (show 0 < 8 by decide) (show 8 ≤ 1000 by decide) fun x hx dl hd => hP _ dl (bnd_pair hr (bnds_iff.mp ?_ x hx)) hd)
    show bnds BB [.non, .int 0, .str _, .tup [], .tup (cutA (tab n fun i => ratesA n (p i)) (some 1) none), .tup ((tab n fun i => ratesA n (p i)) ++ [ratesA n (p 0)]), .tup ((tab n fun i => ratesA n (p i)) ++ [.tup []]), ratesA n (p 0)] = true
    have zz : decide (Int.natAbs 0 < 2 ^ BB) = true := decide_eq_true (Nat.two_pow_pos _)
    have e3 : bnd BB (ratesA n (p 0)) = true := bnd_up (by decide) _ (bnd_rates fun j hj => g.p 0 j (by omega) hj)
    have e1 : bnd BB (.tup ((tab n fun i => ratesA n (p i)) ++ [ratesA n (p 0)])) = true := by rw [bnd_tup]; exact bnds_app hps (bnds_1 e3)
    have e4 : bnd BB (.tup ((tab n fun i => ratesA n (p i)) ++ [.tup []])) = true := by rw [bnd_tup]; exact bnds_app hps (bnds_1 bnd_nil)
    have e2 : bnd BB (.tup (cutA (tab n fun i => ratesA n (p i)) (some 1) none)) = true := by rw [bnd_tup]; exact bnds_cut hps
    simp only [bnds, bnd_int, zz, e1, e2, e3, e4, bnd_nil, Bool.and_true]
    simp [bnd]
  refine And.intro (eqOk_int _) (And.intro (eqOk_int _) (iteD (fun h0 => ?_) fun h0 => ?_))
  · have hl : ((tab n fun i => qA (r i)).length : Int) = n := by rw [tab_length]
    refine And.intro (by rw [hl]; omega) (And.intro (by rw [hl]; omega) ?_)
    rw [show (((tab n fun i => qA (r i)).length : Int) + 1).toNat = n + 1 by rw [hl]; omega]
    refine comp_rg (fun _ => .tup [.int 0, .int 1]) (fun i hi k hk => hk _ rfl) (by omega) ?_
    refine And.intro (rl 1 (by decide)) ?_
    refine comp_tab (fun i => .tup ((tab n fun j => qA (p i j)) ++ [.tup [.int 0, .int 1]])) (fun i hi k hk => And.intro (tab_line n5 (by decide)) (hk _ (by rfl))) (by omega) ?_
    refine And.intro (tab_line n5 (show 1 ≤ 1000 by decide)) ?_
    refine hP _ dl (bnd_pair (by rw [bnd_tup]; exact bnds_app hrs (bnds_1 z)) (by
      rw [bnd_tup]
      refine bnds_app (bnds_tab fun i hi => ?_) (bnds_1 ?_)
      · rw [bnd_tup]
        exact bnds_app (bnds_tab fun j hj => bnd_q ((g.p i j hi hj).mono (by decide))) (bnds_1 z)
      · rw [bnd_tup]
        exact bnds_tab fun i _ => z)) hd
  refine And.intro (eqOk_int _) (And.intro (eqOk_int _) (iteD (fun h0 => ?_) fun h0 => ?_))
  · refine cB1 rfl (c_pick hd (show 0 < 5 by decide) (show 5 ≤ 1000 by decide) fun x hx dl hd => ?_)
    have hx : x = .int (0 : Nat) ∨ x = .int (6 : Nat) ∨ x = .int (1 : Nat) ∨ x = .int (5 : Nat) ∨ x = .int (7 : Nat) := by simpa using hx
    rcases hx with rfl | rfl | rfl | rfl | rfl
    · exact cV1 (c_nothing (by decide) fun x hx => hP x dl (bnd_up (by decide) _ hx) hd)
    · exact cV1 (c_nothing (by decide) fun x hx => hP x dl (bnd_up (by decide) _ hx) hd)
    · exact cV1 (c_nothing (by decide) fun x hx => hP x dl (bnd_up (by decide) _ hx) hd)
    · exact cV1 (c_nothing (by decide) fun x hx => hP x dl (bnd_up (by decide) _ hx) hd)
    · exact cV1 (c_nothing (by decide) fun x hx => hP x dl (bnd_up (by decide) _ hx) hd)
  · refine And.intro (line_le ?_) (hP _ dl (bnd_pair hr (by rw [bnd_tup]; exact bnds_app (bnds_cut hps) (bnds_cut hps))) hd)
    have l1 := cut_len (tab n fun i => ratesA n (p i)) (some 1) none
    have l2 := cut_len (tab n fun i => ratesA n (p i)) none (some 1)
    rw [tab_length] at l1 l2
    exact Nat.le_trans (Nat.add_le_add l1 l2) (by omega)
end K59
/-! what each def promises: bent parts, the law -/
namespace K59
open PySem AL
theorem ok__law_bent_part (args : List Slot) (P : Res → List (List A) → Prop) (EP : Ex → Prop) (h : m_bent args P EP) : args.length = 3 ∧ denF (den__law_bent_part m_draw m_put m_odd m_filled m_pick m_times) 8 args P EP := by
  obtain ⟨dl, n, k, r, p, rfl, hd, h1, g, hP⟩ := h
  have n5 := g.n5
  have hr : bnd BB (ratesA n r) = true := bnd_up (by decide) _ (bnd_rates g.r)
  have hp : bnd BB (passesA n p) = true := bnd_up (by decide) _ (bnd_passes g.p)
  have hrs : bnds BB (tab n fun i => qA (r i)) = true := by have := hr; unfold ratesA at this; rwa [bnd_tup] at this
  have hps : bnds BB (tab n fun i => ratesA n (p i)) = true := by have := hp; unfold passesA at this; rwa [bnd_tup] at this
  have z : bnd BB (A.tup [.int 0, .int 1]) = true := bnd01 (by decide)
  have rl : (tab n fun i => qA (r i)).length ≤ 1000 := by rw [tab_length]; omega
  have pl : (tab n fun i => ratesA n (p i)).length ≤ 1000 := by rw [tab_length]; omega
  have hl : ((tab n fun i => qA (r i)).length : Int) = n := by rw [tab_length]
  refine ⟨rfl, And.intro rfl ?_⟩
  refine cB1 rfl (c_draw hd (by rw [hl]; omega) (by rw [hl]; omega) fun i dl hi hd => ?_)
  refine cB1 rfl (c_draw hd (by rw [hl]; omega) (by rw [hl]; omega) fun j dl hj hd => ?_)
  have hi : i < n := by rw [hl] at hi; omega
  have hj : j < n := by rw [hl] at hj; omega
  have hrow : bnds BB (tab n fun j => qA (p i j)) = true := bnds_tab fun j hj => bnd_q ((g.p i j hi hj).mono (by decide))
  have rowl : (tab n fun j => qA (p i j)).length ≤ 1000 := by rw [tab_length]; omega
  refine onTab hi ?_
  refine And.intro (eqOk_int _) (And.intro (eqOk_int _) (iteD (fun h0 => ?_) fun h0 => ?_))
  · refine cB0 rfl (c_odd hd fun x dl hx hd => ?_)
    exact cV3 (c_put hrs (bnd_up (by decide) _ hx) rl fun ys hy => hP _ dl (bnd_pair (by rw [bnd_tup]; exact hy) hp) hd)
  refine And.intro (eqOk_int _) (And.intro (eqOk_int _) (iteD (fun h0 => ?_) fun h0 => ?_))
  · refine cB2 rfl (c_filled hd n5 hi g.r fun q dl hq hd => ?_)
    exact cV3 (c_put hrs (bnd_q (hq.mono (by decide))) rl fun ys hy => hP _ dl (bnd_pair (by rw [bnd_tup]; exact hy) hp) hd)
  refine And.intro (eqOk_int _) (And.intro (eqOk_int _) (iteD (fun h0 => ?_) fun h0 => ?_))
  · refine And.intro (tab_line n5 (show 1 ≤ 1000 by decide)) (onTab (i := 0) (by omega) ?_)
    refine cB1 rfl (c_pick hd (show 0 < 7 by decide) (show 7 ≤ 1000 by decide) fun x hx dl hd => ?_)
    have hx : bnd BB x = true := by
      refine bnds_iff.mp ?_ x hx
      show bnds BB [.non, .int 1, .str _, .tup [], .tup (cutA (tab n fun j => qA (p i j)) (some 1) none), .tup ((tab n fun j => qA (p i j)) ++ [.tup [.int 0, .int 1]]), qA (p i 0)] = true
      have e1 : bnd BB (.tup ((tab n fun j => qA (p i j)) ++ [.tup [.int 0, .int 1]])) = true := by rw [bnd_tup]; exact bnds_app hrow (bnds_1 z)
      have e2 : bnd BB (.tup (cutA (tab n fun j => qA (p i j)) (some 1) none)) = true := by rw [bnd_tup]; exact bnds_cut hrow
      have e3 : bnd BB (qA (p i 0)) = true := bnd_q ((g.p i 0 hi (by omega)).mono (by decide))
      simp only [bnds, e1, e2, e3, bnd_nil, Bool.and_true]
      simp [bnd]
    exact cV3 (c_put hps hx pl fun ys hy => hP _ dl (bnd_pair hr (by rw [bnd_tup]; exact hy)) hd)
  refine And.intro (eqOk_int _) (And.intro (eqOk_int _) (iteD (fun h0 => ?_) fun h0 => ?_))
  · refine cB0 rfl (c_odd hd fun x dl hx hd => ?_)
    refine cV3 (c_put hrow (bnd_up (by decide) _ hx) rowl fun ys hy => ?_)
    exact cV3 (c_put hps (by rw [bnd_tup]; exact hy) pl fun zs hz => hP _ dl (bnd_pair hr (by rw [bnd_tup]; exact hz)) hd)
  refine And.intro (eqOk_int _) (And.intro (eqOk_int _) (iteD (fun h0 => ?_) fun h0 => ?_))
  · refine cB2 rfl (c_filled (r := p i) hd n5 hj (fun j hj => g.p i j hi hj) fun q dl hq hd => ?_)
    refine cV3 (c_put hrow (bnd_q (hq.mono (by decide))) rowl fun ys hy => ?_)
    exact cV3 (c_put hps (by rw [bnd_tup]; exact hy) pl fun zs hz => hP _ dl (bnd_pair hr (by rw [bnd_tup]; exact hz)) hd)
  have half : Sz 13 (Rat.divInt 1 2) := sz_divInt (by decide) (by decide) (by decide)
  have tm : ∀ {P : Res → List (List A) → Prop} {EP : Ex → Prop} {q : Rat}, Sz 13 q → P (.sh (qA (q * Rat.divInt 1 2))) [] → m_times [.sh (qA q), .sh (.tup [.int 1, .int 2])] P EP := fun {P EP q} hq h => by
    rw [one_over (by decide)]
    exact c_op _ hq half trivial (by decide) h
  refine comp_tab (fun j => qA (p i j * Rat.divInt 1 2)) (fun j hj k hk => cV2 (tm (g.p i j hi hj) (hk _ rfl))) (by omega) ?_
  refine cB1 rfl (c_draw hd (by decide) (by decide) fun m dl hm hd => ?_)
  have hh : bnds BB (tab n fun j => qA (p i j * Rat.divInt 1 2)) = true := bnds_tab fun j hj => bnd_q (((g.p i j hi hj).mul half).mono (by decide))
  have hm : (m : Int) < 3 := hm
  have e2 : bnd BB (A.tup [.int 1, .int (2 + (m : Int))]) = true := by
    rw [one_over (by omega)]
    exact bnd_q (sz_divInt (by omega) (Nat.one_lt_two_pow (by decide)) (Nat.lt_of_lt_of_le (show (2 + (m : Int)).natAbs < 2 ^ 4 by omega) (two_le (by decide))))
  refine cV3 (c_put hh e2 (by rw [tab_length]; omega) fun ys hy => ?_)
  exact cV3 (c_put hps (by rw [bnd_tup]; exact hy) pl fun zs hz => hP _ dl (bnd_pair hr (by rw [bnd_tup]; exact hz)) hd)
def m_judged : FnM := fun args P _ => ∃ x : A, args = [.sh x] ∧ bnd BB x = true ∧ P (.sh (.bl true)) []
theorem c_judged {x : A} {P : Res → List (List A) → Prop} {EP : Ex → Prop} (hx : bnd BB x = true) (h : P (.sh (.bl true)) []) : m_judged [.sh x] P EP := ⟨x, rfl, hx, h⟩
theorem ok__law_is_judged (args : List Slot) (P : Res → List (List A) → Prop) (EP : Ex → Prop) (h : m_judged args P EP) : args.length = 1 ∧ denF (den__law_is_judged m_judge m_judge) 1 args P EP := by
  obtain ⟨x, rfl, hx, hP⟩ := h
  refine ⟨rfl, cV1 (c_judge hx ?_)⟩
  refine cV1 (c_judge hx ?_)
  generalize isGr x = b
  cases b <;> exact And.intro ⟨rfl, rfl⟩ (And.intro ⟨rfl, rfl⟩ hP)
def m_taken : FnM := fun args P _ => ∃ (n B q : Nat) (r : Nat → Rat) (p : Nat → Nat → Rat), args = [.sh (gA n r p), .sh (.int q)] ∧ GOk n r p ∧ GSz n B r p ∧ q < n ∧ 8 * B + 2 ≤ BB ∧ P (.sh (.bl true)) []
theorem c_taken {n B q : Nat} {r : Nat → Rat} {p : Nat → Nat → Rat} {P : Res → List (List A) → Prop} {EP : Ex → Prop} (g : GOk n r p) (gs : GSz n B r p) (hq : q < n) (hB : 8 * B + 2 ≤ BB) (h : P (.sh (.bl true)) []) : m_taken [.sh (gA n r p), .sh (.int q)] P EP := ⟨n, B, q, r, p, rfl, g, gs, hq, hB, h⟩
theorem ok__law_is_taken (args : List Slot) (P : Res → List (List A) → Prop) (EP : Ex → Prop) (h : m_taken args P EP) : args.length = 2 ∧ denF (den__law_is_taken m_without m_judge (m_same 4) m_without) 1 args P EP := by
  obtain ⟨n, B, q, r, p, rfl, g, gs, hq, hB, hP⟩ := h
  have hB' : B ≤ 400 := by unfold BB at hB; omega
  refine ⟨rfl, cV2 (c_without gs hq hB' ?_)⟩
  refine cV2 (c_without gs hq hB' ?_)
  refine cV2 (c_same (dep_g (by have := gs.n5; omega)) ?_)
  refine cV1 (c_judge (bnd_up hB _ (bnd_g (gs.taken hq))) ?_)
  rw [isGr_ok (g.taken hq)]
  exact hP
end K59
/-! the law's own promise -/
namespace K59
open PySem AL
theorem c_graph1 {dl : List A} {n : Nat} {P : Res → List (List A) → Prop} {EP : Ex → Prop} (hd : DOk dl) (hn : 1 + n ≤ 5) (h : ∀ r p dl', DOk dl' → GOk (1 + n) r p → GSz (1 + n) 13 r p → P (.sh (gA (1 + n) r p)) [dl']) :
    m_graph [.ow true dl, .sh (.int (1 + (n : Int)))] P EP := by
  rw [show (1 + (n : Int)) = ((1 + n : Nat) : Int) by omega]
  exact c_graph hd (by omega) hn h
theorem allTrue {n : Nat} {P : List Bool → Prop} (h : P (List.replicate n true)) : onSome (bls (tab n fun _ => .bl true)) P := by
  refine boolsTab (f := fun _ => true) ?_
  rw [List.map_const', List.length_range]; exact h
theorem all_rep (n : Nat) : (List.replicate n true).all id = true := List.all_eq_true.mpr fun x hx => List.eq_of_mem_replicate hx
theorem rg_mem {n : Nat} {x : A} (h : x ∈ rgA 0 n) : ∃ j : Nat, j < n ∧ x = .int j := by
  rw [rg_iA] at h
  obtain ⟨j, hj, rfl⟩ := List.mem_map.mp h
  exact ⟨j, by simpa using hj, rfl⟩
def m_law : FnM := fun args P _ => ∃ ns : List Int, args = [.sh (.scr ns)] ∧ ns.length ≤ 63 ∧ P (.sh (.bl true)) []
theorem ok_law (args : List Slot) (P : Res → List (List A) → Prop) (EP : Ex → Prop) (h : m_law args P EP) : args.length = 1 ∧ denF (den_law m__law_begin m_graph m_draw m_judge m_bent m_bent m_judged m_taken m_pick m_without) 9 args P EP := by
  obtain ⟨ns, rfl, hl, hP⟩ := h
  refine ⟨rfl, cV1 (c_begin (by omega) fun dl hd => ?_)⟩
  refine cB1 rfl (c_draw hd (by decide) (by decide) fun n dl hn hd => ?_)
  have hn : (n : Int) < 5 := hn
  refine cB1 rfl (c_graph1 hd (by omega) fun r p dl hd g gs => ?_)
  refine cB1 rfl (c_draw hd (by decide) (by decide) fun m dl hm hd => ?_)
  have hm : (m : Int) < 5 := hm
  refine cB1 rfl (c_graph1 hd (by omega) fun r' p' dl hd g' gs' => ?_)
  generalize hN : 1 + n = N at g gs
  generalize hM : 1 + m = M at g' gs'
  have hb : bnd BB (gA N r p) = true := bnd_up (by decide) _ (bnd_g gs)
  have hb' : bnd BB (gA M r' p') = true := bnd_up (by decide) _ (bnd_g gs')
  have b13 : 8 * 13 + 2 ≤ BB := by decide
  refine cV1 (c_judge hb ?_)
  rw [isGr_ok g]
  refine cV1 (c_judge hb' ?_)
  rw [isGr_ok g']
  -- the kinds
  refine And.intro (by decide) (And.intro (by decide) ?_)
  have hlen : ((tab N fun i => qA (r i)).length : Int) = N := by rw [tab_length]
  have hlen' : ((tab M fun i => qA (r' i)).length : Int) = M := by rw [tab_length]
  refine for_rg (n := 12) (fun _ e => ∃ (dl : List A) (s4 s5 : Slot), DOk dl ∧ e = [.sh (.scr ns), .ow false dl, .sh (gA N r p), .sh (gA M r' p'), s4, s5, .no, .no, .no, .no]) ⟨dl, _, _, hd, rfl⟩ (fun k hk e he nx hn => ?_) fun e he => ?_
  · obtain ⟨dl, s4, s5, hd, rfl⟩ := he
    refine iteD (fun h6 => ?_) fun h6 => ?_
    · refine cB2 rfl (c_bent hd g.n1 gs fun x dl hx hd => ?_)
      refine cV1 (c_judged hx ?_)
      exact hn _ ⟨dl, _, _, hd, rfl⟩
    · refine cB2 rfl (c_bent hd g.n1 gs fun x dl hx hd => ?_)
      refine cV1 (c_judged hx ?_)
      exact hn _ ⟨dl, _, _, hd, rfl⟩
  obtain ⟨dl, s4, s5, hd, rfl⟩ := he
  have N5 := g.n5
  have M5 := g'.n5
  refine And.intro (by rw [hlen]; unfold L2.RgOk; omega) ?_
  rw [show (((tab N fun i => qA (r i)).length : Int)).toNat = N by rw [hlen]; omega]
  refine comp_rg (fun _ => .bl true) (fun i hi k hk => cV2 (c_taken g gs hi b13 (hk _ rfl))) (by omega) ?_
  refine allTrue ?_
  rw [all_rep]
  refine And.intro (by rw [hlen']; omega) (And.intro (by rw [hlen']; omega) ?_)
  rw [show (((tab M fun i => qA (r' i)).length : Int)).toNat = M by rw [hlen']; omega]
  refine comp_rg (fun _ => .bl true) (fun i hi k hk => cV2 (c_taken g' gs' hi b13 (hk _ rfl))) (by omega) ?_
  refine allTrue ?_
  rw [all_rep]
  refine cB1 rfl (c_pick hd (by rw [rgA_length]; exact g.n1) (by rw [rgA_length]; omega) fun x hx dl hd => ?_)
  obtain ⟨q, hq, rfl⟩ := rg_mem hx
  refine cV2 (c_without gs hq (by decide) ?_)
  have gt := g.taken hq
  have gst := gs.taken hq
  refine comp_rg (fun _ => .bl true) (fun i hi k hk => cV2 (c_taken gt gst hi (by decide) (hk _ rfl))) (by omega) ?_
  refine allTrue ?_
  rw [all_rep]
  refine cV2 (c_taken g gs hq b13 ?_)
  refine cV1 (c_judge hb ?_)
  rw [isGr_ok g]
  refine cB2 rfl (c_bent hd g'.n1 gs' fun x dl hx hd => ?_)
  exact cV1 (c_judged hx hP)
end K59
set_option maxHeartbeats 0
/-! the head of carriedstakes_k59_graphs_passed; printed by head.py -/
namespace K59
open PySem PySem.Spec PyProof.Rows L2 AL
def nm0 : List PySem.Str := ["StakesError", "BadFraction", "ZERO", "ONE", "is_whole", "is_fraction", "is_amount", "fraction", "plus", "minus", "times", "over", "less", "shared", "total", "is_amount_row", "is_graph", "passed_part", "without", "_law_begin", "_law_draw", "_law_pick", "_law_rare", "_law_shuffled", "_law_is_int", "_law_gcd", "_law_frac", "_law_is_frac", "_law_plus", "_law_minus"]
def nm1 : List PySem.Str := ["_law_times", "_law_over", "_law_less", "_law_sum", "_law_parted", "_law_pass_row", "_law_graph", "_law_same", "_law_taken_part", "_law_taken", "_law_is_amounts", "_law_is_right", "_law_odd", "_law_put", "_law_filled", "_law_nothing", "_law_bent_whole", "_law_bent_part", "_law_is_judged", "_law_is_taken"]
def names : List PySem.Str := nm0 ++ nm1
def fn0 : List He.DefD := [d_is_whole, d_is_fraction, d_is_amount, d_fraction, d_plus, d_minus, d_times, d_over, d_less, d_shared, d_total, d_is_amount_row, d_is_graph, d_passed_part, d_without, d__law_begin, d__law_draw, d__law_pick, d__law_rare, d__law_shuffled, d__law_is_int, d__law_gcd, d__law_frac, d__law_is_frac, d__law_plus]
def fn1 : List He.DefD := [d__law_minus, d__law_times, d__law_over, d__law_less, d__law_sum, d__law_parted, d__law_pass_row, d__law_graph, d__law_same, d__law_taken_part, d__law_taken, d__law_is_amounts, d__law_is_right, d__law_odd, d__law_put, d__law_filled, d__law_nothing, d__law_bent_whole, d__law_bent_part, d__law_is_judged, d__law_is_taken, d_law]
def fnL : List He.DefD := fn0 ++ fn1
def fa0 : List He.Fa := [.glo "is_whole", .glo "is_fraction", .glo "is_amount", .glo "fraction", .glo "plus", .glo "minus", .glo "times", .glo "over", .glo "less", .glo "shared", .glo "total", .glo "is_amount_row", .glo "is_graph", .glo "passed_part", .glo "without", .glo "_law_begin", .glo "_law_draw", .glo "_law_pick", .glo "_law_rare", .glo "_law_shuffled", .glo "_law_is_int", .glo "_law_gcd", .glo "_law_frac", .glo "_law_is_frac", .glo "_law_plus"]
def fa1 : List He.Fa := [.glo "_law_minus", .glo "_law_times", .glo "_law_over", .glo "_law_less", .glo "_law_sum", .glo "_law_parted", .glo "_law_pass_row", .glo "_law_graph", .glo "_law_same", .glo "_law_taken_part", .glo "_law_taken", .glo "_law_is_amounts", .glo "_law_is_right", .glo "_law_odd", .glo "_law_put", .glo "_law_filled", .glo "_law_nothing", .glo "_law_bent_whole", .glo "_law_bent_part", .glo "_law_is_judged", .glo "_law_is_taken", .glo "law", .glo "ZERO", .glo "ONE", .free "abs"]
def fa2 : List He.Fa := [.free "all", .free "bool", .free "int", .free "isinstance", .free "len", .free "list", .free "max", .free "range", .free "sum", .free "tuple"]
def faL : List He.Fa := fa0 ++ fa1 ++ fa2
def exK (K : PySem.W.Frag) : Bool := (bfunB "gcd" "math.gcd" K && (tupI "ZERO" [0, 1] K && (tupI "ONE" [1, 1] K && true)))
abbrev R : PySem.W.OpenRow := PySem.W.OpenLaw.row PySem.Challenge.rw_carriedstakes_k59_graphs_passed
abbrev hk : PySem.W.Hook := hookA 4 faL fnL exK
def ob (s : PySem.W.SharedT) : AlA := obsA 4 faL fnL exK (HandSHeadRun.getT s)
theorem ob_eq (s : PySem.W.SharedT) : ob s = hk.obs s.abs := obsA_eq (HandSHeadRun.getT_eq s)
theorem run (w : World) : HandSHeadRun.RunEqI R (PySem.W.view R.prog [0, 55]) hk ob 6000 names w := by
  unfold HandSHeadRun.RunEqI
  kernel_rfl
end K59
/-! all promises joined; printed by facts.py -/
namespace K59
open PySem PySem.Spec PyProof.Rows L2 AL
theorem facts {P : Program} {w : World} {K : PySem.W.Frag} {h : Heap} {mg : Str → Option Value} {f : Addr} (X : K.In h) (G : h.Ns mainGlobals mg) (hfa : mg ("law" : Str) = some (.ref f)) (c : He.SaysD faL fnL K) (ex : exK K = true) :
    ∃ fd : FuncData, (∀ (s : Shared) (v : Value), BindsTo s fd ⟨[v], []⟩ [("script", v)]) ∧ ∀ base : Heap, FnOk P w K mg base (L2.CX P w) 9 f fd ["script"] (spA K m_law) := by
  unfold exK at ex
  obtain ⟨e_gcd, ex⟩ := Bool.and_eq_true_iff.mp ex
  have hgcd := bfun_ok X G e_gcd
  obtain ⟨e_ZERO, ex⟩ := Bool.and_eq_true_iff.mp ex
  have hc_ZERO : ∀ W, VR K W a_ZERO (.ref (He.ga K "ZERO")) := fun W => tupI_ok e_ZERO W
  obtain ⟨e_ONE, ex⟩ := Bool.and_eq_true_iff.mp ex
  have hc_ONE : ∀ W, VR K W a_ONE (.ref (He.ga K "ONE")) := fun W => tupI_ok e_ONE W
  obtain ⟨fd__law_begin, F__law_begin⟩ := says_def c 15 (d := d__law_begin) rfl
  have h__law_begin : ∀ base : Heap, Fn P w K mg base 1 "_law_begin" m__law_begin := fun base => fn__law_begin F__law_begin (He.glo_ok X G (c.fact 15 (f := .glo "_law_begin") rfl)) (He.free_ok X G (c.fact 52 (f := .free "int") rfl)) ok__law_begin
  obtain ⟨fd__law_draw, F__law_draw⟩ := says_def c 16 (d := d__law_draw) rfl
  have h__law_draw : ∀ base : Heap, Fn P w K mg base 1 "_law_draw" m_draw := fun base => fn__law_draw F__law_draw (He.glo_ok X G (c.fact 16 (f := .glo "_law_draw") rfl)) (He.free_ok X G (c.fact 49 (f := .free "abs") rfl)) (He.free_ok X G (c.fact 52 (f := .free "int") rfl)) (He.free_ok X G (c.fact 54 (f := .free "len") rfl)) ok__law_draw
  obtain ⟨fd__law_rare, F__law_rare⟩ := says_def c 18 (d := d__law_rare) rfl
  have h__law_rare : ∀ base : Heap, Fn P w K mg base 2 "_law_rare" m_rare := fun base => fn__law_rare F__law_rare (He.glo_ok X G (c.fact 18 (f := .glo "_law_rare") rfl)) (h__law_draw base) ok__law_rare
  obtain ⟨fd__law_gcd, F__law_gcd⟩ := says_def c 21 (d := d__law_gcd) rfl
  have h__law_gcd : ∀ base : Heap, Fn P w K mg base 1 "_law_gcd" m_gcd := fun base => fn__law_gcd F__law_gcd (He.glo_ok X G (c.fact 21 (f := .glo "_law_gcd") rfl)) (He.free_ok X G (c.fact 49 (f := .free "abs") rfl)) (He.free_ok X G (c.fact 52 (f := .free "int") rfl)) ok__law_gcd
  obtain ⟨fd__law_frac, F__law_frac⟩ := says_def c 22 (d := d__law_frac) rfl
  have h__law_frac : ∀ base : Heap, Fn P w K mg base 2 "_law_frac" m_fraction := fun base => fn__law_frac F__law_frac (He.glo_ok X G (c.fact 22 (f := .glo "_law_frac") rfl)) (h__law_gcd base) ok__law_frac
  obtain ⟨fd__law_parted, F__law_parted⟩ := says_def c 30 (d := d__law_parted) rfl
  have h__law_parted : ∀ base : Heap, Fn P w K mg base 3 "_law_parted" m_parted := fun base => fn__law_parted F__law_parted (He.glo_ok X G (c.fact 30 (f := .glo "_law_parted") rfl)) (h__law_frac base) (He.free_ok X G (c.fact 56 (f := .free "max") rfl)) (He.free_ok X G (c.fact 58 (f := .free "sum") rfl)) (He.free_ok X G (c.fact 59 (f := .free "tuple") rfl)) ok__law_parted
  obtain ⟨fd__law_pass_row, F__law_pass_row⟩ := says_def c 31 (d := d__law_pass_row) rfl
  have h__law_pass_row : ∀ base : Heap, Fn P w K mg base 4 "_law_pass_row" m_pass_row := fun base => fn__law_pass_row F__law_pass_row (He.glo_ok X G (c.fact 31 (f := .glo "_law_pass_row") rfl)) ((h__law_draw base).mono (by decide)) ((h__law_rare base).mono (by decide)) (h__law_parted base) (He.free_ok X G (c.fact 52 (f := .free "int") rfl)) (He.free_ok X G (c.fact 56 (f := .free "max") rfl)) (He.free_ok X G (c.fact 57 (f := .free "range") rfl)) ok__law_pass_row
  obtain ⟨fd__law_shuffled, F__law_shuffled⟩ := says_def c 19 (d := d__law_shuffled) rfl
  have h__law_shuffled : ∀ base : Heap, Fn P w K mg base 2 "_law_shuffled" m_shuffled := fun base => fn__law_shuffled F__law_shuffled (He.glo_ok X G (c.fact 19 (f := .glo "_law_shuffled") rfl)) (h__law_draw base) (He.free_ok X G (c.fact 54 (f := .free "len") rfl)) (He.free_ok X G (c.fact 55 (f := .free "list") rfl)) (He.free_ok X G (c.fact 57 (f := .free "range") rfl)) ok__law_shuffled
  obtain ⟨fd__law_graph, F__law_graph⟩ := says_def c 32 (d := d__law_graph) rfl
  have h__law_graph : ∀ base : Heap, Fn P w K mg base 5 "_law_graph" m_graph := fun base => fn__law_graph F__law_graph (He.glo_ok X G (c.fact 32 (f := .glo "_law_graph") rfl)) ((h__law_rare base).mono (by decide)) ((h__law_draw base).mono (by decide)) ((h__law_parted base).mono (by decide)) (h__law_pass_row base) ((h__law_shuffled base).mono (by decide)) (He.free_ok X G (c.fact 52 (f := .free "int") rfl)) (He.free_ok X G (c.fact 54 (f := .free "len") rfl)) (He.free_ok X G (c.fact 55 (f := .free "list") rfl)) (He.free_ok X G (c.fact 57 (f := .free "range") rfl)) (He.free_ok X G (c.fact 59 (f := .free "tuple") rfl)) ok__law_graph
  obtain ⟨fd_is_whole, F_is_whole⟩ := says_def c 0 (d := d_is_whole) rfl
  have h_is_whole : ∀ base : Heap, Fn P w K mg base 1 "is_whole" m_is_whole := fun base => fn_is_whole F_is_whole (He.glo_ok X G (c.fact 0 (f := .glo "is_whole") rfl)) (He.free_ok X G (c.fact 51 (f := .free "bool") rfl)) (He.free_ok X G (c.fact 52 (f := .free "int") rfl)) (He.free_ok X G (c.fact 53 (f := .free "isinstance") rfl)) ok_is_whole
  obtain ⟨fd_is_fraction, F_is_fraction⟩ := says_def c 1 (d := d_is_fraction) rfl
  have h_is_fraction : ∀ base : Heap, Fn P w K mg base 2 "is_fraction" m_is_fraction := fun base => fn_is_fraction F_is_fraction (He.glo_ok X G (c.fact 1 (f := .glo "is_fraction") rfl)) (h_is_whole base) hgcd (He.free_ok X G (c.fact 53 (f := .free "isinstance") rfl)) (He.free_ok X G (c.fact 54 (f := .free "len") rfl)) (He.free_ok X G (c.fact 59 (f := .free "tuple") rfl)) ok_is_fraction
  obtain ⟨fd_is_amount, F_is_amount⟩ := says_def c 2 (d := d_is_amount) rfl
  have h_is_amount : ∀ base : Heap, Fn P w K mg base 3 "is_amount" m_is_amount := fun base => fn_is_amount F_is_amount (He.glo_ok X G (c.fact 2 (f := .glo "is_amount") rfl)) (h_is_fraction base) ok_is_amount
  obtain ⟨fd_less, F_less⟩ := says_def c 8 (d := d_less) rfl
  have h_less : ∀ base : Heap, Fn P w K mg base 1 "less" m_less := fun base => fn_less F_less (He.glo_ok X G (c.fact 8 (f := .glo "less") rfl)) ok_less
  obtain ⟨fd_shared, F_shared⟩ := says_def c 9 (d := d_shared) rfl
  have h_shared : ∀ base : Heap, Fn P w K mg base 1 "shared" m_shared := fun base => fn_shared F_shared (He.glo_ok X G (c.fact 9 (f := .glo "shared") rfl)) hgcd (He.free_ok X G (c.fact 59 (f := .free "tuple") rfl)) ok_shared
  obtain ⟨fd_fraction, F_fraction⟩ := says_def c 3 (d := d_fraction) rfl
  have h_fraction : ∀ base : Heap, Fn P w K mg base 1 "fraction" m_fraction := fun base => fn_fraction F_fraction (He.glo_ok X G (c.fact 3 (f := .glo "fraction") rfl)) hgcd ok_fraction
  obtain ⟨fd_total, F_total⟩ := says_def c 10 (d := d_total) rfl
  have h_total : ∀ base : Heap, Fn P w K mg base 2 "total" m_total := fun base => fn_total F_total (He.glo_ok X G (c.fact 10 (f := .glo "total") rfl)) (h_shared base) (h_fraction base) (He.free_ok X G (c.fact 58 (f := .free "sum") rfl)) ok_total
  obtain ⟨fd_is_amount_row, F_is_amount_row⟩ := says_def c 11 (d := d_is_amount_row) rfl
  have h_is_amount_row : ∀ base : Heap, Fn P w K mg base 4 "is_amount_row" m_is_amount_row := fun base => fn_is_amount_row F_is_amount_row (He.glo_ok X G (c.fact 11 (f := .glo "is_amount_row") rfl)) (h_is_amount base) ((h_less base).mono (by decide)) ((h_total base).mono (by decide)) (He.free_ok X G (c.fact 50 (f := .free "all") rfl)) (He.free_ok X G (c.fact 53 (f := .free "isinstance") rfl)) (He.free_ok X G (c.fact 54 (f := .free "len") rfl)) (He.free_ok X G (c.fact 59 (f := .free "tuple") rfl)) (He.glo_ok X G (c.fact 48 (f := .glo "ONE") rfl)) hc_ONE ok_is_amount_row
  obtain ⟨fd_is_graph, F_is_graph⟩ := says_def c 12 (d := d_is_graph) rfl
  have h_is_graph : ∀ base : Heap, Fn P w K mg base 5 "is_graph" m_judge := fun base => fn_is_graph F_is_graph (He.glo_ok X G (c.fact 12 (f := .glo "is_graph") rfl)) (h_is_amount_row base) (He.free_ok X G (c.fact 50 (f := .free "all") rfl)) (He.free_ok X G (c.fact 53 (f := .free "isinstance") rfl)) (He.free_ok X G (c.fact 54 (f := .free "len") rfl)) (He.free_ok X G (c.fact 57 (f := .free "range") rfl)) (He.free_ok X G (c.fact 59 (f := .free "tuple") rfl)) (He.glo_ok X G (c.fact 47 (f := .glo "ZERO") rfl)) hc_ZERO ok_is_graph
  obtain ⟨fd__law_pick, F__law_pick⟩ := says_def c 17 (d := d__law_pick) rfl
  have h__law_pick : ∀ base : Heap, Fn P w K mg base 2 "_law_pick" m_pick := fun base => fn__law_pick F__law_pick (He.glo_ok X G (c.fact 17 (f := .glo "_law_pick") rfl)) (h__law_draw base) (He.free_ok X G (c.fact 54 (f := .free "len") rfl)) ok__law_pick
  obtain ⟨fd__law_nothing, F__law_nothing⟩ := says_def c 41 (d := d__law_nothing) rfl
  have h__law_nothing : ∀ base : Heap, Fn P w K mg base 1 "_law_nothing" m_nothing := fun base => fn__law_nothing F__law_nothing (He.glo_ok X G (c.fact 41 (f := .glo "_law_nothing") rfl)) (He.free_ok X G (c.fact 57 (f := .free "range") rfl)) (He.free_ok X G (c.fact 59 (f := .free "tuple") rfl)) ok__law_nothing
  obtain ⟨fd__law_bent_whole, F__law_bent_whole⟩ := says_def c 42 (d := d__law_bent_whole) rfl
  have h__law_bent_whole : ∀ base : Heap, Fn P w K mg base 3 "_law_bent_whole" m_bent := fun base => fn__law_bent_whole F__law_bent_whole (He.glo_ok X G (c.fact 42 (f := .glo "_law_bent_whole") rfl)) (h__law_pick base) ((h__law_nothing base).mono (by decide)) (He.free_ok X G (c.fact 54 (f := .free "len") rfl)) (He.free_ok X G (c.fact 57 (f := .free "range") rfl)) (He.free_ok X G (c.fact 59 (f := .free "tuple") rfl)) ok__law_bent_whole
  obtain ⟨fd__law_put, F__law_put⟩ := says_def c 39 (d := d__law_put) rfl
  have h__law_put : ∀ base : Heap, Fn P w K mg base 1 "_law_put" m_put := fun base => fn__law_put F__law_put (He.glo_ok X G (c.fact 39 (f := .glo "_law_put") rfl)) ok__law_put
  obtain ⟨fd__law_odd, F__law_odd⟩ := says_def c 38 (d := d__law_odd) rfl
  have h__law_odd : ∀ base : Heap, Fn P w K mg base 3 "_law_odd" m_odd := fun base => fn__law_odd F__law_odd (He.glo_ok X G (c.fact 38 (f := .glo "_law_odd") rfl)) (h__law_pick base) ok__law_odd
  obtain ⟨fd__law_plus, F__law_plus⟩ := says_def c 24 (d := d__law_plus) rfl
  have h__law_plus : ∀ base : Heap, Fn P w K mg base 3 "_law_plus" m_plus := fun base => fn__law_plus F__law_plus (He.glo_ok X G (c.fact 24 (f := .glo "_law_plus") rfl)) (h__law_frac base) ok__law_plus
  obtain ⟨fd__law_minus, F__law_minus⟩ := says_def c 25 (d := d__law_minus) rfl
  have h__law_minus : ∀ base : Heap, Fn P w K mg base 3 "_law_minus" m_minus := fun base => fn__law_minus F__law_minus (He.glo_ok X G (c.fact 25 (f := .glo "_law_minus") rfl)) (h__law_frac base) ok__law_minus
  obtain ⟨fd__law_sum, F__law_sum⟩ := says_def c 29 (d := d__law_sum) rfl
  have h__law_sum : ∀ base : Heap, Fn P w K mg base 3 "_law_sum" m_total := fun base => fn__law_sum F__law_sum (He.glo_ok X G (c.fact 29 (f := .glo "_law_sum") rfl)) ((h__law_gcd base).mono (by decide)) (h__law_frac base) ok__law_sum
  obtain ⟨fd__law_filled, F__law_filled⟩ := says_def c 40 (d := d__law_filled) rfl
  have h__law_filled : ∀ base : Heap, Fn P w K mg base 4 "_law_filled" m_filled := fun base => fn__law_filled F__law_filled (He.glo_ok X G (c.fact 40 (f := .glo "_law_filled") rfl)) (h__law_plus base) (h__law_minus base) (h__law_sum base) ((h__law_draw base).mono (by decide)) ok__law_filled
  obtain ⟨fd__law_times, F__law_times⟩ := says_def c 26 (d := d__law_times) rfl
  have h__law_times : ∀ base : Heap, Fn P w K mg base 3 "_law_times" m_times := fun base => fn__law_times F__law_times (He.glo_ok X G (c.fact 26 (f := .glo "_law_times") rfl)) (h__law_frac base) ok__law_times
  obtain ⟨fd__law_bent_part, F__law_bent_part⟩ := says_def c 43 (d := d__law_bent_part) rfl
  have h__law_bent_part : ∀ base : Heap, Fn P w K mg base 5 "_law_bent_part" m_bent := fun base => fn__law_bent_part F__law_bent_part (He.glo_ok X G (c.fact 43 (f := .glo "_law_bent_part") rfl)) ((h__law_draw base).mono (by decide)) ((h__law_put base).mono (by decide)) ((h__law_odd base).mono (by decide)) (h__law_filled base) ((h__law_pick base).mono (by decide)) ((h__law_times base).mono (by decide)) (He.free_ok X G (c.fact 54 (f := .free "len") rfl)) (He.free_ok X G (c.fact 59 (f := .free "tuple") rfl)) ok__law_bent_part
  obtain ⟨fd__law_is_int, F__law_is_int⟩ := says_def c 20 (d := d__law_is_int) rfl
  have h__law_is_int : ∀ base : Heap, Fn P w K mg base 1 "_law_is_int" m_is_whole := fun base => fn__law_is_int F__law_is_int (He.glo_ok X G (c.fact 20 (f := .glo "_law_is_int") rfl)) (He.free_ok X G (c.fact 51 (f := .free "bool") rfl)) (He.free_ok X G (c.fact 52 (f := .free "int") rfl)) (He.free_ok X G (c.fact 53 (f := .free "isinstance") rfl)) ok__law_is_int
  obtain ⟨fd__law_is_frac, F__law_is_frac⟩ := says_def c 23 (d := d__law_is_frac) rfl
  have h__law_is_frac : ∀ base : Heap, Fn P w K mg base 2 "_law_is_frac" m_is_fraction := fun base => fn__law_is_frac F__law_is_frac (He.glo_ok X G (c.fact 23 (f := .glo "_law_is_frac") rfl)) (h__law_is_int base) (h__law_gcd base) (He.free_ok X G (c.fact 53 (f := .free "isinstance") rfl)) (He.free_ok X G (c.fact 54 (f := .free "len") rfl)) (He.free_ok X G (c.fact 59 (f := .free "tuple") rfl)) ok__law_is_frac
  obtain ⟨fd__law_less, F__law_less⟩ := says_def c 28 (d := d__law_less) rfl
  have h__law_less : ∀ base : Heap, Fn P w K mg base 1 "_law_less" m_less := fun base => fn__law_less F__law_less (He.glo_ok X G (c.fact 28 (f := .glo "_law_less") rfl)) ok__law_less
  obtain ⟨fd__law_is_amounts, F__law_is_amounts⟩ := says_def c 36 (d := d__law_is_amounts) rfl
  have h__law_is_amounts : ∀ base : Heap, Fn P w K mg base 4 "_law_is_amounts" m_is_amount_row := fun base => fn__law_is_amounts F__law_is_amounts (He.glo_ok X G (c.fact 36 (f := .glo "_law_is_amounts") rfl)) ((h__law_is_frac base).mono (by decide)) ((h__law_less base).mono (by decide)) (h__law_sum base) (He.free_ok X G (c.fact 50 (f := .free "all") rfl)) (He.free_ok X G (c.fact 53 (f := .free "isinstance") rfl)) (He.free_ok X G (c.fact 54 (f := .free "len") rfl)) (He.free_ok X G (c.fact 59 (f := .free "tuple") rfl)) ok__law_is_amounts
  obtain ⟨fd__law_is_right, F__law_is_right⟩ := says_def c 37 (d := d__law_is_right) rfl
  have h__law_is_right : ∀ base : Heap, Fn P w K mg base 5 "_law_is_right" m_judge := fun base => fn__law_is_right F__law_is_right (He.glo_ok X G (c.fact 37 (f := .glo "_law_is_right") rfl)) (h__law_is_amounts base) (He.free_ok X G (c.fact 50 (f := .free "all") rfl)) (He.free_ok X G (c.fact 53 (f := .free "isinstance") rfl)) (He.free_ok X G (c.fact 54 (f := .free "len") rfl)) (He.free_ok X G (c.fact 57 (f := .free "range") rfl)) (He.free_ok X G (c.fact 59 (f := .free "tuple") rfl)) ok__law_is_right
  obtain ⟨fd__law_is_judged, F__law_is_judged⟩ := says_def c 44 (d := d__law_is_judged) rfl
  have h__law_is_judged : ∀ base : Heap, Fn P w K mg base 6 "_law_is_judged" m_judged := fun base => fn__law_is_judged F__law_is_judged (He.glo_ok X G (c.fact 44 (f := .glo "_law_is_judged") rfl)) (h_is_graph base) (h__law_is_right base) (He.free_ok X G (c.fact 51 (f := .free "bool") rfl)) (He.free_ok X G (c.fact 53 (f := .free "isinstance") rfl)) ok__law_is_judged
  obtain ⟨fd_plus, F_plus⟩ := says_def c 4 (d := d_plus) rfl
  have h_plus : ∀ base : Heap, Fn P w K mg base 2 "plus" m_plus := fun base => fn_plus F_plus (He.glo_ok X G (c.fact 4 (f := .glo "plus") rfl)) (h_fraction base) ok_plus
  obtain ⟨fd_times, F_times⟩ := says_def c 6 (d := d_times) rfl
  have h_times : ∀ base : Heap, Fn P w K mg base 2 "times" m_times := fun base => fn_times F_times (He.glo_ok X G (c.fact 6 (f := .glo "times") rfl)) (h_fraction base) ok_times
  obtain ⟨fd_minus, F_minus⟩ := says_def c 5 (d := d_minus) rfl
  have h_minus : ∀ base : Heap, Fn P w K mg base 2 "minus" m_minus := fun base => fn_minus F_minus (He.glo_ok X G (c.fact 5 (f := .glo "minus") rfl)) (h_fraction base) ok_minus
  obtain ⟨fd_over, F_over⟩ := says_def c 7 (d := d_over) rfl
  have h_over : ∀ base : Heap, Fn P w K mg base 2 "over" m_over := fun base => fn_over F_over (He.glo_ok X G (c.fact 7 (f := .glo "over") rfl)) (h_fraction base) ok_over
  obtain ⟨fd_passed_part, F_passed_part⟩ := says_def c 13 (d := d_passed_part) rfl
  have h_passed_part : ∀ base : Heap, Fn P w K mg base 3 "passed_part" m_part := fun base => fn_passed_part F_passed_part (He.glo_ok X G (c.fact 13 (f := .glo "passed_part") rfl)) (h_minus base) (h_times base) (h_over base) (h_plus base) (He.glo_ok X G (c.fact 47 (f := .glo "ZERO") rfl)) hc_ZERO (He.glo_ok X G (c.fact 48 (f := .glo "ONE") rfl)) hc_ONE ok_passed_part
  obtain ⟨fd_without, F_without⟩ := says_def c 14 (d := d_without) rfl
  have h_without : ∀ base : Heap, Fn P w K mg base 4 "without" m_without := fun base => fn_without F_without (He.glo_ok X G (c.fact 14 (f := .glo "without") rfl)) ((h_plus base).mono (by decide)) ((h_times base).mono (by decide)) (h_passed_part base) (He.free_ok X G (c.fact 54 (f := .free "len") rfl)) (He.free_ok X G (c.fact 57 (f := .free "range") rfl)) (He.free_ok X G (c.fact 59 (f := .free "tuple") rfl)) (He.glo_ok X G (c.fact 47 (f := .glo "ZERO") rfl)) hc_ZERO ok_without
  obtain ⟨fd__law_same, F__law_same⟩ := says_def c 33 (d := d__law_same) rfl
  have r0__law_same : ∀ base : Heap, Fn P w K mg base 2 "_law_same" m_none := fun base => fn_never F__law_same sc__law_same (He.glo_ok X G (c.fact 33 (f := .glo "_law_same") rfl)) (FunD.bindsN F__law_same fun _ _ _ _ _ _ us hl => match us, hl with | [_, _], _ => rfl)
  have r1__law_same : ∀ base : Heap, Fn P w K mg base 3 "_law_same" (m_same 0) := fun base => fn__law_same F__law_same (He.glo_ok X G (c.fact 33 (f := .glo "_law_same") rfl)) (r0__law_same base) ((h__law_is_int base).mono (by decide)) (He.free_ok X G (c.fact 50 (f := .free "all") rfl)) (He.free_ok X G (c.fact 53 (f := .free "isinstance") rfl)) (He.free_ok X G (c.fact 54 (f := .free "len") rfl)) (He.free_ok X G (c.fact 57 (f := .free "range") rfl)) (He.free_ok X G (c.fact 59 (f := .free "tuple") rfl)) ok__law_same0
  have r2__law_same : ∀ base : Heap, Fn P w K mg base 4 "_law_same" (m_same 1) := fun base => fn__law_same F__law_same (He.glo_ok X G (c.fact 33 (f := .glo "_law_same") rfl)) (r1__law_same base) ((h__law_is_int base).mono (by decide)) (He.free_ok X G (c.fact 50 (f := .free "all") rfl)) (He.free_ok X G (c.fact 53 (f := .free "isinstance") rfl)) (He.free_ok X G (c.fact 54 (f := .free "len") rfl)) (He.free_ok X G (c.fact 57 (f := .free "range") rfl)) (He.free_ok X G (c.fact 59 (f := .free "tuple") rfl)) (ok__law_same 0)
  have r3__law_same : ∀ base : Heap, Fn P w K mg base 5 "_law_same" (m_same 2) := fun base => fn__law_same F__law_same (He.glo_ok X G (c.fact 33 (f := .glo "_law_same") rfl)) (r2__law_same base) ((h__law_is_int base).mono (by decide)) (He.free_ok X G (c.fact 50 (f := .free "all") rfl)) (He.free_ok X G (c.fact 53 (f := .free "isinstance") rfl)) (He.free_ok X G (c.fact 54 (f := .free "len") rfl)) (He.free_ok X G (c.fact 57 (f := .free "range") rfl)) (He.free_ok X G (c.fact 59 (f := .free "tuple") rfl)) (ok__law_same 1)
  have r4__law_same : ∀ base : Heap, Fn P w K mg base 6 "_law_same" (m_same 3) := fun base => fn__law_same F__law_same (He.glo_ok X G (c.fact 33 (f := .glo "_law_same") rfl)) (r3__law_same base) ((h__law_is_int base).mono (by decide)) (He.free_ok X G (c.fact 50 (f := .free "all") rfl)) (He.free_ok X G (c.fact 53 (f := .free "isinstance") rfl)) (He.free_ok X G (c.fact 54 (f := .free "len") rfl)) (He.free_ok X G (c.fact 57 (f := .free "range") rfl)) (He.free_ok X G (c.fact 59 (f := .free "tuple") rfl)) (ok__law_same 2)
  have r5__law_same : ∀ base : Heap, Fn P w K mg base 7 "_law_same" (m_same 4) := fun base => fn__law_same F__law_same (He.glo_ok X G (c.fact 33 (f := .glo "_law_same") rfl)) (r4__law_same base) ((h__law_is_int base).mono (by decide)) (He.free_ok X G (c.fact 50 (f := .free "all") rfl)) (He.free_ok X G (c.fact 53 (f := .free "isinstance") rfl)) (He.free_ok X G (c.fact 54 (f := .free "len") rfl)) (He.free_ok X G (c.fact 57 (f := .free "range") rfl)) (He.free_ok X G (c.fact 59 (f := .free "tuple") rfl)) (ok__law_same 3)
  have h__law_same := r5__law_same
  obtain ⟨fd__law_over, F__law_over⟩ := says_def c 27 (d := d__law_over) rfl
  have h__law_over : ∀ base : Heap, Fn P w K mg base 3 "_law_over" m_over := fun base => fn__law_over F__law_over (He.glo_ok X G (c.fact 27 (f := .glo "_law_over") rfl)) (h__law_frac base) ok__law_over
  obtain ⟨fd__law_taken_part, F__law_taken_part⟩ := says_def c 34 (d := d__law_taken_part) rfl
  have h__law_taken_part : ∀ base : Heap, Fn P w K mg base 4 "_law_taken_part" m_part := fun base => fn__law_taken_part F__law_taken_part (He.glo_ok X G (c.fact 34 (f := .glo "_law_taken_part") rfl)) (h__law_times base) (h__law_over base) (h__law_minus base) (h__law_plus base) ok__law_taken_part
  obtain ⟨fd__law_taken, F__law_taken⟩ := says_def c 35 (d := d__law_taken) rfl
  have h__law_taken : ∀ base : Heap, Fn P w K mg base 5 "_law_taken" m_without := fun base => fn__law_taken F__law_taken (He.glo_ok X G (c.fact 35 (f := .glo "_law_taken") rfl)) ((h__law_plus base).mono (by decide)) ((h__law_times base).mono (by decide)) (h__law_taken_part base) (He.free_ok X G (c.fact 54 (f := .free "len") rfl)) (He.free_ok X G (c.fact 57 (f := .free "range") rfl)) (He.free_ok X G (c.fact 59 (f := .free "tuple") rfl)) ok__law_taken
  obtain ⟨fd__law_is_taken, F__law_is_taken⟩ := says_def c 45 (d := d__law_is_taken) rfl
  have h__law_is_taken : ∀ base : Heap, Fn P w K mg base 8 "_law_is_taken" m_taken := fun base => fn__law_is_taken F__law_is_taken (He.glo_ok X G (c.fact 45 (f := .glo "_law_is_taken") rfl)) ((h_without base).mono (by decide)) ((h_is_graph base).mono (by decide)) (h__law_same base) ((h__law_taken base).mono (by decide)) ok__law_is_taken
  obtain ⟨fd, F⟩ := says_def c 46 (d := d_law) rfl
  have e := hfa.symm.trans (He.glo_ok X G (c.fact 46 (f := .glo "law") rfl))
  cases e
  have b := FunD.bindsA (ps := ["script"]) F fun _ _ _ _ _ _ us hl => match us, hl with | [_], _ => rfl
  exact ⟨fd, fun s v => b s [v] rfl, fun base => fnF_law F ((h__law_begin base).mono (by decide)) ((h__law_graph base).mono (by decide)) ((h__law_draw base).mono (by decide)) ((h_is_graph base).mono (by decide)) ((h__law_bent_whole base).mono (by decide)) ((h__law_bent_part base).mono (by decide)) ((h__law_is_judged base).mono (by decide)) (h__law_is_taken base) ((h__law_pick base).mono (by decide)) ((h__law_taken base).mono (by decide)) (He.free_ok X G (c.fact 50 (f := .free "all") rfl)) (He.free_ok X G (c.fact 54 (f := .free "len") rfl)) (He.free_ok X G (c.fact 55 (f := .free "list") rfl)) (He.free_ok X G (c.fact 57 (f := .free "range") rfl)) ok_law⟩
end K59
open PySem PySem.W PySem.Calls PyProof.Rows
theorem PySem.Challenge.cw_carriedstakes_k59_graphs_passed_holds : PySem.Challenge.rw_carriedstakes_k59_graphs_passed.Holds := by
  w_on; o_law
  refine HandSHeadRun.head_imp (r := OpenLaw.row PySem.Challenge.rw_carriedstakes_k59_graphs_passed) (q := view (OpenLaw.row PySem.Challenge.rw_carriedstakes_k59_graphs_passed).prog [0, 55]) (H := K59.hk) (ob := K59.ob) (M := 6000) (loose := K59.names) (d := HandSHeadRun.topDef (OpenLaw.row PySem.Challenge.rw_carriedstakes_k59_graphs_passed).prog 55) (kwd := []) K59.ob_eq
    K59.run (by kernel_rfl) (by kernel_rfl) (by kernel_rfl) (by rfl) (by first | assumption | decide +kernel) (by decide +kernel) ⟨rfl, rfl, rfl, rfl, rfl, by decide +kernel⟩ ?hw ?hc
  case hw => w_witness2
  case hc =>
    refine AL.walkA (l := PySem.Challenge.rw_carriedstakes_k59_graphs_passed) (n := 63) (k := 9) (x := "script") rfl (by decide) (by kernel_rfl) ⟨rfl, by decide, by decide⟩ ?F
    intro w mg fa h Y G hmg0
    obtain ⟨K, KX, c, ex⟩ := Y
    have hmg : mg ("law" : PySem.Str) = some (.ref fa) := by
      have e : (HandSHeadRun.topDef (OpenLaw.row PySem.Challenge.rw_carriedstakes_k59_graphs_passed).prog 55).name = ("law" : PySem.Str) := by kernel_rfl
      rw [← e]
      exact hmg0
    obtain ⟨fd, hb, hF⟩ := K59.facts (P := (PySem.Challenge.rw_carriedstakes_k59_graphs_passed).prog) (w := w) KX G hmg c ex
    exact ⟨K, fd, K59.m_law, KX, hb, fun ns hl => ⟨ns, rfl, hl, rfl⟩, fun base _ _ => hF base⟩
