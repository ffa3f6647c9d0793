import PyProof.Rows.All
import Wide.All
import OpenK.AllK
import Wide.FinOn
import HandS.ForMost
import HandS.Walk
import HandS.Deep
import HandS.TupAny
import HandS.Wide
import HandS.WideBits
import HandS.IsInst
import KE.GoesMore
import HandS.Zip
import HandS.Conv
import KE.BitLaws
import HandS.List
import KE.KMinBuiltin
import PyProof.MinMaxWalk
import HandS.SortKw
import PySem.Challenge.RW_wontbook_k21_misfit
set_option Elab.async false
set_option linter.all false
set_option maxRecDepth 100000
set_option maxHeartbeats 1000000
/-! DL1: slots as pure data, the relation to the abstract heap, the readings ER, TR, SR. -/
namespace DL
open PySem PySem.Spec PyProof.Rows L2
abbrev D := PyData
/-- an object of one's own: what stands at its footprint -/
structure ObjC where
  R : Hp → Hp → V → D → List Addr → Prop
  mono : ∀ {Z Z' H H' : Hp} {v : V} {d : D} {fp : List Addr}, R Z H v d fp → Same Z Z' → (∀ a ∈ fp, H' a = H a) → R Z' H' v d fp
  live : ∀ {Z H : Hp} {v : V} {d : D} {fp : List Addr}, R Z H v d fp → ∀ a ∈ fp, H a ≠ none
/-- what a slot holds -/
inductive Sl where
  | un
  | pl (d : D)
  | own (ds : List D)
  | brw (ds : List D)
  | dic (kvs : List (Key × D))
  | bdc (kvs : List (Key × D))
  | obj (c : ObjC) (d : D)
  | bob (c : ObjC) (d : D)
abbrev SEnv := List Sl
def KVD (K : PySem.W.Frag) (Z : Hp) : List (Key × V) → List (Key × D) → Prop := Paired fun (p : Key × V) (q : Key × D) => p.1 = q.1 ∧ Dp K Z p.2 q.2
section
variable {K : PySem.W.Frag}
theorem sqT_mono {H H' : Hp} {a : Addr} {xs : List V} (e : Same H H') (h : SqT K H a xs) : SqT K H' a xs := by
  rcases h with (h | ⟨o, h⟩) | h
  · exact .inl (.inl (e _ _ h))
  · exact .inl (.inr ⟨o, e _ _ h⟩)
  · exact .inr h
mutual
theorem Dp_mono {Z Z' : Hp} (e : Same Z Z') : ∀ (d : D) (v : V), Dp K Z v d → Dp K Z' v d
  | .none, _, h => by cases h; exact .non
  | .bool _, _, h => by cases h; exact .bl _
  | .int _, _, h => by cases h; exact .int _
  | .str _, _, h => by cases h; exact .str _
  | .list ds, _, h => by cases h with | lst q r => exact .lst (e.seq q) (DpAll_mono e ds _ r)
  | .tuple ds, _, h => by cases h with | tup q r => exact .tup (sqT_mono e q) (DpAll_mono e ds _ r)
  | .dict _, _, h => by cases h
theorem DpAll_mono {Z Z' : Hp} (e : Same Z Z') : ∀ (ds : List D) (vs : List V), DpAll K Z vs ds → DpAll K Z' vs ds
  | [], _, h => by cases h; exact .nil
  | d :: ds, _, h => by cases h with | cons q r => exact .cons (Dp_mono e d _ q) (DpAll_mono e ds _ r)
end
theorem KVD_mono {Z Z' : Hp} (e : Same Z Z') : ∀ {vs : List (Key × V)} {kvs : List (Key × D)}, KVD K Z vs kvs → KVD K Z' vs kvs
  | _, _, .nil => .nil
  | _, _, .cons r t => .cons ⟨r.1, Dp_mono e _ _ r.2⟩ (KVD_mono e t)
theorem DpAll_length {Z : Hp} : ∀ {vs : List V} {ds : List D}, DpAll K Z vs ds → vs.length = ds.length
  | _, _, .nil => rfl
  | _, _, .cons _ t => congrArg (· + 1) (DpAll_length t)
theorem DpAll_get {Z : Hp} : ∀ {vs : List V} {ds : List D} {i : Nat} {d : D}, DpAll K Z vs ds → ds[i]? = some d → ∃ v, vs[i]? = some v ∧ Dp K Z v d
  | _, _, _, _, .nil, e => by simp at e
  | _, _, 0, _, .cons r _, e => by simp at e; subst e; exact ⟨_, rfl, r⟩
  | _, _, i + 1, d, .cons _ t, e => by
    obtain ⟨u, h1, h2⟩ := DpAll_get (i := i) (d := d) t (by simpa using e)
    exact ⟨u, by simpa using h1, h2⟩
theorem DpAll_get' {Z : Hp} : ∀ {vs : List V} {ds : List D} {i : Nat} {v : V}, DpAll K Z vs ds → vs[i]? = some v → ∃ d, ds[i]? = some d ∧ Dp K Z v d
  | _, _, _, _, .nil, e => by simp at e
  | _, _, 0, _, .cons r _, e => by simp at e; subst e; exact ⟨_, rfl, r⟩
  | _, _, i + 1, d, .cons _ t, e => by
    obtain ⟨u, h1, h2⟩ := DpAll_get' (i := i) (v := d) t (by simpa using e)
    exact ⟨u, by simpa using h1, h2⟩
theorem DpAll_append {Z : Hp} : ∀ {vs ws : List V} {ds es : List D}, DpAll K Z vs ds → DpAll K Z ws es → DpAll K Z (vs ++ ws) (ds ++ es)
  | _, _, _, _, .nil, s => s
  | _, _, _, _, .cons r t, s => .cons r (DpAll_append t s)
theorem DpAll_take {Z : Hp} : ∀ {vs : List V} {ds : List D} (n : Nat), DpAll K Z vs ds → DpAll K Z (vs.take n) (ds.take n)
  | _, _, 0, _ => .nil
  | _, _, _ + 1, .nil => .nil
  | _, _, n + 1, .cons r t => .cons r (DpAll_take n t)
theorem DpAll_drop {Z : Hp} : ∀ {vs : List V} {ds : List D} (n : Nat), DpAll K Z vs ds → DpAll K Z (vs.drop n) (ds.drop n)
  | _, _, 0, r => r
  | _, _, _ + 1, .nil => .nil
  | _, _, n + 1, .cons r t => DpAll_drop n t
theorem DpAll_set {Z : Hp} {v : V} {d : D} (r : Dp K Z v d) : ∀ {vs : List V} {ds : List D} (i : Nat), DpAll K Z vs ds → DpAll K Z (vs.set i v) (ds.set i d)
  | _, _, _, .nil => .nil
  | _, _, 0, .cons _ t => .cons r t
  | _, _, i + 1, .cons q t => .cons q (DpAll_set r i t)
theorem DpAll_dropLast {Z : Hp} {vs : List V} {ds : List D} (r : DpAll K Z vs ds) : DpAll K Z vs.dropLast ds.dropLast := by
  rw [List.dropLast_eq_take, List.dropLast_eq_take, DpAll_length r]
  exact DpAll_take _ r
theorem DpAll_erase {Z : Hp} : ∀ {vs : List V} {ds : List D} (i : Nat), DpAll K Z vs ds → DpAll K Z (vs.eraseIdx i) (ds.eraseIdx i)
  | _, _, _, .nil => .nil
  | _, _, 0, .cons _ t => t
  | _, _, i + 1, .cons q t => .cons q (DpAll_erase i t)
theorem DpAll_reverse {Z : Hp} : ∀ {vs : List V} {ds : List D}, DpAll K Z vs ds → DpAll K Z vs.reverse ds.reverse
  | _, _, .nil => .nil
  | _, _, .cons r t => by
    rw [List.reverse_cons, List.reverse_cons]
    exact DpAll_append (DpAll_reverse t) (.cons r .nil)

def slR (K : PySem.W.Frag) (B Z H : Hp) : Sl → Option V → List Addr → Prop
  | .un, _, fp => fp = []
  | .pl d, v, fp => fp = [] ∧ ∃ x, v = some x ∧ Dp K Z x d
  | .own ds, v, fp => ∃ p vs, fp = [p] ∧ v = some (.ref p) ∧ H p = some (.lst vs) ∧ DpAll K Z vs ds
  | .brw ds, v, fp => fp = [] ∧ ∃ p vs, v = some (.ref p) ∧ B p = some (.lst vs) ∧ DpAll K Z vs ds
  | .dic kvs, v, fp => ∃ p vs, fp = [p] ∧ v = some (.ref p) ∧ H p = some (.dK vs) ∧ KVD K Z vs kvs
  | .bdc kvs, v, fp => fp = [] ∧ ∃ p vs, v = some (.ref p) ∧ B p = some (.dK vs) ∧ KVD K Z vs kvs
  | .obj c d, v, fp => ∃ x, v = some x ∧ c.R Z H x d fp
  | .bob c d, v, fp => fp = [] ∧ ∃ x fp', v = some x ∧ c.R Z B x d fp'
theorem slR.mono {B B' Z Z' H H' : Hp} {s : Sl} {v : Option V} {fp : List Addr} (h : slR K B Z H s v fp) (hB : Same B B') (hZ : Same Z Z') (hH : ∀ a ∈ fp, H' a = H a) : slR K B' Z' H' s v fp := by
  cases s with
  | un => exact h
  | pl d => obtain ⟨e, x, hx, hd⟩ := h; exact ⟨e, x, hx, Dp_mono hZ _ _ hd⟩
  | own ds => obtain ⟨p, vs, e, hx, hp, hd⟩ := h; subst e; exact ⟨p, vs, rfl, hx, (hH p (by simp)).trans hp, DpAll_mono hZ _ _ hd⟩
  | brw ds => obtain ⟨e, p, vs, hx, hp, hd⟩ := h; exact ⟨e, p, vs, hx, hB _ _ hp, DpAll_mono hZ _ _ hd⟩
  | dic kvs => obtain ⟨p, vs, e, hx, hp, hd⟩ := h; subst e; exact ⟨p, vs, rfl, hx, (hH p (by simp)).trans hp, KVD_mono hZ hd⟩
  | bdc kvs => obtain ⟨e, p, vs, hx, hp, hd⟩ := h; exact ⟨e, p, vs, hx, hB _ _ hp, KVD_mono hZ hd⟩
  | obj c d => obtain ⟨x, hx, hr⟩ := h; exact ⟨x, hx, c.mono hr hZ hH⟩
  | bob c d =>
    obtain ⟨e, x, fp', hx, hr⟩ := h
    refine ⟨e, x, fp', hx, c.mono hr hZ fun a ha => ?_⟩
    have hl := c.live hr a ha
    cases q : B a with
    | none => exact absurd q hl
    | some o => exact hB a o q
theorem slR.live {B Z H : Hp} {s : Sl} {v : Option V} {fp : List Addr} (h : slR K B Z H s v fp) : ∀ a ∈ fp, H a ≠ none := by
  intro a ha
  cases s with
  | un => rw [show fp = [] from h] at ha; cases ha
  | pl d => rw [h.1] at ha; cases ha
  | own ds =>
    obtain ⟨p, vs, e, hx, hp, hd⟩ := h
    rw [e] at ha
    have := List.mem_singleton.mp ha
    subst this
    rw [hp]
    intro z
    cases z
  | brw ds => rw [h.1] at ha; cases ha
  | dic kvs =>
    obtain ⟨p, vs, e, hx, hp, hd⟩ := h
    rw [e] at ha
    have := List.mem_singleton.mp ha
    subst this
    rw [hp]
    intro z
    cases z
  | bdc kvs => rw [h.1] at ha; cases ha
  | obj c d => obtain ⟨x, hx, hr⟩ := h; exact c.live hr a ha
  | bob c d => rw [h.1] at ha; cases ha

/-- from B, Z on: B stands, Z has grown at what B does not know -/
structure StepB (B Z Z' H' : Hp) : Prop where
  bh : Same B H'
  zz : Same Z Z'
  zh : Same Z' H'
  gr : ∀ p, Z' p ≠ none → Z p ≠ none ∨ B p = none
abbrev Step (Z H Z' H' : Hp) : Prop := StepB H Z Z' H'
theorem Step.refl {Z H : Hp} (h : Same Z H) : Step Z H Z H := ⟨Same.refl H, Same.refl Z, h, fun _ q => .inl q⟩
theorem none_back {H H' : Hp} (e : Same H H') {p : Addr} (h : H' p = none) : H p = none := e.free h
theorem ne_none_fwd {H H' : Hp} (e : Same H H') {p : Addr} (h : H p ≠ none) : H' p ≠ none := fun z => h (none_back e z)
theorem StepB.trans {B Z Z1 H1 Z2 H2 : Hp} (a : StepB B Z Z1 H1) (b : Step Z1 H1 Z2 H2) : StepB B Z Z2 H2 :=
  ⟨a.bh.trans b.bh, a.zz.trans b.zz, b.zh, fun p q => by
    rcases b.gr p q with z | z
    · exact a.gr p z
    · exact .inr (none_back a.bh z)⟩
theorem Step.newZ {Z H : Hp} (h : Same Z H) {p : Addr} {o : HO} (hp : H p = none) : Step Z H (upd Z p o) (upd H p o) := by
  have hz := none_back h hp
  refine ⟨fun b u e => ?_, fun b u e => ?_, fun b u e => ?_, fun b q => ?_⟩
  · rw [upd_ne (ne_of_none e hp)]; exact e
  · rw [upd_ne (ne_of_none e hz)]; exact e
  · by_cases c : b = p
    · subst c; rw [upd_same] at e ⊢; exact e
    · rw [upd_ne c] at e ⊢; exact h _ _ e
  · by_cases c : b = p
    · subst c; exact .inr hp
    · rw [upd_ne c] at q; exact .inl q
theorem Step.newH {Z H : Hp} (h : Same Z H) {p : Addr} {o : HO} (hp : H p = none) : Step Z H Z (upd H p o) := by
  have hz := none_back h hp
  refine ⟨fun b u e => ?_, Same.refl Z, fun b u e => ?_, fun b q => .inl q⟩
  · rw [upd_ne (ne_of_none e hp)]; exact e
  · rw [upd_ne (ne_of_none e hz)]; exact h _ _ e
/-- a list that H0 did not know is frozen -/
theorem StepB.freeze {B Z Z1 H1 : Hp} (a : StepB B Z Z1 H1) {p : Addr} {o : HO} (h1 : H1 p = some o) (hb : B p = none) (hz : Z1 p = none) : StepB B Z (upd Z1 p o) H1 := by
  refine ⟨a.bh, fun b u e => ?_, fun b u e => ?_, fun b q => ?_⟩
  · have e1 := a.zz b u e
    rw [upd_ne (ne_of_none e1 hz)]; exact e1
  · by_cases c : b = p
    · subst c; rw [upd_same] at e; rw [h1]; exact e
    · rw [upd_ne c] at e; exact a.zh _ _ e
  · by_cases c : b = p
    · subst c; exact .inr hb
    · rw [upd_ne c] at q; exact a.gr b q

def look (σ : L2.St) (i : Nat) : Option V := (σ[i]?).getD none
theorem look_some {σ : L2.St} {i : Nat} {v : V} (h : look σ i = some v) : σ[i]? = some (some v) := by
  unfold look at h
  cases e : σ[i]? with
  | none => rw [e] at h; cases h
  | some o => rw [e] at h; rw [show o = some v from h]
theorem look_set_same {σ : L2.St} {i : Nat} {o : Option V} (h : i < σ.length) : look (σ.set i o) i = o := by
  unfold look; rw [List.getElem?_set_self h]; rfl
theorem look_set_ne {σ : L2.St} {i j : Nat} {o : Option V} (h : i ≠ j) : look (σ.set i o) j = look σ j := by
  unfold look; rw [List.getElem?_set_ne h]
/-- the slot's word; un where there is none -/
def get : SEnv → Nat → Sl
  | [], _ => .un
  | s :: _, 0 => s
  | _ :: r, n + 1 => get r n
@[simp] theorem get_zero (s : Sl) (r : SEnv) : get (s :: r) 0 = s := rfl
@[simp] theorem get_succ (s : Sl) (r : SEnv) (n : Nat) : get (s :: r) (n + 1) = get r n := rfl
theorem get_of : ∀ (ρ : SEnv) (i : Nat), i < ρ.length → ρ[i]? = some (get ρ i)
  | [], _, h => by simp at h
  | s :: r, 0, _ => by simp
  | s :: r, n + 1, h => by
    have := get_of r n (by simpa using h)
    simpa using this
theorem get_out : ∀ (ρ : SEnv) (i : Nat), ρ.length ≤ i → get ρ i = .un
  | [], _, _ => rfl
  | s :: r, 0, h => by simp at h
  | s :: r, n + 1, h => get_out r n (by simpa using h)
def put : SEnv → Nat → Sl → SEnv
  | [], _, _ => []
  | _ :: r, 0, t => t :: r
  | s :: r, n + 1, t => s :: put r n t
@[simp] theorem put_zero (s : Sl) (r : SEnv) (t : Sl) : put (s :: r) 0 t = t :: r := rfl
@[simp] theorem put_succ (s : Sl) (r : SEnv) (n : Nat) (t : Sl) : put (s :: r) (n + 1) t = s :: put r n t := rfl
theorem put_length : ∀ (ρ : SEnv) (i : Nat) (t : Sl), (put ρ i t).length = ρ.length
  | [], _, _ => rfl
  | _ :: _, 0, _ => rfl
  | _ :: r, n + 1, t => by simp [put_length r n t]
theorem get_put_same : ∀ (ρ : SEnv) (i : Nat) (t : Sl), i < ρ.length → get (put ρ i t) i = t
  | [], _, _, h => by simp at h
  | _ :: _, 0, _, _ => rfl
  | _ :: r, n + 1, t, h => by simpa using get_put_same r n t (by simpa using h)
theorem get_put_ne : ∀ (ρ : SEnv) (i j : Nat) (t : Sl), i ≠ j → get (put ρ i t) j = get ρ j
  | [], _, _, _, _ => rfl
  | _ :: _, 0, 0, _, h => absurd rfl h
  | _ :: _, 0, _ + 1, _, _ => rfl
  | _ :: _, _ + 1, 0, _, _ => rfl
  | _ :: r, n + 1, m + 1, t, h => by simpa using get_put_ne r n m t (fun e => h (by rw [e]))

structure St (K : PySem.W.Frag) (B Z0 Z H : Hp) (σ : L2.St) (ρ : SEnv) : Prop where
  st : StepB B Z0 Z H
  len : σ.length = ρ.length
  sl : ∃ fp : Nat → List Addr, (∀ i, slR K B Z H (get ρ i) (look σ i) (fp i)) ∧ (∀ i j a, i ≠ j → a ∈ fp i → ¬ a ∈ fp j) ∧ ∀ i a, a ∈ fp i → B a = none ∧ Z a = none
theorem St.step {B Z0 Z H Z' H' : Hp} {σ : L2.St} {ρ : SEnv} (s : St K B Z0 Z H σ ρ) (k : Step Z H Z' H') : St K B Z0 Z' H' σ ρ := by
  obtain ⟨st, len, fp, h1, h2, h3⟩ := s
  refine ⟨st.trans k, len, fp, fun i => (h1 i).mono (Same.refl B) k.zz fun a ha => ?_, h2, fun i a ha => ⟨(h3 i a ha).1, ?_⟩⟩
  · cases q : H a with
    | none => exact absurd q ((h1 i).live a ha)
    | some o => exact k.bh a o q
  · cases q : Z' a with
    | none => rfl
    | some o =>
      rcases k.gr a (by rw [q]; intro z; cases z) with z | z
      · exact absurd (h3 i a ha).2 z
      · exact absurd z ((h1 i).live a ha)
/-- a footprint more -/
def sw (fp : Nat → List Addr) (i : Nat) (l : List Addr) : Nat → List Addr := fun j => if j = i then l else fp j
theorem sw_same (fp : Nat → List Addr) (i : Nat) (l : List Addr) : sw fp i l i = l := if_pos rfl
theorem sw_ne (fp : Nat → List Addr) {i j : Nat} (l : List Addr) (h : j ≠ i) : sw fp i l j = fp j := if_neg h
theorem put_out : ∀ (ρ : SEnv) (i : Nat) (s : Sl), ρ.length ≤ i → put ρ i s = ρ
  | [], _, _, _ => rfl
  | _ :: _, 0, _, h => by simp at h
  | s :: r, n + 1, t, h => by rw [put_succ, put_out r n t (by simpa using h)]
theorem St.sets {B Z0 Z H : Hp} {σ : L2.St} {ρ : SEnv} {i : Nat} {s : Sl} {o : Option V} {fpn : List Addr} {fp : Nat → List Addr} (st : StepB B Z0 Z H) (len : σ.length = ρ.length)
    (h1 : ∀ j, j ≠ i → slR K B Z H (get ρ j) (look σ j) (fp j)) (h2 : ∀ j k a, j ≠ i → k ≠ i → j ≠ k → a ∈ fp j → ¬ a ∈ fp k) (h3 : ∀ j a, j ≠ i → a ∈ fp j → B a = none ∧ Z a = none)
    (h : slR K B Z H s o fpn) (hn : ∀ a ∈ fpn, B a = none ∧ Z a = none) (hd : ∀ j a, j ≠ i → a ∈ fpn → ¬ a ∈ fp j) (hi : i < ρ.length) : St K B Z0 Z H (σ.set i o) (put ρ i s) := by
  refine ⟨st, by rw [List.length_set, put_length, len], sw fp i fpn, fun j => ?_, fun j k a hjk ha => ?_, fun j a ha => ?_⟩
  · by_cases c : j = i
    · subst c
      rw [get_put_same _ _ _ hi, look_set_same (by rw [len]; exact hi), sw_same]
      exact h
    · rw [get_put_ne _ _ _ _ (Ne.symm c), look_set_ne (Ne.symm c), sw_ne _ _ c]
      exact h1 j c
  · by_cases c : j = i
    · subst c
      rw [sw_same] at ha
      rw [sw_ne _ _ (Ne.symm hjk)]
      exact hd k a (Ne.symm hjk) ha
    · rw [sw_ne _ _ c] at ha
      by_cases c2 : k = i
      · subst c2
        rw [sw_same]
        exact fun q => hd j a c q ha
      · rw [sw_ne _ _ c2]
        exact h2 j k a c c2 hjk ha
  · by_cases c : j = i
    · subst c
      rw [sw_same] at ha
      exact hn a ha
    · rw [sw_ne _ _ c] at ha
      exact h3 j a c ha
/-- a slot is stored anew, the value's own new since H0 -/
theorem St.set {B Z0 Z H Z' H' : Hp} {σ : L2.St} {ρ : SEnv} {v : V} {s : Sl} (x : St K B Z0 Z H σ ρ) (k : Step Z H Z' H') (i : Nat) (h : ∃ fp, slR K B Z' H' s (some v) fp ∧ ∀ a ∈ fp, H a = none ∧ Z' a = none) :
    St K B Z0 Z' H' (σ.set i (some v)) (put ρ i s) := by
  obtain ⟨fpn, h, hn⟩ := h
  have y := x.step k
  by_cases hi : i < ρ.length
  · obtain ⟨st, len, fp, h1, h2, h3⟩ := x
    refine St.sets (fp := fp) y.st len (fun j _ => (h1 j).mono (Same.refl B) k.zz fun a ha => ?_) (fun j l a _ _ hjl ha => h2 j l a hjl ha) (fun j a _ ha => ⟨(h3 j a ha).1, ?_⟩) h (fun a ha => ⟨none_back st.bh (hn a ha).1, (hn a ha).2⟩) (fun j a _ ha q => (h1 j).live a q (hn a ha).1) hi
    · cases q : H a with
      | none => exact absurd q ((h1 j).live a ha)
      | some o => exact k.bh a o q
    · cases q : Z' a with
      | none => rfl
      | some o =>
        rcases k.gr a (by rw [q]; intro z; cases z) with z | z
        · exact absurd (h3 j a ha).2 z
        · exact absurd z ((h1 j).live a ha)
  · rw [put_out _ _ _ (by omega), List.set_eq_of_length_le (by rw [y.len]; omega)]
    exact y
/-- a slot is forgotten -/
theorem St.forget {B Z0 Z H : Hp} {σ : L2.St} {ρ : SEnv} (x : St K B Z0 Z H σ ρ) (i : Nat) : St K B Z0 Z H σ (put ρ i .un) := by
  by_cases hi : i < ρ.length
  · obtain ⟨st, len, fp, h1, h2, h3⟩ := x
    have := St.sets (K := K) (σ := σ) (ρ := ρ) (i := i) (s := .un) (o := look σ i) (fpn := []) (fp := fp) st len (fun j _ => h1 j) (fun j l a _ _ => h2 j l a) (fun j a _ => h3 j a) rfl (fun _ h => nomatch h) (fun _ _ _ h => nomatch h) hi
    rw [show σ.set i (look σ i) = σ from ?_] at this
    · exact this
    · apply List.ext_getElem?
      intro n
      by_cases c : i = n
      · subst c
        rw [List.getElem?_set_self (by rw [len]; exact hi)]
        unfold look
        rw [List.getElem?_eq_getElem (by rw [len]; exact hi)]
        rfl
      · rw [List.getElem?_set_ne c]
  · rw [put_out _ _ _ (by omega)]
    exact x
/-- forget some -/
def wipe1 (ρ : SEnv) : List Nat → SEnv
  | [] => ρ
  | i :: r => put (wipe1 ρ r) i .un
@[simp] theorem wipe1_nil (ρ : SEnv) : wipe1 ρ [] = ρ := rfl
@[simp] theorem wipe1_cons (ρ : SEnv) (i : Nat) (r : List Nat) : wipe1 ρ (i :: r) = put (wipe1 ρ r) i .un := rfl
theorem St.wipe1 {B Z0 Z H : Hp} {σ : L2.St} : ∀ (is : List Nat) {ρ : SEnv}, St K B Z0 Z H σ ρ → St K B Z0 Z H σ (wipe1 ρ is)
  | [], _, x => x
  | i :: r, _, x => (St.wipe1 r x).forget i
/-- .. and the slots themselves -/
theorem St.clear {B Z0 Z H : Hp} {σ : L2.St} {ρ : SEnv} (x : St K B Z0 Z H σ ρ) (i : Nat) : St K B Z0 Z H (σ.set i none) (put ρ i .un) := by
  by_cases hi : i < ρ.length
  · obtain ⟨st, len, fp, h1, h2, h3⟩ := x
    exact St.sets (fp := fp) (fpn := []) st len (fun j _ => h1 j) (fun j l a _ _ => h2 j l a) (fun j a _ => h3 j a) rfl (fun _ h => nomatch h) (fun _ _ _ h => nomatch h) hi
  · rw [put_out _ _ _ (by omega), List.set_eq_of_length_le (by rw [x.len]; omega)]
    exact x
theorem St.wipes {B Z0 Z H : Hp} {σ : L2.St} {ρ : SEnv} (x : St K B Z0 Z H σ ρ) : ∀ (is : List Nat), St K B Z0 Z H (L2.wipe σ is) (DL.wipe1 ρ is)
  | [] => x
  | i :: r => (St.wipes x r).clear i
/-- a list of one's own is frozen -/
def frz (ρ : SEnv) (i : Nat) : SEnv := match get ρ i with
  | .own ds => put ρ i (.pl (.list ds))
  | _ => ρ
theorem put_get : ∀ (ρ : SEnv) (i : Nat), put ρ i (get ρ i) = ρ
  | [], _ => rfl
  | _ :: _, 0 => rfl
  | s :: r, n + 1 => by rw [get_succ, put_succ, put_get r n]
theorem set_look {σ : L2.St} {i : Nat} (h : i < σ.length) : σ.set i (look σ i) = σ := by
  apply List.ext_getElem?
  intro n
  by_cases c : i = n
  · subst c
    rw [List.getElem?_set_self h]
    unfold look
    rw [List.getElem?_eq_getElem h]
    rfl
  · rw [List.getElem?_set_ne c]
theorem St.frz {B Z0 Z H : Hp} {σ : L2.St} {ρ : SEnv} (x : St K B Z0 Z H σ ρ) (i : Nat) : ∃ Z', St K B Z0 Z' H σ (DL.frz ρ i) ∧ Same Z Z' := by
  unfold DL.frz
  split
  · rename_i ds q
    obtain ⟨st, len, fp, h1, h2, h3⟩ := x
    have hi := h1 i
    rw [q] at hi
    obtain ⟨p, vs, e, hv, hp, hd⟩ := hi
    have h3i := h3 i p (by rw [e]; simp)
    have zz : Same Z (upd Z p (.lst vs)) := fun b u e => by rw [upd_ne (ne_of_none e h3i.2)]; exact e
    refine ⟨upd Z p (.lst vs), ?_, zz⟩
    have hi : i < ρ.length := by
      by_cases c : i < ρ.length
      · exact c
      · rw [get_out _ _ (by omega)] at q; cases q
    have hpn : ∀ j, j ≠ i → ∀ a ∈ fp j, a ≠ p := fun j hj a ha z => h2 j i a hj ha (by rw [z, e]; simp)
    have := St.sets (K := K) (σ := σ) (ρ := ρ) (i := i) (s := .pl (.list ds)) (o := look σ i) (fpn := []) (fp := fp) (st.freeze hp h3i.1 h3i.2) len (fun j hj => (h1 j).mono (Same.refl B) zz fun _ _ => rfl) (fun j l a _ _ => h2 j l a) (fun j a hj ha => ⟨(h3 j a ha).1, by rw [upd_ne (hpn j hj a ha)]; exact (h3 j a ha).2⟩)
      ⟨rfl, _, hv, .lst (.inl (.inl upd_same)) (DpAll_mono zz _ _ hd)⟩ (fun _ h => nomatch h) (fun _ _ _ h => nomatch h) hi
    rw [set_look (by rw [len]; exact hi)] at this
    exact this
  · exact ⟨Z, x, Same.refl Z⟩
/-- a slot's thing goes to another slot -/
def mov (ρ : SEnv) (i j : Nat) : SEnv := put (put ρ j .un) i (get ρ j)

/-- a value, as an expression leaves it: what is its own is new since H0 -/
def vlR (K : PySem.W.Frag) (H0 Z H : Hp) (v : V) (s : Sl) : Prop := ∃ fp, slR K H Z H s (some v) fp ∧ ∀ a ∈ fp, H0 a = none ∧ Z a = none
theorem vlR.step {H0 Z H Z' H' : Hp} {v : V} {s : Sl} (h : vlR K H0 Z H v s) (k : Step Z H Z' H') : vlR K H0 Z' H' v s := by
  obtain ⟨fp, h1, h2⟩ := h
  refine ⟨fp, h1.mono k.bh k.zz fun a ha => ?_, fun a ha => ⟨(h2 a ha).1, ?_⟩⟩
  · cases q : H a with
    | none => exact absurd q (h1.live a ha)
    | some o => exact k.bh a o q
  · cases q : Z' a with
    | none => rfl
    | some o =>
      rcases k.gr a (by rw [q]; intro z; cases z) with z | z
      · exact absurd (h2 a ha).2 z
      · exact absurd z (h1.live a ha)
theorem vlR.back {H0 H1 Z H : Hp} {v : V} {s : Sl} (h : vlR K H1 Z H v s) (e : Same H0 H1) : vlR K H0 Z H v s := by
  obtain ⟨fp, h1, h2⟩ := h
  exact ⟨fp, h1, fun a ha => ⟨none_back e (h2 a ha).1, (h2 a ha).2⟩⟩
theorem vlR.pl {H0 Z H : Hp} {v : V} {d : D} (h : Dp K Z v d) : vlR K H0 Z H v (.pl d) := ⟨[], ⟨rfl, v, rfl, h⟩, fun _ h => nomatch h⟩
theorem vlR.data {H0 Z H : Hp} {v : V} {d : D} (h : vlR K H0 Z H v (.pl d)) : Dp K Z v d := by
  obtain ⟨fp, ⟨_, x, e, h1⟩, _⟩ := h
  cases e
  exact h1

/-! ### the readings -/
def ER (K : PySem.W.Frag) (f : SEnv → Option Sl) : TE := fun σ H Q => ∃ B Z0 Z ρ s, St K B Z0 Z H σ ρ ∧ f ρ = some s ∧ ∀ v Z' H', Step Z H Z' H' → vlR K H Z' H' v s → Q v H'
def TR (K : PySem.W.Frag) (f : SEnv → Option Bool) : TT := fun σ H Q => ∃ B Z0 Z ρ b, St K B Z0 Z H σ ρ ∧ f ρ = some b ∧ ∀ Z' H', Step Z H Z' H' → Q b H'
/-- arguments, borrowed -/
def bor : Sl → Sl
  | .own ds => .brw ds
  | .dic kvs => .bdc kvs
  | .obj c d => .bob c d
  | s => s
def AllB (K : PySem.W.Frag) (Z H : Hp) : List V → List Sl → Prop
  | [], [] => True
  | v :: vs, s :: ss => slR K H Z H s (some v) [] ∧ AllB K Z H vs ss
  | _, _ => False
theorem AllB.step {Z H Z' H' : Hp} (k : Step Z H Z' H') : ∀ {vs : List V} {ss : List Sl}, AllB K Z H vs ss → AllB K Z' H' vs ss
  | [], [], _ => trivial
  | _ :: _, _ :: _, h => ⟨h.1.mono k.bh k.zz (fun _ h => nomatch h), AllB.step k h.2⟩
  | [], _ :: _, h => h.elim
  | _ :: _, [], h => h.elim
theorem bor_ok {H0 Z H : Hp} {v : V} {s : Sl} (h : vlR K H0 Z H v s) : slR K H Z H (bor s) (some v) [] := by
  obtain ⟨fp, h1, h2⟩ := h
  cases s with
  | un => exact rfl
  | pl d => exact ⟨rfl, h1.2⟩
  | own ds => obtain ⟨p, vs, e, hx, hp, hd⟩ := h1; exact ⟨rfl, p, vs, hx, hp, hd⟩
  | brw ds => exact ⟨rfl, h1.2⟩
  | dic kvs => obtain ⟨p, vs, e, hx, hp, hd⟩ := h1; exact ⟨rfl, p, vs, hx, hp, hd⟩
  | bdc kvs => exact ⟨rfl, h1.2⟩
  | obj c d => obtain ⟨x, hx, hr⟩ := h1; exact ⟨rfl, x, fp, hx, hr⟩
  | bob c d => exact ⟨rfl, h1.2⟩
def AR (K : PySem.W.Frag) (f : SEnv → Option (List Sl)) : TA := fun σ H Q => ∃ B Z0 Z ρ ss, St K B Z0 Z H σ ρ ∧ f ρ = some ss ∧ ∀ vs Z' H', Step Z H Z' H' → AllB K Z' H' vs ss → Q vs H'
/-- arguments as data: new lists are frozen -/
def toD : Sl → Option D
  | .pl d => some d
  | .own ds => some (.list ds)
  | _ => none
def DR (K : PySem.W.Frag) (f : SEnv → Option (List D)) : TA := fun σ H Q => ∃ B Z0 Z ρ ds, St K B Z0 Z H σ ρ ∧ f ρ = some ds ∧ ∀ vs Z' H', Step Z H Z' H' → DpAll K Z' vs ds → Q vs H'
theorem toD_ok {Z0 H0 Z H : Hp} {v : V} {s : Sl} {d : D} (k : Step Z0 H0 Z H) (h : vlR K H0 Z H v s) (e : toD s = some d) : ∃ Z', Step Z0 H0 Z' H ∧ Same Z Z' ∧ Dp K Z' v d := by
  cases s with
  | pl c => cases e; exact ⟨Z, k, Same.refl Z, h.data⟩
  | own ds =>
    cases e
    obtain ⟨fp, ⟨p, vs, rfl, hx, hp, hd⟩, h2⟩ := h
    cases hx
    obtain ⟨q0, qz⟩ := h2 p (by simp)
    have zz : Same Z (upd Z p (.lst vs)) := fun b u e => by rw [upd_ne (ne_of_none e qz)]; exact e
    exact ⟨upd Z p (.lst vs), k.freeze hp q0 qz, zz, .lst (.inl (.inl upd_same)) (DpAll_mono zz _ _ hd)⟩
  | _ => cases e

/-- what leaves a def as an exception: its class, its fields -/
structure Exn where
  cls : Value
  fs : Option (List (Str × D))
def exR (K : PySem.W.Frag) (Z H : Hp) (x : Exn) (cls : Value) (od : Option Addr) : Prop :=
  cls = x.cls ∧ match x.fs, od with
    | none, none => True
    | some fs, some a => ∃ vs : List (Str × V), H a = some (.xd vs) ∧ Paired (fun (p : Str × V) (q : Str × D) => p.1 = q.1 ∧ Dp K Z p.2 q.2) vs fs
    | _, _ => False
inductive Out where
  | nx (ρ : SEnv)
  | rt (s : Sl)
  | bk (ρ : SEnv)
  | ct (ρ : SEnv)
  | ex (x : Exn)
/-- a value handed back: what is its own is new to B -/
def vlB (K : PySem.W.Frag) (B Z H : Hp) (v : V) (s : Sl) : Prop := ∃ fp, slR K H Z H s (some v) fp ∧ ∀ a ∈ fp, B a = none ∧ Z a = none
def post (K : PySem.W.Frag) (E : XK) (B Z0 : Hp) (D : Ends) : Out → Prop
  | .nx ρ => ∀ Z σ H, St K B Z0 Z H σ ρ → D.nx σ H
  | .bk ρ => ∀ Z σ H, St K B Z0 Z H σ ρ → D.bk σ H
  | .ct ρ => ∀ Z σ H, St K B Z0 Z H σ ρ → D.ct σ H
  | .rt s => ∀ v Z H, StepB B Z0 Z H → vlB K B Z H v s → D.rt v H
  | .ex x => ∀ c od Z H, StepB B Z0 Z H → exR K Z H x c od → E c od H
def SR (K : PySem.W.Frag) (E : XK) (f : SEnv → Option Out) : TS := fun D σ H => ∃ B Z0 Z ρ o, St K B Z0 Z H σ ρ ∧ f ρ = some o ∧ post K E B Z0 D o
end

/-! ### the judgements -/
section
variable {X : Cx}
theorem PE_imp {e : Expr} {t t' : TE} (h : PE X e t) (i : ∀ σ H Q, t' σ H Q → t σ H Q) : PE X e t' := ⟨fun pins s σ H Q I hw => h.run pins s σ H Q I (i σ H Q hw)⟩
theorem PT_imp {e : Expr} {t t' : TT} (h : PT X e t) (i : ∀ σ H Q, t' σ H Q → t σ H Q) : PT X e t' := ⟨fun pins s σ H Q I hw => h.run pins s σ H Q I (i σ H Q hw)⟩
theorem PW_imp {e : Expr} {t t' : TT} (h : PW X e t) (i : ∀ σ H Q, t' σ H Q → t σ H Q) : PW X e t' := ⟨fun wh pins s σ H Q I hw => h.run wh pins s σ H Q I (i σ H Q hw)⟩
theorem PA_imp {es : List Expr} {t t' : TA} (h : PA X es t) (i : ∀ σ H Q, t' σ H Q → t σ H Q) : PA X es t' := ⟨fun pos pins s σ H Q I hw => h.run pos pins s σ H Q I (i σ H Q hw)⟩
theorem PS_imp {st : Stmt} {t t' : TS} (h : PS X st t) (i : ∀ D σ H, t' D σ H → t D σ H) : PS X st t' := ⟨fun pins s σ H D I hw => h.run pins s σ H D I (i D σ H hw)⟩
theorem PSs_imp {st : List Stmt} {t t' : TS} (h : PSs X st t) (i : ∀ D σ H, t' D σ H → t D σ H) : PSs X st t' := ⟨fun pins s σ H D I hw => h.run pins s σ H D I (i D σ H hw)⟩
abbrev PD (X : Cx) (e : Expr) (f : SEnv → Option Sl) : Prop := PE X e (ER X.K f)
abbrev TD (X : Cx) (e : Expr) (f : SEnv → Option Bool) : Prop := PT X e (TR X.K f)
abbrev WD (X : Cx) (e : Expr) (f : SEnv → Option Bool) : Prop := PW X e (TR X.K f)
abbrev AD (X : Cx) (es : List Expr) (f : SEnv → Option (List Sl)) : Prop := PA X es (AR X.K f)
abbrev DD (X : Cx) (es : List Expr) (f : SEnv → Option (List D)) : Prop := PA X es (DR X.K f)
abbrev SD (X : Cx) (E : XK) (st : Stmt) (f : SEnv → Option Out) : Prop := PS X st (SR X.K E f)
abbrev SsD (X : Cx) (E : XK) (st : List Stmt) (f : SEnv → Option Out) : Prop := PSs X st (SR X.K E f)
end
end DL

set_option Elab.async false
set_option linter.all false
set_option maxRecDepth 100000
set_option maxHeartbeats 1000000
/-! DL2: expressions. -/
namespace DL
open PySem PySem.Spec PyProof.Rows L2
section
variable {K : PySem.W.Frag} {B Z0 Z H : Hp} {σ : L2.St} {ρ : SEnv}
theorem er1 {f : SEnv → Option Sl} {a : Sl} {Q : VK} (x : St K B Z0 Z H σ ρ) (e : f ρ = some a) (k : ∀ v Z' H', Step Z H Z' H' → vlR K H Z' H' v a → Q v H') : ER K f σ H Q := ⟨B, Z0, Z, ρ, a, x, e, k⟩
theorem er2 {f g : SEnv → Option Sl} {a b : Sl} {R : V → V → Hp → Prop} (x : St K B Z0 Z H σ ρ) (ea : f ρ = some a) (eb : g ρ = some b)
    (k : ∀ v w Z' H', Step Z H Z' H' → vlR K H Z' H' v a → vlR K H Z' H' w b → R v w H') : ER K f σ H fun v H1 => ER K g σ H1 fun w H2 => R v w H2 :=
  er1 x ea fun v Z1 H1 k1 r1 => er1 (x.step k1) eb fun w Z2 H2 k2 r2 => k v w Z2 H2 (k1.trans k2) (r1.step k2) (r2.back k1.bh)
theorem tr1 {f : SEnv → Option Bool} {a : Bool} {Q : Bool → Hp → Prop} (x : St K B Z0 Z H σ ρ) (e : f ρ = some a) (k : ∀ Z' H', Step Z H Z' H' → Q a H') : TR K f σ H Q := ⟨B, Z0, Z, ρ, a, x, e, k⟩
theorem St.zh (x : St K B Z0 Z H σ ρ) : Same Z H := x.st.zh
theorem St.bh (x : St K B Z0 Z H σ ρ) : Same B H := x.st.bh
/-- what is seen of a value: data, or a list as data -/
def view : Sl → Option D
  | .pl d => some d
  | .own ds => some (.list ds)
  | .brw ds => some (.list ds)
  | _ => none
theorem view_ok {H0 : Hp} {v : V} {s : Sl} {d : D} (h : vlR K H0 Z H v s) (zh : Same Z H) (e : view s = some d) : Dp K H v d := by
  obtain ⟨fp, h1, h2⟩ := h
  cases s with
  | pl c => cases e; obtain ⟨_, x, hx, hd⟩ := h1; cases hx; exact Dp_mono zh _ _ hd
  | own ds => cases e; obtain ⟨p, vs, _, hx, hp, hd⟩ := h1; cases hx; exact .lst (.inl (.inl hp)) (DpAll_mono zh _ _ hd)
  | brw ds => cases e; obtain ⟨_, p, vs, hx, hp, hd⟩ := h1; cases hx; exact .lst (.inl (.inl hp)) (DpAll_mono zh _ _ hd)
  | _ => cases e
/-- as a list or a tuple: its items, related in Z -/
def items : Sl → Option (List D)
  | .pl (.list ds) => some ds
  | .pl (.tuple ds) => some ds
  | .own ds => some ds
  | .brw ds => some ds
  | _ => none
/-- as a list -/
def litems : Sl → Option (List D)
  | .pl (.list ds) => some ds
  | .own ds => some ds
  | .brw ds => some ds
  | _ => none
theorem litems_ok {H0 : Hp} {v : V} {s : Sl} {ds : List D} (h : vlR K H0 Z H v s) (zh : Same Z H) (e : litems s = some ds) : ∃ p vs, v = .ref p ∧ SqL K H p vs ∧ DpAll K Z vs ds := by
  obtain ⟨fp, h1, h2⟩ := h
  cases s with
  | pl c =>
    cases c with
    | list es =>
      cases e
      obtain ⟨_, x, hx, hd⟩ := h1
      cases hx
      cases hd with
      | lst q r => exact ⟨_, _, rfl, zh.seq q, r⟩
    | _ => cases e
  | own es => cases e; obtain ⟨p, vs, _, hx, hp, hd⟩ := h1; cases hx; exact ⟨p, vs, rfl, .inl (.inl hp), hd⟩
  | brw es => cases e; obtain ⟨_, p, vs, hx, hp, hd⟩ := h1; cases hx; exact ⟨p, vs, rfl, .inl (.inl hp), hd⟩
  | _ => cases e
theorem items_ok {H0 : Hp} {v : V} {s : Sl} {ds : List D} (h : vlR K H0 Z H v s) (zh : Same Z H) (e : items s = some ds) : ∃ p vs, v = .ref p ∧ (SqL K H p vs ∨ SqT K H p vs) ∧ DpAll K Z vs ds := by
  cases s with
  | pl c =>
    cases c with
    | list es =>
      obtain ⟨p, vs, h1, h2, h3⟩ := litems_ok h zh (show litems (.pl (.list es)) = some ds from e)
      exact ⟨p, vs, h1, .inl h2, h3⟩
    | tuple es =>
      cases e
      have hd := h.data
      cases hd with
      | tup q r => exact ⟨_, _, rfl, .inr (sqT_mono zh q), r⟩
    | _ => cases e
  | own es =>
    obtain ⟨p, vs, h1, h2, h3⟩ := litems_ok h zh (show litems (.own es) = some ds from e)
    exact ⟨p, vs, h1, .inl h2, h3⟩
  | brw es =>
    obtain ⟨p, vs, h1, h2, h3⟩ := litems_ok h zh (show litems (.brw es) = some ds from e)
    exact ⟨p, vs, h1, .inl h2, h3⟩
  | _ => cases e
theorem titems_ok {v : V} {ds : List D} (h : Dp K Z v (.tuple ds)) : ∃ p vs, v = .ref p ∧ SqT K Z p vs ∧ DpAll K Z vs ds := by
  cases h with
  | tup q r => exact ⟨_, _, rfl, q, r⟩
/-- a new list of known items -/
theorem vlR.newL (zh : Same Z H) {p : Addr} {vs : List V} {ds : List D} (hp : H p = none) (hd : DpAll K Z vs ds) : Step Z H Z (upd H p (.lst vs)) ∧ vlR K H Z (upd H p (.lst vs)) (.ref p) (.own ds) := by
  refine ⟨Step.newH zh hp, [p], ⟨p, vs, rfl, rfl, upd_same, hd⟩, fun a ha => ?_⟩
  rw [List.mem_singleton.mp ha]
  exact ⟨hp, none_back zh hp⟩
theorem Dp_newT (zh : Same Z H) {p : Addr} {vs : List V} {ds : List D} (hp : H p = none) (hd : DpAll K Z vs ds) : Step Z H (upd Z p (.tup vs)) (upd H p (.tup vs)) ∧ Dp K (upd Z p (.tup vs)) (.ref p) (.tuple ds) := by
  have k := Step.newZ (o := .tup vs) zh hp
  exact ⟨k, .tup (.inl (.inl upd_same)) (DpAll_mono k.zz _ _ hd)⟩
end

/-! ### names, constants -/
def borq : Sl → Option Sl
  | .un => none
  | .pl d => some (.pl d)
  | .own ds => some (.brw ds)
  | .brw ds => some (.brw ds)
  | .dic kvs => some (.bdc kvs)
  | .bdc kvs => some (.bdc kvs)
  | .obj c d => some (.bob c d)
  | .bob c d => some (.bob c d)
@[simp] theorem borq_pl (d : D) : borq (.pl d) = some (.pl d) := rfl
@[simp] theorem borq_own (d : List D) : borq (.own d) = some (.brw d) := rfl
@[simp] theorem borq_brw (d : List D) : borq (.brw d) = some (.brw d) := rfl
@[simp] theorem borq_dic (d : List (Key × D)) : borq (.dic d) = some (.bdc d) := rfl
@[simp] theorem borq_bdc (d : List (Key × D)) : borq (.bdc d) = some (.bdc d) := rfl
@[simp] theorem borq_obj (c : ObjC) (d : D) : borq (.obj c d) = some (.bob c d) := rfl
@[simp] theorem borq_bob (c : ObjC) (d : D) : borq (.bob c d) = some (.bob c d) := rfl
def eVar (i : Nat) : SEnv → Option Sl := fun ρ => borq (get ρ i)
def eC (d : D) : SEnv → Option Sl := fun _ => some (.pl d)
theorem slot_val {K : PySem.W.Frag} {B Z H : Hp} {s t : Sl} {o : Option V} {fp : List Addr} (h : slR K B Z H s o fp) (bh : Same B H) (e : borq s = some t) : ∃ v, o = some v ∧ slR K H Z H t (some v) [] := by
  cases s with
  | un => cases e
  | pl d => cases e; obtain ⟨_, x, hx, hd⟩ := h; exact ⟨x, hx, rfl, x, rfl, hd⟩
  | own ds => cases e; obtain ⟨p, vs, _, hx, hp, hd⟩ := h; exact ⟨_, hx, rfl, p, vs, rfl, hp, hd⟩
  | brw ds => cases e; obtain ⟨_, p, vs, hx, hp, hd⟩ := h; exact ⟨_, hx, rfl, p, vs, rfl, bh _ _ hp, hd⟩
  | dic ds => cases e; obtain ⟨p, vs, _, hx, hp, hd⟩ := h; exact ⟨_, hx, rfl, p, vs, rfl, hp, hd⟩
  | bdc ds => cases e; obtain ⟨_, p, vs, hx, hp, hd⟩ := h; exact ⟨_, hx, rfl, p, vs, rfl, bh _ _ hp, hd⟩
  | obj c d => cases e; obtain ⟨x, hx, hr⟩ := h; exact ⟨_, hx, rfl, x, fp, rfl, hr⟩
  | bob c d =>
    cases e
    obtain ⟨_, x, fp', hx, hr⟩ := h
    refine ⟨_, hx, rfl, x, fp', rfl, c.mono hr (Same.refl _) fun a ha => ?_⟩
    cases q : B a with
    | none => exact absurd q (c.live hr a ha)
    | some o => exact bh a o q
theorem St.var {K : PySem.W.Frag} {B Z0 Z H : Hp} {σ : L2.St} {ρ : SEnv} (x : St K B Z0 Z H σ ρ) {i : Nat} {t : Sl} (e : borq (get ρ i) = some t) : ∃ v, σ[i]? = some (some v) ∧ vlR K H Z H v t := by
  obtain ⟨_, _, fp, h1, _, _⟩ := id x
  obtain ⟨v, hv, r⟩ := slot_val (h1 i) x.bh e
  exact ⟨v, look_some hv, [], r, fun _ h => nomatch h⟩
section
variable {X : Cx}
theorem pd_var (i : Nat) {x : Str} {pos : Pos} (hN : X.N[i]? = some x := by rfl) (hv : Vis X.env.scope x := by first | exact Or.inl rfl | exact Or.inr (Or.inl rfl) | exact Or.inr (Or.inr rfl)) (hd : (x == ("__debug__" : Str)) = false := by decide)
    (hcd : (x == ("__classdict__" : Str)) = false := by decide) : PD X (.Name x pos) (eVar i) :=
  PE_imp (pv i hN hv hd hcd) fun σ H Q ⟨B, Z0, Z, ρ, s, x, e, k⟩ => by
    obtain ⟨v, hv, r⟩ := x.var e
    exact ⟨v, hv, k v Z H (Step.refl x.zh) r⟩
theorem pd_c {e : Expr} {v : V} {d : D} (h : PE X e (tC v)) (hd : ∀ Z, Dp X.K Z v d) : PD X e (eC d) :=
  PE_imp h fun σ H Q ⟨B, Z0, Z, ρ, s, x, e, k⟩ => by
    cases e
    exact k v Z H (Step.refl x.zh) (vlR.pl (hd Z))
theorem pd_int {i j pos} : PD X (.Constant (.int i) j pos) (eC (.int i)) := pd_c pe_int fun _ => .int i
theorem pd_bl {b j pos} : PD X (.Constant (.bool b) j pos) (eC (.bool b)) := pd_c pe_bl fun _ => .bl b
theorem pd_non {j pos} : PD X (.Constant .none j pos) (eC .none) := pd_c pe_non fun _ => .non
theorem pd_str {x j pos} : PD X (.Constant (.str x) j pos) (eC (.str x)) := pd_c pe_str fun _ => .str x
/-- a constant of the module -/
theorem pd_glob {x : Str} {v : V} {d : D} {u : Value} {pos : Pos} (hg : Gl X x) (hm : X.mg x = some u) (r : RelV v u) (hd : ∀ Z, Dp X.K Z v d) (hdb : (x == ("__debug__" : Str)) = false := by decide) : PD X (.Name x pos) (eC d) := pd_c (pe_glob hg hm r hdb) hd

/-! ### two-place operations -/
def sl2 (f : D → D → Option D) : Option Sl → Option Sl → Option Sl
  | some (.pl x), some (.pl y) => (f x y).map .pl
  | _, _ => none
@[simp] theorem sl2_pl (f : D → D → Option D) (x y : D) : sl2 f (some (.pl x)) (some (.pl y)) = (f x y).map .pl := rfl
def eBin (f : D → D → Option D) (a b : SEnv → Option Sl) : SEnv → Option Sl := fun ρ => sl2 f (a ρ) (b ρ)
theorem sl2_inv {f : D → D → Option D} {a b : Option Sl} {s : Sl} (h : sl2 f a b = some s) : ∃ x y d, a = some (.pl x) ∧ b = some (.pl y) ∧ f x y = some d ∧ s = .pl d := by
  unfold sl2 at h
  split at h
  · rename_i x y
    cases e : f x y with
    | none => rw [e] at h; cases h
    | some d => rw [e] at h; cases h; exact ⟨x, y, d, rfl, rfl, e, rfl⟩
  · cases h
def BinOK (K : PySem.W.Frag) (r : R2) (f : D → D → Option D) : Prop := ∀ {Z H : Hp} {x y : V} {dx dy d : D} {Q : VK}, Same Z H → Dp K Z x dx → Dp K Z y dy → f dx dy = some d → (∀ v Z' H', Step Z H Z' H' → Dp K Z' v d → Q v H') → r x y H Q
theorem pd_bin {op : Operator} {r : R2} {f : D → D → Option D} {a b : Expr} {fa fb : SEnv → Option Sl} {pos : Pos} (ho : OpR X (binaryOp op) r) (hf : BinOK X.K r f) (ha : PD X a fa) (hb : PD X b fb) : PD X (.BinOp a op b pos) (eBin f fa fb) :=
  PE_imp (pe_op ho ha hb) fun σ H Q ⟨B, Z0, Z, ρ, s, x, e, k⟩ => by
    obtain ⟨dx, dy, d, ea, eb, ef, rfl⟩ := sl2_inv e
    refine er2 x ea eb fun v w Z' H' k' r1 r2 => ?_
    exact hf k'.zh r1.data r2.data ef fun u Z2 H2 k2 q => k u Z2 H2 (k'.trans k2) (vlR.pl q)
/-- of ints -/
def iF (C : Int → Int → Prop) [∀ i j, Decidable (C i j)] (g : Int → Int → Int) : D → D → Option D
  | .int i, .int j => if C i j then some (.int (g i j)) else none
  | _, _ => none
def iF0 (g : Int → Int → Int) : D → D → Option D
  | .int i, .int j => some (.int (g i j))
  | _, _ => none
@[simp] theorem iF0_int (g : Int → Int → Int) (i j : Int) : iF0 g (.int i) (.int j) = some (.int (g i j)) := rfl
@[simp] theorem iF_int (C : Int → Int → Prop) [∀ i j, Decidable (C i j)] (g : Int → Int → Int) (i j : Int) : iF C g (.int i) (.int j) = if C i j then some (.int (g i j)) else none := rfl
theorem bin_I0 {K : PySem.W.Frag} {g : Int → Int → Int} : BinOK K (rI0 fun i j => .int (g i j)) (iF0 g) := by
  intro Z H x y dx dy d Q zh hx hy e k
  cases hx <;> cases hy <;> first | (cases e; done) | skip
  cases e
  exact ⟨_, _, rfl, rfl, k _ Z H (Step.refl zh) (.int _)⟩
theorem bin_I {K : PySem.W.Frag} {C C' : Int → Int → Prop} [∀ i j, Decidable (C i j)] {g : Int → Int → Int} (hc : ∀ i j, C i j → C' i j) : BinOK K (rI C' fun i j => .int (g i j)) (iF C g) := by
  intro Z H x y dx dy d Q zh hx hy e k
  cases hx <;> cases hy <;> first | (cases e; done) | skip
  rename_i i j
  rw [iF_int] at e
  by_cases c : C i j
  · rw [if_pos c] at e
    cases e
    exact ⟨_, _, rfl, rfl, hc _ _ c, k _ Z H (Step.refl zh) (.int _)⟩
  · rw [if_neg c] at e; cases e
theorem BinOK.or1 {K : PySem.W.Frag} {r r' : R2} {f : D → D → Option D} (h : BinOK K r f) : BinOK K (fun x y H Q => r x y H Q ∨ r' x y H Q) f := fun zh hx hy e k => .inl (h zh hx hy e k)
/-- two rules: the second where the first has no word -/
theorem BinOK.or {K : PySem.W.Frag} {r r' : R2} {f g : D → D → Option D} (h : BinOK K r f) (h' : BinOK K r' g) : BinOK K (fun x y H Q => r x y H Q ∨ r' x y H Q) (fun a b => (f a b).or (g a b)) := by
  intro Z H x y dx dy d Q zh hx hy e k
  change (f dx dy).or (g dx dy) = some d at e
  cases q : f dx dy with
  | some c =>
    rw [q] at e
    cases e
    exact .inl (h zh hx hy q k)
  | none =>
    rw [q] at e
    exact .inr (h' zh hx hy e k)
/-- texts joined -/
def strAdd : D → D → Option D
  | .str i, .str j => if i.length + j.length ≤ 16777216 then some (.str (i ++ j)) else none
  | _, _ => none
theorem bin_strAdd {K : PySem.W.Frag} : BinOK K (fun x y H Q => ∃ i j, x = .str i ∧ y = .str j ∧ i.length + j.length ≤ sizeLine ∧ Q (.str (i ++ j)) H) strAdd := by
  intro Z H x y dx dy d Q zh hx hy e k
  cases hx <;> cases hy <;> first | (cases e; done) | skip
  rename_i i j
  change (if i.length + j.length ≤ 16777216 then some (PyData.str (i ++ j)) else none) = some d at e
  by_cases c : i.length + j.length ≤ 16777216
  · rw [if_pos c] at e
    cases e
    exact ⟨i, j, rfl, rfl, by rw [sizeLine_eq]; exact c, k _ Z H (Step.refl zh) (.str _)⟩
  · rw [if_neg c] at e; cases e
def tupAdd : D → D → Option D
  | .tuple a, .tuple b => if a.length + b.length ≤ 16777216 then some (.tuple (a ++ b)) else none
  | _, _ => none
theorem nil_of_len {α : Type} {l : List α} (h : l.length = 0) : l = [] := by cases l with | nil => rfl | cons _ _ => simp at h
theorem bin_tupAdd {K : PySem.W.Frag} : BinOK K (rCatA K) tupAdd := by
  intro Z H x y dx dy d Q zh hx hy e k
  cases hx <;> cases hy <;> first | (cases e; done) | skip
  rename_i a xs ds hxs hds b ys es hys hes
  change (if ds.length + es.length ≤ 16777216 then some (PyData.tuple (ds ++ es)) else none) = some d at e
  by_cases c : ds.length + es.length ≤ 16777216
  · rw [if_pos c] at e
    cases e
    have l1 := DpAll_length hds
    have l2 := DpAll_length hes
    refine ⟨a, b, xs, ys, rfl, rfl, sqT_mono zh hxs, sqT_mono zh hys, by rw [sizeLine_eq]; omega, fun h0 => ?_, fun _ h0 => ?_, fun _ _ p hp => ?_⟩
    · subst h0
      have : ds = [] := nil_of_len (by simpa using l1.symm)
      subst this
      exact k _ Z H (Step.refl zh) (.tup hys hes)
    · subst h0
      have : es = [] := nil_of_len (by simpa using l2.symm)
      subst this
      rw [List.append_nil] at k
      exact k _ Z H (Step.refl zh) (.tup hxs hds)
    · obtain ⟨s, q⟩ := Dp_newT zh hp (DpAll_append hds hes)
      exact k _ _ _ s q
  · rw [if_neg c] at e; cases e
def addD (a b : D) : Option D := (iF0 (· + ·) a b).or ((strAdd a b).or (tupAdd a b))
@[simp] theorem addD_int (i j : Int) : addD (.int i) (.int j) = some (.int (i + j)) := rfl
theorem addD_str {i j : Str} (h : i.length + j.length ≤ 16777216) : addD (.str i) (.str j) = some (.str (i ++ j)) := by
  show (none : Option D).or ((strAdd (.str i) (.str j)).or (tupAdd (.str i) (.str j))) = _
  have : strAdd (.str i) (.str j) = some (.str (i ++ j)) := if_pos h
  rw [this]
  rfl
theorem addD_tup {a b : List D} (h : a.length + b.length ≤ 16777216) : addD (.tuple a) (.tuple b) = some (.tuple (a ++ b)) := if_pos h
theorem pd_add {a b : Expr} {fa fb : SEnv → Option Sl} {pos : Pos} (ha : PD X a fa) (hb : PD X b fb) : PD X (.BinOp a .Add b pos) (eBin addD fa fb) :=
  pd_bin (op_add.or (op_add_str.or op_catA)) (bin_I0.or (bin_strAdd.or bin_tupAdd)) ha hb
abbrev subD := iF0 (· - ·)
theorem pd_sub {a b : Expr} {fa fb : SEnv → Option Sl} {pos : Pos} (ha : PD X a fa) (hb : PD X b fb) : PD X (.BinOp a .Sub b pos) (eBin subD fa fb) := pd_bin op_sub bin_I0 ha hb
def MulOk (i j : Int) : Prop := (-(2 ^ 64) < i ∧ i < 2 ^ 64) ∨ (-(2 ^ 64) < j ∧ j < 2 ^ 64) ∨ i.natAbs.log2 + j.natAbs.log2 < 1000000
instance (i j : Int) : Decidable (MulOk i j) := by unfold MulOk; infer_instance
def mulD := iF MulOk (· * ·)
theorem mulD_l {i j : Int} (h1 : -18446744073709551616 < i) (h2 : i < 18446744073709551616) : mulD (.int i) (.int j) = some (.int (i * j)) := if_pos (.inl ⟨h1, h2⟩)
theorem mulD_r {i j : Int} (h1 : -18446744073709551616 < j) (h2 : j < 18446744073709551616) : mulD (.int i) (.int j) = some (.int (i * j)) := if_pos (.inr (.inl ⟨h1, h2⟩))
theorem mulD_w {i j : Int} {a b : Nat} (ha : i.natAbs < 2 ^ a) (hb : j.natAbs < 2 ^ b) (h0 : 0 < a) (h1 : 0 < b) (h : a + b ≤ 1000000) : mulD (.int i) (.int j) = some (.int (i * j)) := if_pos (.inr (.inr (wide_mul ha hb h0 h1 h)))
theorem op_mulA : OpR X (binaryOp .Mult) (rI (fun i j => IntMulOk i j) fun i j => .int (i * j)) := opI fun _ _ _ _ _ _ _ hc q => mul_int q hc
theorem pd_mul {a b : Expr} {fa fb : SEnv → Option Sl} {pos : Pos} (ha : PD X a fa) (hb : PD X b fb) : PD X (.BinOp a .Mult b pos) (eBin mulD fa fb) :=
  pd_bin op_mulA (bin_I fun i j h => by
    rcases h with h | h | h
    · exact CMul.ok (.inl h)
    · exact CMul.ok (.inr h)
    · exact CMulW.ok h) ha hb
def modD := iF (fun _ j => 0 < j) (· % ·)
theorem modD_p {i j : Int} (h : 0 < j) : modD (.int i) (.int j) = some (.int (i % j)) := if_pos h
theorem pd_mod {a b : Expr} {fa fb : SEnv → Option Sl} {pos : Pos} (ha : PD X a fa) (hb : PD X b fb) : PD X (.BinOp a .Mod b pos) (eBin modD fa fb) := pd_bin op_mod (bin_I fun _ _ h => h) ha hb
instance (i j : Int) : Decidable (CDivW i j) := by unfold CDivW; infer_instance
def divD := iF CDivW (· / ·)
theorem divD_p {i j : Int} (h : 0 < j) (h2 : j < 18446744073709551616) : divD (.int i) (.int j) = some (.int (i / j)) := if_pos (wide_div (b := 64) h (by omega) (by decide) (by decide))
theorem divD_w {i j : Int} {b : Nat} (h : 0 < j) (hb : j.natAbs < 2 ^ b) (h0 : 0 < b) (h9 : b ≤ 9000) : divD (.int i) (.int j) = some (.int (i / j)) := if_pos (wide_div h hb h0 h9)
theorem pd_fdiv {a b : Expr} {fa fb : SEnv → Option Sl} {pos : Pos} (ha : PD X a fa) (hb : PD X b fb) : PD X (.BinOp a .FloorDiv b pos) (eBin divD fa fb) := pd_bin op_fdivW (bin_I fun _ _ h => h) ha hb
instance (i j : Int) : Decidable (CPow i j) := by unfold CPow; infer_instance
def powD := iF CPow (fun i j => i ^ j.toNat)
theorem powD_p {i j : Int} (h : 0 ≤ j) (h2 : j ≤ 1000000) (h3 : i.natAbs < 18446744073709551616) : powD (.int i) (.int j) = some (.int (i ^ j.toNat)) := if_pos ⟨h, h2, h3⟩
theorem pd_pow {a b : Expr} {fa fb : SEnv → Option Sl} {pos : Pos} (ha : PD X a fa) (hb : PD X b fb) : PD X (.BinOp a .Pow b pos) (eBin powD fa fb) := pd_bin op_pow (bin_I fun _ _ h => h) ha hb
def shlD := iF CPow (fun i j => i * 2 ^ j.toNat)
theorem shlD_p {i j : Int} (h : 0 ≤ j) (h2 : j ≤ 1000000) (h3 : i.natAbs < 18446744073709551616) : shlD (.int i) (.int j) = some (.int (i * 2 ^ j.toNat)) := if_pos ⟨h, h2, h3⟩
theorem pd_shl {a b : Expr} {fa fb : SEnv → Option Sl} {pos : Pos} (ha : PD X a fa) (hb : PD X b fb) : PD X (.BinOp a .LShift b pos) (eBin shlD fa fb) := pd_bin op_shl (bin_I fun _ _ h => h) ha hb
def shrD := iF (fun _ j => 0 ≤ j) (fun i j => i / 2 ^ j.toNat)
theorem shrD_p {i j : Int} (h : 0 ≤ j) : shrD (.int i) (.int j) = some (.int (i / 2 ^ j.toNat)) := if_pos h
theorem pd_shr {a b : Expr} {fa fb : SEnv → Option Sl} {pos : Pos} (ha : PD X a fa) (hb : PD X b fb) : PD X (.BinOp a .RShift b pos) (eBin shrD fa fb) := pd_bin op_shr (bin_I fun _ _ h => h) ha hb
abbrev andD := iF0 Builtin.bitAnd
abbrev orD := iF0 Builtin.bitOr
theorem pd_band {a b : Expr} {fa fb : SEnv → Option Sl} {pos : Pos} (ha : PD X a fa) (hb : PD X b fb) : PD X (.BinOp a .BitAnd b pos) (eBin andD fa fb) := pd_bin op_and bin_I0 ha hb
theorem pd_bor {a b : Expr} {fa fb : SEnv → Option Sl} {pos : Pos} (ha : PD X a fa) (hb : PD X b fb) : PD X (.BinOp a .BitOr b pos) (eBin orD fa fb) := pd_bin op_or bin_I0 ha hb
/-! ### one-place -/
def sl1 (f : D → Option D) : Option Sl → Option Sl
  | some (.pl x) => (f x).map .pl
  | _ => none
@[simp] theorem sl1_pl (f : D → Option D) (x : D) : sl1 f (some (.pl x)) = (f x).map .pl := rfl
theorem sl1_inv {f : D → Option D} {a : Option Sl} {s : Sl} (h : sl1 f a = some s) : ∃ x d, a = some (.pl x) ∧ f x = some d ∧ s = .pl d := by
  unfold sl1 at h
  split at h
  · rename_i x
    cases e : f x with
    | none => rw [e] at h; cases h
    | some d => rw [e] at h; cases h; exact ⟨x, d, rfl, e, rfl⟩
  · cases h
def eUn (f : D → Option D) (a : SEnv → Option Sl) : SEnv → Option Sl := fun ρ => sl1 f (a ρ)
def uF (g : Int → Int) : D → Option D
  | .int i => some (.int (g i))
  | _ => none
@[simp] theorem uF_int (g : Int → Int) (i : Int) : uF g (.int i) = some (.int (g i)) := rfl
theorem pd_unI {op : UnaryOp} {g : Int → Int} {a : Expr} {fa : SEnv → Option Sl} {pos : Pos} (ho : UnR X (unaryOp op) (rU fun i => .int (g i))) (ha : PD X a fa) : PD X (.UnaryOp op a pos) (eUn (uF g) fa) :=
  PE_imp (pe_un ho ha) fun σ H Q ⟨B, Z0, Z, ρ, s, x, e, k⟩ => by
    obtain ⟨dx, d, ea, ef, rfl⟩ := sl1_inv e
    refine er1 x ea fun v Z' H' k' r1 => ?_
    have h := r1.data
    cases h <;> first | (cases ef; done) | skip
    cases ef
    exact ⟨_, rfl, k _ Z' H' k' (vlR.pl (.int _))⟩
theorem pd_neg {a : Expr} {fa : SEnv → Option Sl} {pos : Pos} (ha : PD X a fa) : PD X (.UnaryOp .USub a pos) (eUn (uF fun i => -i) fa) := pd_unI un_neg ha
theorem pd_inv {a : Expr} {fa : SEnv → Option Sl} {pos : Pos} (ha : PD X a fa) : PD X (.UnaryOp .Invert a pos) (eUn (uF Builtin.bitNot) fa) := pd_unI un_inv ha

/-! ### comparisons -/
def vw2 (f : D → D → Option Bool) : Option Sl → Option Sl → Option Bool
  | some a, some b => match view a, view b with
    | some x, some y => f x y
    | _, _ => none
  | _, _ => none
theorem vw2_inv {f : D → D → Option Bool} {a b : Option Sl} {r : Bool} (h : vw2 f a b = some r) : ∃ s t x y, a = some s ∧ b = some t ∧ view s = some x ∧ view t = some y ∧ f x y = some r := by
  unfold vw2 at h
  split at h
  · split at h
    · rename_i h1 h2
      exact ⟨_, _, _, _, rfl, rfl, h1, h2, h⟩
    · cases h
  · cases h
@[simp] theorem vw2_pl (f : D → D → Option Bool) (x y : D) : vw2 f (some (.pl x)) (some (.pl y)) = f x y := rfl
@[simp] theorem vw2_pb (f : D → D → Option Bool) (x : D) (y : List D) : vw2 f (some (.pl x)) (some (.brw y)) = f x (.list y) := rfl
@[simp] theorem vw2_bp (f : D → D → Option Bool) (x : List D) (y : D) : vw2 f (some (.brw x)) (some (.pl y)) = f (.list x) y := rfl
@[simp] theorem vw2_bb (f : D → D → Option Bool) (x y : List D) : vw2 f (some (.brw x)) (some (.brw y)) = f (.list x) (.list y) := rfl
@[simp] theorem vw2_bo (f : D → D → Option Bool) (x y : List D) : vw2 f (some (.brw x)) (some (.own y)) = f (.list x) (.list y) := rfl
@[simp] theorem vw2_ob (f : D → D → Option Bool) (x y : List D) : vw2 f (some (.own x)) (some (.brw y)) = f (.list x) (.list y) := rfl
@[simp] theorem vw2_oo (f : D → D → Option Bool) (x y : List D) : vw2 f (some (.own x)) (some (.own y)) = f (.list x) (.list y) := rfl
@[simp] theorem vw2_po (f : D → D → Option Bool) (x : D) (y : List D) : vw2 f (some (.pl x)) (some (.own y)) = f x (.list y) := rfl
@[simp] theorem vw2_op (f : D → D → Option Bool) (x : List D) (y : D) : vw2 f (some (.own x)) (some (.pl y)) = f (.list x) y := rfl
def tCmp2 (f : D → D → Option Bool) (a b : SEnv → Option Sl) : SEnv → Option Bool := fun ρ => vw2 f (a ρ) (b ρ)
/-- a test's answer as a value -/
def eB (t : SEnv → Option Bool) : SEnv → Option Sl := fun ρ => (t ρ).map fun b => .pl (.bool b)
def CmpOK (K : PySem.W.Frag) (r : R2) (f : D → D → Option Bool) : Prop := ∀ {H : Hp} {x y : V} {dx dy : D} {b : Bool} {Q : VK}, Dp K H x dx → Dp K H y dy → f dx dy = some b → Q (.bl b) H → r x y H Q
theorem cmp_core {r : R2} {f : D → D → Option Bool} {fa fb : SEnv → Option Sl} (hf : CmpOK X.K r f) {σ : L2.St} {H : Hp} {Q : VK} {B Z0 Z : Hp} {ρ : SEnv} {b : Bool} (x : St X.K B Z0 Z H σ ρ) (e : tCmp2 f fa fb ρ = some b)
    (k : ∀ Z' H', Step Z H Z' H' → Q (.bl b) H') : tOp r (ER X.K fa) (ER X.K fb) σ H Q := by
  obtain ⟨s, t, dx, dy, ea, eb, va, vb, ef⟩ := vw2_inv e
  refine er2 x ea eb fun v w Z' H' k' r1 r2 => ?_
  exact hf (view_ok r1 k'.zh va) (view_ok r2 k'.zh vb) ef (k Z' H' k')
theorem pd_cmp {op : CmpOp} {r : R2} {f : D → D → Option Bool} {a b : Expr} {fa fb : SEnv → Option Sl} {pos : Pos} (ho : OpR X (compareOp op) r) (hf : CmpOK X.K r f) (ha : PD X a fa) (hb : PD X b fb) (hm : behindInMarks op b = false) : PD X (.Compare a [op] [b] pos) (eB (tCmp2 f fa fb)) :=
  PE_imp (pe_cmpR ho ha hb hm) fun σ H Q ⟨B, Z0, Z, ρ, s, x, e, k⟩ => by
    unfold eB at e
    cases q : tCmp2 f fa fb ρ with
    | none => rw [q] at e; cases e
    | some c =>
      rw [q] at e
      cases e
      exact cmp_core hf x q fun Z' H' k' => k _ Z' H' k' (vlR.pl (.bl c))
theorem td_cmp {op : CmpOp} {r : R2} {f : D → D → Option Bool} {a b : Expr} {fa fb : SEnv → Option Sl} {pos : Pos} (ho : OpR X (compareOp op) r) (hf : CmpOK X.K r f) (ha : PD X a fa) (hb : PD X b fb) (hm : behindInMarks op b = false) : TD X (.Compare a [op] [b] pos) (tCmp2 f fa fb) :=
  PT_imp (pt_cmpR ho ha hb hm) fun σ H Q ⟨B, Z0, Z, ρ, c, x, e, k⟩ => cmp_core (Q := fun x H' => ∃ k, x = .bl k ∧ Q k H') hf x e fun Z' H' k' => ⟨c, rfl, k Z' H' k'⟩
def cF (p : Int → Int → Bool) : D → D → Option Bool
  | .int i, .int j => some (p i j)
  | _, _ => none
@[simp] theorem cF_int (p : Int → Int → Bool) (i j : Int) : cF p (.int i) (.int j) = some (p i j) := rfl
theorem cmp_I {K : PySem.W.Frag} {p : Int → Int → Bool} : CmpOK K (rI0 fun i j => .bl (p i j)) (cF p) := by
  intro H x y dx dy b Q hx hy e k
  cases hx <;> cases hy <;> first | (cases e; done) | skip
  cases e
  exact ⟨_, _, rfl, rfl, k⟩
abbrev ltD := cF fun i j => decide (i < j)
abbrev leD := cF fun i j => decide (i ≤ j)
abbrev gtD := cF fun i j => decide (j < i)
abbrev geD := cF fun i j => decide (j ≤ i)
theorem ok_lt {K : PySem.W.Frag} : CmpOK K (rI0 fun i j => .bl (decide (i < j))) ltD := cmp_I
theorem ok_le {K : PySem.W.Frag} : CmpOK K (rI0 fun i j => .bl (decide (i ≤ j))) leD := cmp_I
theorem ok_gt {K : PySem.W.Frag} : CmpOK K (rI0 fun i j => .bl (decide (j < i))) gtD := cmp_I
theorem ok_ge {K : PySem.W.Frag} : CmpOK K (rI0 fun i j => .bl (decide (j ≤ i))) geD := cmp_I
def eqS : D → D → Option Bool
  | .str x, .str y => some (x == y)
  | _, _ => none
def eqG (d e : D) : Option Bool := if SeqAt.shaped d = true ∧ SeqAt.shaped e = true then some (PyData.eqv d e) else none
def eqD (d e : D) : Option Bool := (eqS d e).or (eqG d e)
def neD (d e : D) : Option Bool := (eqD d e).map (!·)
theorem ok_eq {K : PySem.W.Frag} : CmpOK K (fun x y H Q => rEq x y H Q ∨ rEqD K x y H Q) eqD := by
  intro H x y dx dy b Q hx hy e k
  unfold eqD at e
  cases q : eqS dx dy with
  | some c =>
    rw [q] at e
    cases e
    cases hx <;> first | (cases q; done) | skip
    cases hy <;> first | (cases q; done) | skip
    cases q
    exact .inl ⟨rfl, by rw [dec_str]; exact k⟩
  | none =>
    rw [q] at e
    change eqG dx dy = some b at e
    unfold eqG at e
    by_cases c : SeqAt.shaped dx = true ∧ SeqAt.shaped dy = true
    · rw [if_pos c] at e
      cases e
      exact .inr ⟨dx, dy, hx, hy, c.1, c.2, k⟩
    · rw [if_neg c] at e; cases e
theorem ok_ne {K : PySem.W.Frag} : CmpOK K (fun x y H Q => rNe x y H Q ∨ rNeD K x y H Q) neD := by
  intro H x y dx dy b Q hx hy e k
  unfold neD eqD at e
  cases q : eqS dx dy with
  | some c =>
    rw [q] at e
    cases e
    cases hx <;> first | (cases q; done) | skip
    cases hy <;> first | (cases q; done) | skip
    cases q
    exact .inl ⟨rfl, by rw [dec_str]; exact k⟩
  | none =>
    rw [q] at e
    change (eqG dx dy).map (!·) = some b at e
    unfold eqG at e
    by_cases c : SeqAt.shaped dx = true ∧ SeqAt.shaped dy = true
    · rw [if_pos c] at e
      cases e
      exact .inr ⟨dx, dy, hx, hy, c.1, c.2, k⟩
    · rw [if_neg c] at e; cases e
theorem op_eqA (hu : X.A.units + 64 < cLine) : OpR X (compareOp .Eq) (fun x y H Q => rEq x y H Q ∨ rEqD X.K x y H Q) := op_eq.or (op_eqD hu)
theorem op_neA (hu : X.A.units + 64 < cLine) : OpR X (compareOp .NotEq) (fun x y H Q => rNe x y H Q ∨ rNeD X.K x y H Q) := op_ne.or (op_neD hu)
theorem eqD_g {d e : D} (h0 : eqS d e = none) (h1 : SeqAt.shaped d = true) (h2 : SeqAt.shaped e = true) : eqD d e = some (PyData.eqv d e) := by
  unfold eqD eqG
  rw [h0, if_pos ⟨h1, h2⟩]
  rfl
@[simp] theorem eqD_int (i j : Int) : eqD (.int i) (.int j) = some (i == j) := rfl
@[simp] theorem neD_int (i j : Int) : neD (.int i) (.int j) = some (!(i == j)) := rfl
@[simp] theorem eqD_str (i j : Str) : eqD (.str i) (.str j) = some (i == j) := rfl
@[simp] theorem neD_str (i j : Str) : neD (.str i) (.str j) = some (!(i == j)) := rfl
/-- is None -/
def isNoneD : D → Bool
  | .none => true
  | _ => false
@[simp] theorem isNoneD_none : isNoneD .none = true := rfl
@[simp] theorem isNoneD_int (i : Int) : isNoneD (.int i) = false := rfl
@[simp] theorem isNoneD_bool (i : Bool) : isNoneD (.bool i) = false := rfl
@[simp] theorem isNoneD_str (i : Str) : isNoneD (.str i) = false := rfl
@[simp] theorem isNoneD_list (i : List D) : isNoneD (.list i) = false := rfl
@[simp] theorem isNoneD_tuple (i : List D) : isNoneD (.tuple i) = false := rfl
theorem isNone_dec {K : PySem.W.Frag} {H : Hp} {x : V} {d : D} (h : Dp K H x d) : decide (x = .non) = isNoneD d := by
  cases h <;> first | rfl | (apply decide_eq_false; intro z; cases z)
def isnF (d : D) (e : D) : Option Bool := match e with
  | .none => some (isNoneD d)
  | _ => none
def notnF (d : D) (e : D) : Option Bool := match e with
  | .none => some (!isNoneD d)
  | _ => none
@[simp] theorem isnF_none (d : D) : isnF d .none = some (isNoneD d) := rfl
@[simp] theorem notnF_none (d : D) : notnF d .none = some (!isNoneD d) := rfl
theorem ok_isN {K : PySem.W.Frag} : CmpOK K (fun x y H Q => y = .non ∧ Q (.bl (decide (x = .non))) H) isnF := by
  intro H x y dx dy b Q hx hy e k
  cases hy <;> first | (cases e; done) | skip
  cases e
  exact ⟨rfl, by rw [isNone_dec hx]; exact k⟩
theorem ok_notN {K : PySem.W.Frag} : CmpOK K (fun x y H Q => y = .non ∧ Q (.bl (!decide (x = .non))) H) notnF := by
  intro H x y dx dy b Q hx hy e k
  cases hy <;> first | (cases e; done) | skip
  cases e
  exact ⟨rfl, by rw [isNone_dec hx]; exact k⟩

/-! ### tests -/
def tAnd2 (t u : SEnv → Option Bool) : SEnv → Option Bool := fun ρ => match t ρ with
  | some true => u ρ
  | some false => some false
  | none => none
def tOr2 (t u : SEnv → Option Bool) : SEnv → Option Bool := fun ρ => match t ρ with
  | some true => some true
  | some false => u ρ
  | none => none
def tNot1 (t : SEnv → Option Bool) : SEnv → Option Bool := fun ρ => (t ρ).map (!·)
theorem wd_and1 {a : Expr} {t : SEnv → Option Bool} {pos : Pos} (ha : TD X a t) : WD X (.BoolOp .And [a] pos) t := pw_and1 ha
theorem wd_or1 {a : Expr} {t : SEnv → Option Bool} {pos : Pos} (ha : TD X a t) : WD X (.BoolOp .Or [a] pos) t := pw_or1 ha
theorem wd_and {a b : Expr} {rest : List Expr} {t u : SEnv → Option Bool} {pos : Pos} (ha : TD X a t) (hb : WD X (.BoolOp .And (b :: rest) pos) u) : WD X (.BoolOp .And (a :: b :: rest) pos) (tAnd2 t u) :=
  PW_imp (pw_and ha hb) fun σ H Q ⟨B, Z0, Z, ρ, c, x, e, k⟩ => by
    unfold tAnd2 at e
    cases q : t ρ with
    | none => rw [q] at e; cases e
    | some b =>
      rw [q] at e
      refine tr1 x q fun Z' H' k' => ?_
      cases b with
      | true => exact iteT (tr1 (x.step k') e fun Z2 H2 k2 => k Z2 H2 (k'.trans k2))
      | false => cases e; exact iteF (k Z' H' k')
theorem wd_or {a b : Expr} {rest : List Expr} {t u : SEnv → Option Bool} {pos : Pos} (ha : TD X a t) (hb : WD X (.BoolOp .Or (b :: rest) pos) u) : WD X (.BoolOp .Or (a :: b :: rest) pos) (tOr2 t u) :=
  PW_imp (pw_or ha hb) fun σ H Q ⟨B, Z0, Z, ρ, c, x, e, k⟩ => by
    unfold tOr2 at e
    cases q : t ρ with
    | none => rw [q] at e; cases e
    | some b =>
      rw [q] at e
      refine tr1 x q fun Z' H' k' => ?_
      cases b with
      | false => exact iteF (tr1 (x.step k') e fun Z2 H2 k2 => k Z2 H2 (k'.trans k2))
      | true => cases e; exact iteT (k Z' H' k')
theorem td_w {e : Expr} {t : SEnv → Option Bool} (h : WD X e t) : TD X e t := h.pt
theorem td_not {a : Expr} {t : SEnv → Option Bool} {pos : Pos} (ha : TD X a t) : TD X (.UnaryOp .Not a pos) (tNot1 t) :=
  PT_imp (pt_not ha) fun σ H Q ⟨B, Z0, Z, ρ, c, x, e, k⟩ => by
    unfold tNot1 at e
    cases q : t ρ with
    | none => rw [q] at e; cases e
    | some b => rw [q] at e; cases e; exact tr1 x q k
/-- a value's truth -/
def truD : Sl → Option Bool
  | .pl .none => some false
  | .pl (.bool b) => some b
  | .pl (.int i) => some (i != 0)
  | .pl (.str y) => if y.length ≤ 16777216 then some ((y.length : Int) != 0) else none
  | .pl (.list ds) => some (!ds.isEmpty)
  | .pl (.tuple ds) => some (!ds.isEmpty)
  | .own ds => some (!ds.isEmpty)
  | .brw ds => some (!ds.isEmpty)
  | _ => none
@[simp] theorem truD_bool (b : Bool) : truD (.pl (.bool b)) = some b := rfl
@[simp] theorem truD_none : truD (.pl .none) = some false := rfl
@[simp] theorem truD_int (i : Int) : truD (.pl (.int i)) = some (i != 0) := rfl
@[simp] theorem truD_list (i : List D) : truD (.pl (.list i)) = some (!i.isEmpty) := rfl
@[simp] theorem truD_tuple (i : List D) : truD (.pl (.tuple i)) = some (!i.isEmpty) := rfl
@[simp] theorem truD_own (i : List D) : truD (.own i) = some (!i.isEmpty) := rfl
@[simp] theorem truD_brw (i : List D) : truD (.brw i) = some (!i.isEmpty) := rfl
theorem empty_iff {K : PySem.W.Frag} {Z : Hp} {vs : List V} {ds : List D} (h : DpAll K Z vs ds) : (!ds.isEmpty) = !vs.isEmpty := by cases h <;> rfl
theorem truD_ok {K : PySem.W.Frag} {H0 Z H : Hp} {v : V} {s : Sl} {b : Bool} (h : vlR K H0 Z H v s) (zh : Same Z H) (e : truD s = some b) : TruV K v H b := by
  obtain ⟨fp, h1, h2⟩ := h
  cases s with
  | pl c =>
    obtain ⟨_, x, hx, hd⟩ := h1
    cases hx
    cases hd with
    | non => cases e; exact rfl
    | bl k => cases e; exact rfl
    | int i => cases e; exact rfl
    | str y =>
      change (if y.length ≤ 16777216 then some ((y.length : Int) != 0) else none) = some b at e
      by_cases c : y.length ≤ 16777216
      · rw [if_pos c] at e; cases e; exact ⟨by rw [sizeLine_eq]; exact c, rfl⟩
      · rw [if_neg c] at e; cases e
    | lst q r => cases e; exact .inl ⟨_, zh.seq q, empty_iff r⟩
    | tup q r => cases e; exact .inr (.inl ⟨_, sqT_mono zh q, empty_iff r⟩)
  | own ds => cases e; obtain ⟨p, vs, _, hx, hp, hd⟩ := h1; cases hx; exact .inl ⟨_, .inl (.inl hp), empty_iff hd⟩
  | brw ds => cases e; obtain ⟨_, p, vs, hx, hp, hd⟩ := h1; cases hx; exact .inl ⟨_, .inl (.inl hp), empty_iff hd⟩
  | _ => cases e
def tTru (a : SEnv → Option Sl) : SEnv → Option Bool := fun ρ => match a ρ with
  | some s => truD s
  | none => none
theorem td_val {a : Expr} {fa : SEnv → Option Sl} (ha : PD X a fa) (he : ∀ whole, isTrue a X.env whole = (do let v ← whole; standAt a.pos; holding [v] (truthy v)) := by intro _; rfl) : TD X a (tTru fa) :=
  PT_imp (pt_truth ha he) fun σ H Q ⟨B, Z0, Z, ρ, c, x, e, k⟩ => by
    unfold tTru at e
    cases q : fa ρ with
    | none => rw [q] at e; cases e
    | some s =>
      rw [q] at e
      exact er1 x q fun v Z' H' k' r => ⟨c, truD_ok r k'.zh e, k Z' H' k'⟩
/-! ### and, or, not as values; a if t else b -/
theorem pd_one {op} {a : Expr} {fa : SEnv → Option Sl} {pos : Pos} (ha : PD X a fa) : PD X (.BoolOp op [a] pos) fa := pe_one ha
def eAnd (a b : SEnv → Option Sl) : SEnv → Option Sl := fun ρ => match a ρ with
  | some (.pl (.bool true)) => b ρ
  | some (.pl (.bool false)) => some (.pl (.bool false))
  | _ => none
def eOr (a b : SEnv → Option Sl) : SEnv → Option Sl := fun ρ => match a ρ with
  | some (.pl (.bool true)) => some (.pl (.bool true))
  | some (.pl (.bool false)) => b ρ
  | _ => none
theorem pd_and {a b : Expr} {rest : List Expr} {fa fb : SEnv → Option Sl} {pos : Pos} (ha : PD X a fa) (hb : PD X (.BoolOp .And (b :: rest) pos) fb) : PD X (.BoolOp .And (a :: b :: rest) pos) (eAnd fa fb) :=
  PE_imp (pe_and ha hb) fun σ H Q ⟨B, Z0, Z, ρ, s, x, e, k⟩ => by
    unfold eAnd at e
    split at e
    · rename_i q
      refine er1 x q fun v Z' H' k' r => ?_
      have h := r.data
      cases h
      exact ⟨true, rfl, iteT (er1 (x.step k') e fun w Z2 H2 k2 r2 => k w Z2 H2 (k'.trans k2) (r2.back k'.bh))⟩
    · rename_i q
      cases e
      refine er1 x q fun v Z' H' k' r => ?_
      have h := r.data
      cases h
      exact ⟨false, rfl, iteF (k _ Z' H' k' (vlR.pl (.bl false)))⟩
    · cases e
theorem pd_or {a b : Expr} {rest : List Expr} {fa fb : SEnv → Option Sl} {pos : Pos} (ha : PD X a fa) (hb : PD X (.BoolOp .Or (b :: rest) pos) fb) : PD X (.BoolOp .Or (a :: b :: rest) pos) (eOr fa fb) :=
  PE_imp (pe_or ha hb) fun σ H Q ⟨B, Z0, Z, ρ, s, x, e, k⟩ => by
    unfold eOr at e
    split at e
    · rename_i q
      cases e
      refine er1 x q fun v Z' H' k' r => ?_
      have h := r.data
      cases h
      exact ⟨true, rfl, iteT (k _ Z' H' k' (vlR.pl (.bl true)))⟩
    · rename_i q
      refine er1 x q fun v Z' H' k' r => ?_
      have h := r.data
      cases h
      exact ⟨false, rfl, iteF (er1 (x.step k') e fun w Z2 H2 k2 r2 => k w Z2 H2 (k'.trans k2) (r2.back k'.bh))⟩
    · cases e
def notD : D → Option D
  | .bool b => some (.bool !b)
  | _ => none
@[simp] theorem notD_bool (b : Bool) : notD (.bool b) = some (.bool !b) := rfl
theorem pd_not {a : Expr} {fa : SEnv → Option Sl} {pos : Pos} (ha : PD X a fa) : PD X (.UnaryOp .Not a pos) (eUn notD fa) :=
  PE_imp (pe_not ha) fun σ H Q ⟨B, Z0, Z, ρ, s, x, e, k⟩ => by
    obtain ⟨dx, d, ea, ef, rfl⟩ := sl1_inv e
    refine er1 x ea fun v Z' H' k' r1 => ?_
    have h := r1.data
    cases h <;> first | (cases ef; done) | skip
    cases ef
    exact ⟨_, rfl, k _ Z' H' k' (vlR.pl (.bl _))⟩
def eIf (t : SEnv → Option Bool) (a b : SEnv → Option Sl) : SEnv → Option Sl := fun ρ => match t ρ with
  | some true => a ρ
  | some false => b ρ
  | none => none
theorem pd_if {c a b : Expr} {t : SEnv → Option Bool} {fa fb : SEnv → Option Sl} {pos : Pos} (hc : TD X c t) (ha : PD X a fa) (hb : PD X b fb) : PD X (.IfExp c a b pos) (eIf t fa fb) :=
  PE_imp (pe_ifExp hc ha hb) fun σ H Q ⟨B, Z0, Z, ρ, s, x, e, k⟩ => by
    unfold eIf at e
    split at e
    · rename_i q
      exact tr1 x q fun Z' H' k' => iteT (er1 (x.step k') e fun w Z2 H2 k2 r2 => k w Z2 H2 (k'.trans k2) (r2.back k'.bh))
    · rename_i q
      exact tr1 x q fun Z' H' k' => iteF (er1 (x.step k') e fun w Z2 H2 k2 r2 => k w Z2 H2 (k'.trans k2) (r2.back k'.bh))
    · cases e

/-! ### displays -/
def dNil : SEnv → Option (List D) := fun _ => some []
def dCons (a : SEnv → Option Sl) (r : SEnv → Option (List D)) : SEnv → Option (List D) := fun ρ => match a ρ with
  | some s => match toD s, r ρ with
    | some d, some ds => some (d :: ds)
    | _, _ => none
  | none => none
theorem dd_nil : DD X [] dNil := PA_imp pa_nil fun σ H Q ⟨B, Z0, Z, ρ, ds, x, e, k⟩ => by
  cases e
  exact k [] Z H (Step.refl x.zh) .nil
theorem dd_cons {a : Expr} {es : List Expr} {fa : SEnv → Option Sl} {fr : SEnv → Option (List D)} (ha : PD X a fa) (hr : DD X es fr) (hs : starEach (a :: es) X.env = (false, eval a X.env) :: starEach es X.env := by rfl) : DD X (a :: es) (dCons fa fr) :=
  PA_imp (pa_cons ha hr hs) fun σ H Q ⟨B, Z0, Z, ρ, ds, x, e, k⟩ => by
    unfold dCons at e
    cases q : fa ρ with
    | none => rw [q] at e; cases e
    | some s =>
      rw [q] at e
      cases qd : toD s with
      | none => simp only [qd] at e; cases e
      | some d =>
        cases qr : fr ρ with
        | none => simp only [qd, qr] at e; cases e
        | some ds' =>
          simp only [qd, qr] at e
          cases e
          refine er1 x q fun v Z' H' k' r => ?_
          obtain ⟨Z2, k2, zz, hd⟩ := toD_ok k' r qd
          refine ⟨B, Z0, Z2, ρ, ds', x.step k2, qr, fun vs Z3 H3 k3 hds => ?_⟩
          exact k _ Z3 H3 (k2.trans k3) (.cons (Dp_mono k3.zz _ _ hd) hds)
def eTup (f : SEnv → Option (List D)) : SEnv → Option Sl := fun ρ => match f ρ with
  | some ds => if ds.length ≤ 1000 then some (.pl (.tuple ds)) else none
  | none => none
def eLst (f : SEnv → Option (List D)) : SEnv → Option Sl := fun ρ => match f ρ with
  | some ds => if ds.length ≤ 1000 then some (.own ds) else none
  | none => none
theorem pd_tup {es : List Expr} {x1} {pos : Pos} {f : SEnv → Option (List D)} (h : DD X es f) : PD X (.Tuple es x1 pos) (eTup f) :=
  PE_imp (pe_tup h) fun σ H Q ⟨B, Z0, Z, ρ, s, x, e, k⟩ => by
    unfold eTup at e
    cases q : f ρ with
    | none => rw [q] at e; cases e
    | some ds =>
      rw [q] at e
      by_cases c : ds.length ≤ 1000
      · simp only [if_pos c] at e
        cases e
        refine ⟨B, Z0, Z, ρ, ds, x, q, fun vs Z' H' k' hds => ⟨by rw [sizeLine_eq, DpAll_length hds]; omega, fun p hp => ?_⟩⟩
        obtain ⟨s2, r⟩ := Dp_newT k'.zh hp hds
        exact k _ _ _ (k'.trans s2) (vlR.pl r)
      · simp only [if_neg c] at e; cases e
theorem pd_lst {es : List Expr} {pos : Pos} {f : SEnv → Option (List D)} (h : DD X es f) : PD X (.List es pos) (eLst f) :=
  PE_imp (pe_lst h) fun σ H Q ⟨B, Z0, Z, ρ, s, x, e, k⟩ => by
    unfold eLst at e
    cases q : f ρ with
    | none => rw [q] at e; cases e
    | some ds =>
      rw [q] at e
      by_cases c : ds.length ≤ 1000
      · simp only [if_pos c] at e
        cases e
        refine ⟨B, Z0, Z, ρ, ds, x, q, fun vs Z' H' k' hds => ⟨by rw [sizeLine_eq, DpAll_length hds]; omega, fun p hp => ?_⟩⟩
        obtain ⟨s2, r⟩ := vlR.newL k'.zh hp hds
        exact k _ _ _ (k'.trans s2) (r.back k'.bh)
      · simp only [if_neg c] at e; cases e
end
end DL

set_option Elab.async false
set_option linter.all false
set_option maxRecDepth 100000
set_option maxHeartbeats 1000000
/-! DL3: subscripts, slices, calls, statements, loops, comprehensions, defs. -/
namespace DL
open PySem PySem.Spec PyProof.Rows L2
section
variable {X : Cx}
/-! ### subscripts -/
def ixD : Sl → D → Option D
  | .pl (.str s), .int i => if s.length ≤ 16777216 then (atI s.cps.toList i).map fun c => .str ⟨#[c]⟩ else none
  | s, .int i => (items s).bind fun ds => atI ds i
  | _, _ => none
def eIx (a b : SEnv → Option Sl) : SEnv → Option Sl := fun ρ => match a ρ, b ρ with
  | some s, some (.pl i) => (ixD s i).map .pl
  | _, _ => none
theorem atI_D {K : PySem.W.Frag} {Z : Hp} {vs : List V} {ds : List D} {i : Int} {d : D} (h : DpAll K Z vs ds) (e : atI ds i = some d) : ∃ v, atI vs i = some v ∧ Dp K Z v d := by
  unfold atI at e ⊢
  rw [DpAll_length h]
  cases q : ixN ds.length i with
  | none => rw [q] at e; cases e
  | some j =>
    rw [q] at e
    exact DpAll_get h e
theorem pd_ix {a b : Expr} {fa fb : SEnv → Option Sl} {pos : Pos} (ha : PD X a fa) (hb : PD X b fb) (hs : PlainIx b := by exact fun _ _ => rfl) : PD X (.Subscript a b pos) (eIx fa fb) :=
  PE_imp (pe_ix ix_seq ha hb hs) fun σ H Q ⟨B, Z0, Z, ρ, s, x, e, k⟩ => by
    unfold eIx at e
    split at e
    · rename_i t i qa qb
      cases q : ixD t i with
      | none => rw [q] at e; cases e
      | some d =>
        rw [q] at e
        cases e
        refine er2 x qa qb fun v w Z' H' k' r1 r2 => ?_
        have hi := r2.data
        cases hi <;> first | (cases t <;> (try (rename_i c; cases c)) <;> cases q; done) | skip
        rename_i i
        by_cases hstr : ∃ z, t = .pl (.str z)
        · obtain ⟨z, rfl⟩ := hstr
          have h1 := r1.data
          cases h1
          change (if z.length ≤ 16777216 then (atI z.cps.toList i).map fun c => PyData.str ⟨#[c]⟩ else none) = some d at q
          by_cases c : z.length ≤ 16777216
          · rw [if_pos c] at q
            cases q2 : atI z.cps.toList i with
            | none => rw [q2] at q; cases q
            | some c =>
              rw [q2] at q
              cases q
              exact .inr (.inr ⟨z, i, c, rfl, rfl, by rw [sizeLine_eq]; assumption, q2, k _ Z' H' k' (vlR.pl (.str _))⟩)
          · rw [if_neg c] at q; cases q
        · have q' : (items t).bind (fun ds => atI ds i) = some d := by
            cases t with
            | pl c => cases c <;> first | exact q | exact absurd ⟨_, rfl⟩ hstr
            | _ => exact q
          cases qi : items t with
          | none => rw [qi] at q'; cases q'
          | some ds =>
            rw [qi] at q'
            obtain ⟨p, vs, rfl, hq, hd⟩ := items_ok r1 k'.zh qi
            obtain ⟨u, hu, hud⟩ := atI_D hd q'
            rcases hq with hq | hq
            · exact .inl ⟨p, vs, i, u, rfl, rfl, hq, hu, k _ Z' H' k' (vlR.pl hud)⟩
            · exact .inr (.inl ⟨p, vs, i, u, rfl, rfl, hq, hu, k _ Z' H' k' (vlR.pl hud)⟩)
    · cases e
/-! ### slices -/
def OR (K : PySem.W.Frag) (f : SEnv → Option (Option Int)) : TO := fun σ H Q => ∃ B Z0 Z ρ o, St K B Z0 Z H σ ρ ∧ f ρ = some o ∧ ∀ Z' H', Step Z H Z' H' → Q o H'
theorem PO_imp {e : Option Expr} {t t' : TO} (h : PO X e t) (i : ∀ σ H Q, t' σ H Q → t σ H Q) : PO X e t' := ⟨fun pins s σ H Q I hw => h.run pins s σ H Q I (i σ H Q hw)⟩
def oNone : SEnv → Option (Option Int) := fun _ => some none
def oSome (f : SEnv → Option Sl) : SEnv → Option (Option Int) := fun ρ => match f ρ with
  | some (.pl (.int i)) => some (some i)
  | _ => none
theorem od_none : PO X none (OR X.K oNone) := PO_imp po_none fun σ H Q ⟨B, Z0, Z, ρ, o, x, e, k⟩ => by
  cases e
  exact k Z H (Step.refl x.zh)
theorem od_some {e : Expr} {f : SEnv → Option Sl} (h : PD X e f) : PO X (some e) (OR X.K (oSome f)) := PO_imp (po_some h) fun σ H Q ⟨B, Z0, Z, ρ, o, x, e, k⟩ => by
  unfold oSome at e
  split at e
  · rename_i q
    cases e
    refine er1 x q fun v Z' H' k' r => ?_
    have h := r.data
    cases h
    exact ⟨_, rfl, k Z' H' k'⟩
  · cases e
def cutD {α : Type} (xs : List α) (lo hi : Option Int) : List α := (xs.drop (HT.sIx xs.length 0 lo)).take (HT.sIx xs.length xs.length hi - HT.sIx xs.length 0 lo)
theorem cut_D {K : PySem.W.Frag} {Z : Hp} {vs : List V} {ds : List D} (lo hi : Option Int) (h : DpAll K Z vs ds) : DpAll K Z (cutV vs lo hi) (cutD ds lo hi) := by
  unfold cutV cutD
  rw [DpAll_length h]
  exact DpAll_take _ (DpAll_drop _ h)
def slD : Sl → Option Int → Option Int → Option Sl
  | .pl (.str s), lo, hi => if s.length ≤ 16777216 then some (.pl (.str (cutS s lo hi))) else none
  | .pl (.tuple ds), lo, hi => some (.pl (.tuple (cutD ds lo hi)))
  | s, lo, hi => (litems s).map fun ds => .own (cutD ds lo hi)
def eSl (a : SEnv → Option Sl) (l h : SEnv → Option (Option Int)) : SEnv → Option Sl := fun ρ => match a ρ, l ρ, h ρ with
  | some s, some lo, some hi => slD s lo hi
  | _, _, _ => none
theorem cutD_whole {α : Type} {xs : List α} {lo hi : Option Int} (h : HT.sIx xs.length 0 lo = 0 ∧ HT.sIx xs.length xs.length hi = xs.length) : cutD xs lo hi = xs := by
  unfold cutD
  rw [h.1, h.2]
  simp
theorem pd_slice {a : Expr} {lo hi : Option Expr} {p2 pos : Pos} {fa : SEnv → Option Sl} {fl fh : SEnv → Option (Option Int)} (ha : PD X a fa) (hl : PO X lo (OR X.K fl)) (hh : PO X hi (OR X.K fh)) : PD X (.Subscript a (.Slice lo hi none p2) pos) (eSl fa fl fh) :=
  PE_imp (pe_slice (sl_list.or (sl_tupA.or sl_str)) ha hl hh) fun σ H Q ⟨B, Z0, Z, ρ, s, x, e, k⟩ => by
    unfold eSl at e
    split at e
    · rename_i t l h qa ql qh
      refine er1 x qa fun v Z1 H1 k1 r1 => ⟨B, Z0, Z1, ρ, l, x.step k1, ql, fun Z2 H2 k2 => ⟨B, Z0, Z2, ρ, h, (x.step k1).step k2, qh, fun Z3 H3 k3 => ?_⟩⟩
      have k' : Step Z H Z3 H3 := (k1.trans k2).trans k3
      have r := (r1.step k2).step k3
      by_cases hstr : ∃ z, t = .pl (.str z)
      · obtain ⟨z, rfl⟩ := hstr
        have h1 := r.data
        cases h1
        change (if z.length ≤ 16777216 then some (Sl.pl (.str (cutS z l h))) else none) = some s at e
        by_cases c : z.length ≤ 16777216
        · rw [if_pos c] at e
          cases e
          exact .inr (.inr ⟨z, rfl, by rw [sizeLine_eq]; exact c, k _ Z3 H3 k' (vlR.pl (.str _))⟩)
        · rw [if_neg c] at e; cases e
      · by_cases htup : ∃ z, t = .pl (.tuple z)
        · obtain ⟨z, rfl⟩ := htup
          cases e
          obtain ⟨p, vs, rfl, hq, hd⟩ := titems_ok r.data
          refine .inr (.inl ⟨p, vs, rfl, sqT_mono k'.zh hq, fun hw => ?_, fun _ q hq0 => ?_⟩)
          · rw [DpAll_length hd] at hw
            rw [cutD_whole hw] at k
            exact k _ Z3 H3 k' r
          · obtain ⟨k4, r4⟩ := Dp_newT k'.zh hq0 (cut_D l h hd)
            exact k _ _ _ (k'.trans k4) (vlR.pl r4)
        · have e' : (litems t).map (fun ds => Sl.own (cutD ds l h)) = some s := by
            cases t with
            | pl c => cases c <;> first | exact e | exact absurd ⟨_, rfl⟩ hstr | exact absurd ⟨_, rfl⟩ htup
            | _ => exact e
          cases qi : litems t with
          | none => rw [qi] at e'; cases e'
          | some ds =>
            rw [qi] at e'
            cases e'
            obtain ⟨p, vs, rfl, hq, hd⟩ := litems_ok r k'.zh qi
            refine .inl ⟨p, vs, rfl, hq, fun q hq0 => ?_⟩
            obtain ⟨k4, r4⟩ := vlR.newL k'.zh hq0 (cut_D l h hd)
            exact k _ _ _ (k'.trans k4) (r4.back k'.bh)
    · cases e
/-! ### arguments -/
def aNil : SEnv → Option (List Sl) := fun _ => some []
def aCons (a : SEnv → Option Sl) (r : SEnv → Option (List Sl)) : SEnv → Option (List Sl) := fun ρ => match a ρ, r ρ with
  | some s, some ss => some (bor s :: ss)
  | _, _ => none
@[simp] theorem bor_pl (d : D) : bor (.pl d) = .pl d := rfl
@[simp] theorem bor_own (d : List D) : bor (.own d) = .brw d := rfl
@[simp] theorem bor_brw (d : List D) : bor (.brw d) = .brw d := rfl
@[simp] theorem bor_bob (c : ObjC) (d : D) : bor (.bob c d) = .bob c d := rfl
@[simp] theorem bor_obj (c : ObjC) (d : D) : bor (.obj c d) = .bob c d := rfl
@[simp] theorem bor_bdc (c : List (Key × D)) : bor (.bdc c) = .bdc c := rfl
@[simp] theorem bor_dic (c : List (Key × D)) : bor (.dic c) = .bdc c := rfl
theorem ad_nil : AD X [] aNil := PA_imp pa_nil fun σ H Q ⟨B, Z0, Z, ρ, ds, x, e, k⟩ => by
  cases e
  exact k [] Z H (Step.refl x.zh) trivial
theorem ad_cons {a : Expr} {es : List Expr} {fa : SEnv → Option Sl} {fr : SEnv → Option (List Sl)} (ha : PD X a fa) (hr : AD X es fr) (hs : starEach (a :: es) X.env = (false, eval a X.env) :: starEach es X.env := by rfl) : AD X (a :: es) (aCons fa fr) :=
  PA_imp (pa_cons ha hr hs) fun σ H Q ⟨B, Z0, Z, ρ, ds, x, e, k⟩ => by
    unfold aCons at e
    split at e
    · rename_i s ss qa qr
      cases e
      refine er1 x qa fun v Z' H' k' r => ⟨B, Z0, Z', ρ, ss, x.step k', qr, fun vs Z2 H2 k2 r2 => ?_⟩
      exact k _ Z2 H2 (k'.trans k2) ⟨(bor_ok r).mono k2.bh k2.zz (fun _ h => nomatch h), r2⟩
    · cases e
/-! ### calls of built-ins, by values -/
def BuiOK (K : PySem.W.Frag) (r : List V → Hp → VK → Prop) (F : List Sl → Option Sl) : Prop := ∀ (Z H : Hp) (vs : List V) (ss : List Sl) (s : Sl) (Q : VK), Same Z H → AllB K Z H vs ss → F ss = some s → (∀ v Z' H', Step Z H Z' H' → vlR K H Z' H' v s → Q v H') → r vs H Q
def eBui (F : List Sl → Option Sl) (a : SEnv → Option (List Sl)) : SEnv → Option Sl := fun ρ => match a ρ with
  | some ss => F ss
  | none => none
theorem bui_core {r : List V → Hp → VK → Prop} {F : List Sl → Option Sl} {a : SEnv → Option (List Sl)} (hf : BuiOK X.K r F) {σ : L2.St} {H : Hp} {Q : VK} (h : ER X.K (eBui F a) σ H Q) : tCB r (AR X.K a) σ H Q := by
  obtain ⟨B, Z0, Z, ρ, s, x, e, k⟩ := h
  unfold eBui at e
  cases q : a ρ with
  | none => rw [q] at e; cases e
  | some ss =>
    rw [q] at e
    refine ⟨B, Z0, Z, ρ, ss, x, q, fun vs Z' H' k' r => ?_⟩
    exact hf _ _ _ _ _ _ k'.zh r e fun v Z2 H2 k2 r2 => k v Z2 H2 (k'.trans k2) (r2.back k'.bh)
theorem pd_callB {x : Str} {p pos : Pos} {e : Expr} {es : List Expr} {id : String} {r : List V → Hp → VK → Prop} {F : List Sl → Option Sl} {a : SEnv → Option (List Sl)} (hc : CallR X (.builtin id) r) (hf : BuiOK X.K r F) (hg : Gl X x) (hm : X.mg x = none) (hv : bootBuiltins x = some (.builtin id)) (ha : AD X (e :: es) a)
    (hn : x ≠ "__name__" := by decide) (hdb : (x == ("__debug__" : Str)) = false := by decide) (h1 : starEach (e :: es) X.env = (false, eval e X.env) :: starEach es X.env := by rfl) (h2 : ((backTo pos (starEach es X.env)).any fun x => x.fst) = false := by rfl) : PD X (.Call (.Name x p) (e :: es) [] pos) (eBui F a) :=
  PE_imp (pe_callB hc hg hm hv ha hn hdb h1 h2) fun σ H Q h => bui_core hf h
theorem pd_callTy {x : Str} {p pos : Pos} {e : Expr} {es : List Expr} {T : String} {r : List V → Hp → VK → Prop} {F : List Sl → Option Sl} {a : SEnv → Option (List Sl)} (hc : CallR X (.type T) r) (hf : BuiOK X.K r F) (hg : Gl X x) (hm : X.mg x = none) (hv : bootBuiltins x = some (.type T)) (ha : AD X (e :: es) a)
    (hn : x ≠ "__name__" := by decide) (hdb : (x == ("__debug__" : Str)) = false := by decide) (h1 : starEach (e :: es) X.env = (false, eval e X.env) :: starEach es X.env := by rfl) (h2 : ((backTo pos (starEach es X.env)).any fun x => x.fst) = false := by rfl) : PD X (.Call (.Name x p) (e :: es) [] pos) (eBui F a) :=
  PE_imp (pe_callTy hc hg hm hv ha hn hdb h1 h2) fun σ H Q h => bui_core hf h
/-- a borrowed argument as a value -/
theorem vl_of {K : PySem.W.Frag} {Z H H0 : Hp} {v : V} {s : Sl} (h : slR K H Z H s (some v) []) : vlR K H0 Z H v s := ⟨[], h, fun _ h => nomatch h⟩
theorem BuiOK.or {K : PySem.W.Frag} {r r' : List V → Hp → VK → Prop} {F G : List Sl → Option Sl} (h : BuiOK K r F) (h' : BuiOK K r' G) : BuiOK K (fun xs H Q => r xs H Q ∨ r' xs H Q) (fun ss => (F ss).or (G ss)) := by
  intro Z H vs ss s Q zh ha e k
  change (F ss).or (G ss) = some s at e
  cases q : F ss with
  | some t => rw [q] at e; cases e; exact .inl (h _ _ _ _ _ _ zh ha q k)
  | none => rw [q] at e; exact .inr (h' _ _ _ _ _ _ zh ha e k)
/-- one argument -/
theorem bui1 {K : PySem.W.Frag} {r : List V → Hp → VK → Prop} {F : Sl → Option Sl} (h : ∀ (Z H : Hp) (v : V) (s t : Sl) (Q : VK), Same Z H → vlR K H Z H v s → F s = some t → (∀ v Z' H', Step Z H Z' H' → vlR K H Z' H' v t → Q v H') → r [v] H Q) :
    BuiOK K r (fun ss => match ss with | [s] => F s | _ => none) := by
  intro Z H vs ss s Q zh ha e k
  match vs, ss, ha with
  | [v], [t], ha => exact h _ _ _ _ _ _ zh (vl_of ha.1) e k
  | _, [], _ => cases e
  | _, _ :: _ :: _, _ => cases e
theorem bui2 {K : PySem.W.Frag} {r : List V → Hp → VK → Prop} {F : Sl → Sl → Option Sl} (h : ∀ (Z H : Hp) (v w : V) (s t u : Sl) (Q : VK), Same Z H → vlR K H Z H v s → vlR K H Z H w t → F s t = some u → (∀ v Z' H', Step Z H Z' H' → vlR K H Z' H' v u → Q v H') → r [v, w] H Q) :
    BuiOK K r (fun ss => match ss with | [s, t] => F s t | _ => none) := by
  intro Z H vs ss s Q zh ha e k
  match vs, ss, ha with
  | [v, w], [t, u], ha => exact h _ _ _ _ _ _ _ _ zh (vl_of ha.1) (vl_of ha.2.1) e k
  | _, [], _ => cases e
  | _, [_], _ => cases e
  | _, _ :: _ :: _ :: _, _ => cases e
/-- len -/
def lenS : Sl → Option Sl
  | .pl (.str y) => if y.length ≤ 16777216 then some (.pl (.int (y.length : Int))) else none
  | s => (items s).map fun ds => .pl (.int (ds.length : Int))
def lenF : List Sl → Option Sl := fun ss => match ss with | [s] => lenS s | _ => none
theorem ok_len {K : PySem.W.Frag} : BuiOK K (fun xs H Q => ∃ x n, xs = [x] ∧ LenV K x H n ∧ Q (.int (n : Nat)) H) lenF := bui1 (F := lenS) fun Z H v s t Q zh r e k => by
  by_cases hstr : ∃ z, s = .pl (.str z)
  · obtain ⟨z, rfl⟩ := hstr
    have h1 := r.data
    cases h1
    change (if z.length ≤ 16777216 then some (Sl.pl (.int (z.length : Int))) else none) = some t at e
    by_cases c : z.length ≤ 16777216
    · rw [if_pos c] at e
      cases e
      exact ⟨_, _, rfl, ⟨by rw [sizeLine_eq]; exact c, rfl⟩, k _ Z H (Step.refl zh) (vlR.pl (.int _))⟩
    · rw [if_neg c] at e; cases e
  · have e' : (items s).map (fun ds => Sl.pl (.int (ds.length : Int))) = some t := by
      cases s with
      | pl c => cases c <;> first | exact e | exact absurd ⟨_, rfl⟩ hstr
      | _ => exact e
    cases qi : items s with
    | none => rw [qi] at e'; cases e'
    | some ds =>
      rw [qi] at e'
      cases e'
      obtain ⟨p, vs, rfl, hq, hd⟩ := items_ok r zh qi
      refine ⟨_, ds.length, rfl, ?_, k _ Z H (Step.refl zh) (vlR.pl (.int _))⟩
      rcases hq with hq | hq
      · exact .inl ⟨vs, hq, (DpAll_length hd).symm⟩
      · exact .inr ⟨vs, hq, (DpAll_length hd).symm⟩
theorem pd_len {p pos : Pos} {e : Expr} {a : SEnv → Option Sl} (hg : Gl X "len") (hm : X.mg "len" = none) (ha : PD X e a) (h1 : starEach [e] X.env = (false, eval e X.env) :: starEach [] X.env := by rfl) : PD X (.Call (.Name "len" p) [e] [] pos) (eBui lenF (aCons a aNil)) :=
  pd_callB call_len ok_len hg hm PySem.boot_len (ad_cons ha ad_nil h1) (by decide) (by decide) h1 rfl
/-- tuple(x), list(x) -/
def tupleS (s : Sl) : Option Sl := (items s).map fun ds => .pl (.tuple ds)
def tupleF : List Sl → Option Sl := fun ss => match ss with | [s] => tupleS s | _ => none
theorem ok_tuple {K : PySem.W.Frag} : BuiOK K (fun xs H Q => ∃ p ys, xs = [.ref p] ∧ ((SqL K H p ys ∧ ∀ l, H l = none → Q (.ref l) (upd H l (.tup ys))) ∨ (SqT K H p ys ∧ Q (.ref p) H))) tupleF := bui1 (F := tupleS) fun Z H v s t Q zh r e k => by
  by_cases htup : ∃ z, s = .pl (.tuple z)
  · obtain ⟨z, rfl⟩ := htup
    cases e
    obtain ⟨p, vs, rfl, hq, hd⟩ := titems_ok r.data
    exact ⟨p, vs, rfl, .inr ⟨sqT_mono zh hq, k _ Z H (Step.refl zh) r⟩⟩
  · have e' : (litems s).map (fun ds => Sl.pl (.tuple ds)) = some t := by
      cases s with
      | pl c => cases c <;> first | exact e | exact absurd ⟨_, rfl⟩ htup
      | _ => exact e
    cases qi : litems s with
    | none => rw [qi] at e'; cases e'
    | some ds =>
      rw [qi] at e'
      cases e'
      obtain ⟨p, vs, rfl, hq, hd⟩ := litems_ok r zh qi
      refine ⟨p, vs, rfl, .inl ⟨hq, fun l hl => ?_⟩⟩
      obtain ⟨k2, r2⟩ := Dp_newT zh hl hd
      exact k _ _ _ k2 (vlR.pl r2)
theorem pd_tuple {p pos : Pos} {e : Expr} {a : SEnv → Option Sl} (hg : Gl X "tuple") (hm : X.mg "tuple" = none) (ha : PD X e a) (h1 : starEach [e] X.env = (false, eval e X.env) :: starEach [] X.env := by rfl) : PD X (.Call (.Name "tuple" p) [e] [] pos) (eBui tupleF (aCons a aNil)) :=
  pd_callTy call_tuple_of ok_tuple hg hm (by decide +kernel) (ad_cons ha ad_nil h1) (by decide) (by decide) h1 rfl
def listS (s : Sl) : Option Sl := (items s).map fun ds => .own ds
def listF : List Sl → Option Sl := fun ss => match ss with | [s] => listS s | _ => none
theorem ok_list {K : PySem.W.Frag} : BuiOK K (fun xs H Q => ∃ p ys, xs = [.ref p] ∧ (SqL K H p ys ∨ SqT K H p ys) ∧ ∀ l, H l = none → Q (.ref l) (upd H l (.lst ys))) listF := bui1 (F := listS) fun Z H v s t Q zh r e k => by
  change (items s).map (fun ds => Sl.own ds) = some t at e
  cases qi : items s with
  | none => rw [qi] at e; cases e
  | some ds =>
    rw [qi] at e
    cases e
    obtain ⟨p, vs, rfl, hq, hd⟩ := items_ok r zh qi
    refine ⟨p, vs, rfl, hq, fun l hl => ?_⟩
    obtain ⟨k2, r2⟩ := vlR.newL zh hl hd
    exact k _ _ _ k2 r2
theorem pd_list {p pos : Pos} {e : Expr} {a : SEnv → Option Sl} (hg : Gl X "list") (hm : X.mg "list" = none) (ha : PD X e a) (h1 : starEach [e] X.env = (false, eval e X.env) :: starEach [] X.env := by rfl) : PD X (.Call (.Name "list" p) [e] [] pos) (eBui listF (aCons a aNil)) :=
  pd_callTy call_list_of ok_list hg hm (by decide +kernel) (ad_cons ha ad_nil h1) (by decide) (by decide) h1 rfl
/-- isinstance against one built-in type -/
def tyD : Sl → Option String
  | .pl .none => some "NoneType"
  | .pl (.bool _) => some "bool"
  | .pl (.int _) => some "int"
  | .pl (.str _) => some "str"
  | .pl (.list _) => some "list"
  | .pl (.tuple _) => some "tuple"
  | .own _ => some "list"
  | .brw _ => some "list"
  | _ => none
def isiS (T : String) (s : Sl) : Option Bool := match tyD s with
  | some t => kitB t T
  | none => none

/-! ### statements -/
section
variable {E : XK}
def sNext : SEnv → Option Out := fun ρ => some (.nx ρ)
def sSeq (f g : SEnv → Option Out) : SEnv → Option Out := fun ρ => match f ρ with
  | some (.nx ρ') => g ρ'
  | o => o
theorem post_mono {K : PySem.W.Frag} {B Z0 : Hp} {D D' : Ends} {o : Out} (h : post K E B Z0 D o) (hn : ∀ σ H, D.nx σ H → D'.nx σ H) (hr : ∀ v H, D.rt v H → D'.rt v H) (hb : ∀ σ H, D.bk σ H → D'.bk σ H) (hc : ∀ σ H, D.ct σ H → D'.ct σ H) : post K E B Z0 D' o := by
  cases o with
  | nx ρ => exact fun Z σ H s => hn _ _ (h Z σ H s)
  | bk ρ => exact fun Z σ H s => hb _ _ (h Z σ H s)
  | ct ρ => exact fun Z σ H s => hc _ _ (h Z σ H s)
  | rt s => exact fun v Z H a b => hr _ _ (h v Z H a b)
  | ex x => exact h
theorem ssd_nil : SsD X E [] sNext := PSs_imp pss_nil fun D σ H ⟨B, Z0, Z, ρ, o, x, e, k⟩ => by
  cases e
  exact k Z σ H x
theorem ssd_cons {st : Stmt} {rest : List Stmt} {f g : SEnv → Option Out} (h1 : SD X E st f) (h2 : SsD X E rest g) : SsD X E (st :: rest) (sSeq f g) :=
  PSs_imp (pss_cons h1 h2) fun D σ H ⟨B, Z0, Z, ρ, o, x, e, k⟩ => by
    unfold sSeq at e
    refine (?_ : SR X.K E f { D with nx := SR X.K E g D } σ H)
    split at e
    · rename_i ρ' q
      refine ⟨B, Z0, Z, ρ, .nx ρ', x, q, fun Z' σ' H' x' => ⟨B, Z0, Z', ρ', o, x', e, k⟩⟩
    · rename_i h
      refine ⟨B, Z0, Z, ρ, o, x, e, ?_⟩
      cases o with
      | nx ρ' => exact absurd e (h ρ')
      | bk ρ => exact k
      | ct ρ => exact k
      | rt s => exact k
      | ex x => exact k
theorem ssd_one {st : Stmt} {f : SEnv → Option Out} (h1 : SD X E st f) : SsD X E [st] f := pss_one h1
/-- what may be stored -/
def sto : Sl → Option Sl
  | .pl d => some (.pl d)
  | .own ds => some (.own ds)
  | .dic kvs => some (.dic kvs)
  | .obj c d => some (.obj c d)
  | _ => none
@[simp] theorem sto_pl (d : D) : sto (.pl d) = some (.pl d) := rfl
@[simp] theorem sto_own (d : List D) : sto (.own d) = some (.own d) := rfl
@[simp] theorem sto_dic (d : List (Key × D)) : sto (.dic d) = some (.dic d) := rfl
@[simp] theorem sto_obj (c : ObjC) (d : D) : sto (.obj c d) = some (.obj c d) := rfl
theorem sto_ok {K : PySem.W.Frag} {B H0 Z H : Hp} {v : V} {s t : Sl} (h : vlR K H0 Z H v s) (e : sto s = some t) : ∃ fp, slR K B Z H t (some v) fp ∧ ∀ a ∈ fp, H0 a = none ∧ Z a = none := by
  obtain ⟨fp, h1, h2⟩ := h
  refine ⟨fp, ?_, h2⟩
  cases s <;> cases e <;> exact h1
def sAsg (i : Nat) (f : SEnv → Option Sl) : SEnv → Option Out := fun ρ => match f ρ with
  | some s => (sto s).map fun t => .nx (put ρ i t)
  | none => none
theorem asg_core {i : Nat} {f : SEnv → Option Sl} {te : TE} (h : ∀ σ H Q, ER X.K f σ H Q → te σ H Q) {D : Ends} {σ : L2.St} {H : Hp} (hw : SR X.K E (sAsg i f) D σ H) : tAsg te (gName i) D σ H := by
  obtain ⟨B, Z0, Z, ρ, o, x, e, k⟩ := hw
  unfold sAsg at e
  cases q : f ρ with
  | none => rw [q] at e; cases e
  | some s =>
    rw [q] at e
    cases qs : sto s with
    | none => simp only [qs] at e; cases e
    | some t =>
      simp only [qs] at e
      cases e
      exact h _ _ _ (er1 x q fun v Z' H' k' r => k Z' _ H' (x.set k' i (sto_ok r qs)))
theorem sd_asg {i : Nat} {x : Str} {e : Expr} {f : SEnv → Option Sl} {pos pos' : Pos} (hN : X.N.Nodup) (hi : X.N[i]? = some x) (hx : Loc X.env.scope x) (he : PD X e f) (hs : swapsWith e (some (.Name x pos')) pos.line X.env = pure false := by rfl) (hf : X.fn x = true ∨ X.env.scope.names.lookup x = some .local := by first | exact .inl rfl | exact .inr rfl | assumption) :
    SD X E (.Assign [.Name x pos'] e pos) (sAsg i f) := PS_imp (ps_set hN hi hx he hs hf) fun D σ H hw => asg_core (fun _ _ _ h => h) hw
def sRet (f : SEnv → Option Sl) : SEnv → Option Out := fun ρ => (f ρ).map .rt
theorem sd_ret {e : Expr} {f : SEnv → Option Sl} {pos : Pos} (he : PD X e f) : SD X E (.Return (some e) pos) (sRet f) := PS_imp (ps_ret he) fun D σ H ⟨B, Z0, Z, ρ, o, x, e, k⟩ => by
  unfold sRet at e
  cases q : f ρ with
  | none => rw [q] at e; cases e
  | some s =>
    rw [q] at e
    cases e
    refine er1 x q fun v Z' H' k' r => k v Z' H' (x.st.trans k') ?_
    obtain ⟨fp, h1, h2⟩ := r
    exact ⟨fp, h1, fun a ha => ⟨none_back x.bh (h2 a ha).1, (h2 a ha).2⟩⟩
/-- a list or an object of one's own is handed back -/
def sRetVar (i : Nat) : SEnv → Option Out := fun ρ => (sto (get ρ i)).map .rt
theorem sd_retVar (i : Nat) {x : Str} {p pos : Pos} (hv : PE X (.Name x p) (tVar i)) : SD X E (.Return (some (.Name x p)) pos) (sRetVar i) := PS_imp (ps_ret hv) fun D σ H ⟨B, Z0, Z, ρ, o, x, e, k⟩ => by
  unfold sRetVar at e
  cases q : sto (get ρ i) with
  | none => rw [q] at e; cases e
  | some s =>
    rw [q] at e
    cases e
    obtain ⟨st, len, fp, h1, h2, h3⟩ := id x
    have hi := h1 i
    have hv : ∃ v, look σ i = some v ∧ slR X.K H Z H s (some v) (fp i) := by
      cases c : get ρ i with
      | pl d => rw [c] at hi q; cases q; obtain ⟨a, y, b, d⟩ := hi; exact ⟨y, b, a, y, rfl, d⟩
      | own ds => rw [c] at hi q; cases q; obtain ⟨p, vs, a, b, d⟩ := hi; exact ⟨_, b, p, vs, a, rfl, d⟩
      | dic ds => rw [c] at hi q; cases q; obtain ⟨p, vs, a, b, d⟩ := hi; exact ⟨_, b, p, vs, a, rfl, d⟩
      | obj cc d => rw [c] at hi q; cases q; obtain ⟨y, b, d⟩ := hi; exact ⟨_, b, y, rfl, d⟩
      | _ => rw [c] at q; cases q
    obtain ⟨v, e1, r⟩ := hv
    exact ⟨v, look_some e1, k v Z H st ⟨fp i, r, fun a ha => h3 i a ha⟩⟩
def sRetN : SEnv → Option Out := fun _ => some (.rt (.pl .none))
theorem sd_retN {pos : Pos} : SD X E (.Return none pos) sRetN := PS_imp ps_retN fun D σ H ⟨B, Z0, Z, ρ, o, x, e, k⟩ => by
  cases e
  exact k .non Z H x.st ⟨[], ⟨rfl, _, rfl, .non⟩, fun _ h => nomatch h⟩
def sIf (t : SEnv → Option Bool) (f g : SEnv → Option Out) : SEnv → Option Out := fun ρ => match t ρ with
  | some true => f ρ
  | some false => g ρ
  | none => none
theorem sd_if {c : Expr} {a b : List Stmt} {t : SEnv → Option Bool} {f g : SEnv → Option Out} {pos : Pos} (hc : TD X c t) (ha : SsD X E a f) (hb : SsD X E b g) : SD X E (.If c a b pos) (sIf t f g) := PS_imp (ps_if hc ha hb) fun D σ H ⟨B, Z0, Z, ρ, o, x, e, k⟩ => by
  unfold sIf at e
  split at e
  · rename_i q
    exact tr1 x q fun Z' H' k' => iteT ⟨B, Z0, Z', ρ, o, x.step k', e, k⟩
  · rename_i q
    exact tr1 x q fun Z' H' k' => iteF ⟨B, Z0, Z', ρ, o, x.step k', e, k⟩
  · cases e
def sBrk : SEnv → Option Out := fun ρ => some (.bk ρ)
def sCnt : SEnv → Option Out := fun ρ => some (.ct ρ)
theorem sd_break {pos : Pos} : SD X E (.Break pos) sBrk := PS_imp ps_break fun D σ H ⟨B, Z0, Z, ρ, o, x, e, k⟩ => by cases e; exact k Z σ H x
theorem sd_continue {pos : Pos} : SD X E (.Continue pos) sCnt := PS_imp ps_continue fun D σ H ⟨B, Z0, Z, ρ, o, x, e, k⟩ => by cases e; exact k Z σ H x
theorem sd_pass {pos : Pos} : SD X E (.Pass pos) sNext := PS_imp ps_pass fun D σ H ⟨B, Z0, Z, ρ, o, x, e, k⟩ => by cases e; exact k Z σ H x
def sDrop (f : SEnv → Option Sl) : SEnv → Option Out := fun ρ => match f ρ with
  | some _ => some (.nx ρ)
  | none => none
theorem sd_drop {e : Expr} {f : SEnv → Option Sl} {pos : Pos} (he : PD X e f) (hs : swapsWith e none pos.line X.env = pure false := by rfl) : SD X E (.Expr e pos) (sDrop f) := PS_imp (ps_expr he hs) fun D σ H ⟨B, Z0, Z, ρ, o, x, e, k⟩ => by
  unfold sDrop at e
  cases q : f ρ with
  | none => rw [q] at e; cases e
  | some s =>
    rw [q] at e
    cases e
    exact er1 x q fun v Z' H' k' r => k Z' σ H' (x.step k')
/-- name op= e -/
def sAug (i : Nat) (g : Int → Int → Int) (f : SEnv → Option Sl) : SEnv → Option Out := fun ρ => match get ρ i, f ρ with
  | .pl (.int a), some (.pl (.int b)) => some (.nx (put ρ i (.pl (.int (g a b)))))
  | _, _ => none
theorem sd_aug {i : Nat} {x : Str} {e : Expr} {f : SEnv → Option Sl} {op : Operator} {g : Int → Int → Int} {pos pos' : Pos} (hN : X.N.Nodup) (hi : X.N[i]? = some x) (hx : Loc X.env.scope x) (he : PD X e f) (ho : PIp X op (ipI g)) (hf : X.fn x = true ∨ X.env.scope.names.lookup x = some .local := by first | exact .inl rfl | exact .inr rfl | assumption) :
    SD X E (.AugAssign (.Name x pos') op e pos) (sAug i g f) := PS_imp (ps_aug hN hi hx he ho hf) fun D σ H ⟨B, Z0, Z, ρ, o, x, e, k⟩ => by
  unfold sAug at e
  split at e
  · rename_i a b q1 q2
    cases e
    obtain ⟨v, hv, r⟩ := x.var (i := i) (t := .pl (.int a)) (by rw [q1]; rfl)
    have h1 := r.data
    cases h1
    refine ⟨_, hv, er1 x q2 fun w Z' H' k' r2 => ?_⟩
    have h2 := r2.data
    cases h2
    exact ⟨_, _, rfl, rfl, k Z' _ H' (x.set k' i ⟨[], ⟨rfl, _, rfl, .int _⟩, fun _ h => nomatch h⟩)⟩
  · cases e
/-- forget some slots, ahead or behind -/
def sWipe (is : List Nat) (f : SEnv → Option Out) : SEnv → Option Out := fun ρ => f (wipe1 ρ is)
theorem ssd_wipe (is : List Nat) {st : List Stmt} {f : SEnv → Option Out} (h : SsD X E st f) : SsD X E st (sWipe is f) := PSs_imp h fun D σ H ⟨B, Z0, Z, ρ, o, x, e, k⟩ => ⟨B, Z0, Z, _, o, St.wipe1 is x, e, k⟩
theorem sd_wipe (is : List Nat) {st : Stmt} {f : SEnv → Option Out} (h : SD X E st f) : SD X E st (sWipe is f) := PS_imp h fun D σ H ⟨B, Z0, Z, ρ, o, x, e, k⟩ => ⟨B, Z0, Z, _, o, St.wipe1 is x, e, k⟩
def wipeO (is : List Nat) : Out → Out
  | .nx ρ => .nx (wipe1 ρ is)
  | .bk ρ => .bk (wipe1 ρ is)
  | .ct ρ => .ct (wipe1 ρ is)
  | o => o
def sWipeB (is : List Nat) (f : SEnv → Option Out) : SEnv → Option Out := fun ρ => (f ρ).map (wipeO is)
theorem post_wipe {K : PySem.W.Frag} (is : List Nat) {B Z0 : Hp} {D : Ends} {o : Out} (h : post K E B Z0 D (wipeO is o)) : post K E B Z0 D o := by
  cases o with
  | nx ρ => exact fun Z σ H s => h Z σ H (St.wipe1 is s)
  | bk ρ => exact fun Z σ H s => h Z σ H (St.wipe1 is s)
  | ct ρ => exact fun Z σ H s => h Z σ H (St.wipe1 is s)
  | rt s => exact h
  | ex x => exact h
theorem ssd_wipeB (is : List Nat) {st : List Stmt} {f : SEnv → Option Out} (h : SsD X E st f) : SsD X E st (sWipeB is f) := PSs_imp h fun D σ H ⟨B, Z0, Z, ρ, o, x, e, k⟩ => by
  unfold sWipeB at e
  cases q : f ρ with
  | none => rw [q] at e; cases e
  | some u =>
    rw [q] at e
    cases e
    exact ⟨B, Z0, Z, ρ, u, x, q, post_wipe is k⟩
theorem sd_wipeB (is : List Nat) {st : Stmt} {f : SEnv → Option Out} (h : SD X E st f) : SD X E st (sWipeB is f) := PS_imp h fun D σ H ⟨B, Z0, Z, ρ, o, x, e, k⟩ => by
  unfold sWipeB at e
  cases q : f ρ with
  | none => rw [q] at e; cases e
  | some u =>
    rw [q] at e
    cases e
    exact ⟨B, Z0, Z, ρ, u, x, q, post_wipe is k⟩
end
end
end DL

set_option Elab.async false
set_option linter.all false
set_option maxRecDepth 100000
set_option maxHeartbeats 1000000
/-! DL4: loops, comprehensions, lists changed, calls of defs. -/
namespace DL
open PySem PySem.Spec PyProof.Rows L2
section
variable {X : Cx} {E : XK}
/-! ### what is walked -/
/-- the walk gives the data ds; it stands as long as B and Zs do -/
structure WalkD (K : PySem.W.Frag) (B Zs : Hp) (J : It) (ds : List D) (G : Hp → Prop) (Y : Nat → Hp → V → Hp → Prop) : Prop where
  w : Walk J ds.length G Y
  stays : ∀ H, Same B H → Same Zs H → G H
  gives : ∀ (i : Nat) (Z H : Hp) (x : V) (H' : Hp) (d : D), ds[i]? = some d → Same Zs Z → Same Z H → Y i H x H' → ∃ Z', Step Z H Z' H' ∧ Dp K Z' x d
def LR (K : PySem.W.Frag) (f : SEnv → Option (List D)) : TI := fun σ H R => ∃ B Z0 Z ρ ds, St K B Z0 Z H σ ρ ∧ f ρ = some ds ∧ ∀ J G Y Z' H', Step Z H Z' H' → WalkD K B Z' J ds G Y → R J H'
/-- for a comprehension: it stands as long as the heap at its start does -/
def CR (K : PySem.W.Frag) (f : SEnv → Option (List D)) : TI := fun σ H R => ∃ B Z0 Z ρ ds, St K B Z0 Z H σ ρ ∧ f ρ = some ds ∧ ∀ J G Y Z' H', Step Z H Z' H' → WalkD K H' Z' J ds G Y → R J H'
theorem PI_imp {tg e : Expr} {t t' : TI} (h : PI X tg e t) (i : ∀ σ H R, t' σ H R → t σ H R) : PI X tg e t' := ⟨fun pins s σ H R I hw => h.run pins s σ H R I (i σ H R hw)⟩
abbrev LD (X : Cx) (tg e : Expr) (f : SEnv → Option (List D)) : Prop := PI X tg e (LR X.K f)
abbrev CD (X : Cx) (tg e : Expr) (f : SEnv → Option (List D)) : Prop := PI X tg e (CR X.K f)
theorem WalkD.mono {K : PySem.W.Frag} {B B' Zs Zs' : Hp} {J : It} {ds : List D} {G : Hp → Prop} {Y : Nat → Hp → V → Hp → Prop} (h : WalkD K B Zs J ds G Y) (hb : Same B B') (hz : Same Zs Zs') : WalkD K B' Zs' J ds G Y :=
  ⟨h.w, fun H a b => h.stays H (hb.trans a) (hz.trans b), fun i Z H x H' d a b c e => h.gives i Z H x H' d a (hz.trans b) c e⟩
theorem cd_of {tg e : Expr} {f : SEnv → Option (List D)} (h : LD X tg e f) : CD X tg e f := PI_imp h fun σ H R ⟨B, Z0, Z, ρ, ds, x, e, k⟩ => ⟨B, Z0, Z, ρ, ds, x, e, fun J G Y Z' H' k' w => k J G Y Z' H' k' (w.mono (x.bh.trans k'.bh) (Same.refl _))⟩
/-- items given one by one, the heap as it was -/
theorem yat_gives {K : PySem.W.Frag} {Zs : Hp} {vs : List V} {ds : List D} (hd : DpAll K Zs vs ds) (i : Nat) (Z H : Hp) (x : V) (H' : Hp) (d : D) (e : ds[i]? = some d) (hz : Same Zs Z) (zh : Same Z H) (y : YAt vs i H x H') : ∃ Z', Step Z H Z' H' ∧ Dp K Z' x d := by
  obtain ⟨rfl, hx⟩ := y
  obtain ⟨v, hv, r⟩ := DpAll_get hd e
  rw [hx] at hv
  cases hv
  exact ⟨Z, Step.refl zh, Dp_mono hz _ _ r⟩
/-- a list that stands in Z or B, a new list, a tuple -/
def lsrc : Sl → Option (List D)
  | .pl (.list ds) => some ds
  | .own ds => some ds
  | _ => none
def eSrc (g : Sl → Option (List D)) (f : SEnv → Option Sl) : SEnv → Option (List D) := fun ρ => (f ρ).bind g
theorem SqL_len {K : PySem.W.Frag} {Z : Hp} {vs : List V} {ds : List D} (h : DpAll K Z vs ds) : vs.length = ds.length := DpAll_length h
/-- over a list given by an expression -/
theorem ld_list {tg e : Expr} {f : SEnv → Option Sl} (h : PD X e f) : LD X tg e (eSrc lsrc f) := PI_imp (pi_list h) fun σ H R ⟨B, Z0, Z, ρ, ds, x, e, k⟩ => by
  unfold eSrc at e
  cases q : f ρ with
  | none => rw [q] at e; cases e
  | some s =>
    rw [q] at e
    refine er1 x q fun v Z' H' k' r => ?_
    cases s with
    | pl c =>
      cases c with
      | list es =>
        cases e
        have hd := r.data
        cases hd with
        | lst hq ha =>
          rename_i p vs
          refine ⟨p, rfl, ⟨vs, k'.zh.seq hq⟩, k _ _ _ Z' H' k' ⟨by rw [← SqL_len ha]; exact walk_list, fun H2 _ b => b.seq hq, yat_gives ha⟩⟩
      | _ => cases e
    | own es =>
      cases e
      obtain ⟨Z2, k2, zz, hd⟩ := toD_ok k' r rfl
      cases hd with
      | lst hq ha =>
        rename_i p vs
        refine ⟨p, rfl, ⟨vs, k2.zh.seq hq⟩, k _ _ _ Z2 H' k2 ⟨by rw [← SqL_len ha]; exact walk_list, fun H2 _ b => b.seq hq, yat_gives ha⟩⟩
    | _ => cases e
def tsrc : Sl → Option (List D)
  | .pl (.tuple ds) => some ds
  | _ => none
theorem ld_tup {tg e : Expr} {f : SEnv → Option Sl} (h : PD X e f) : LD X tg e (eSrc tsrc f) := PI_imp (pi_tup h) fun σ H R ⟨B, Z0, Z, ρ, ds, x, e, k⟩ => by
  unfold eSrc at e
  cases q : f ρ with
  | none => rw [q] at e; cases e
  | some s =>
    rw [q] at e
    refine er1 x q fun v Z' H' k' r => ?_
    cases s with
    | pl c =>
      cases c with
      | tuple es =>
        cases e
        obtain ⟨p, vs, rfl, hq, ha⟩ := titems_ok r.data
        exact ⟨p, rfl, ⟨vs, sqT_mono k'.zh hq⟩, k _ _ _ Z' H' k' ⟨by rw [← SqL_len ha]; exact walk_tup, fun H2 _ b => sqT_mono b hq, yat_gives ha⟩⟩
      | _ => cases e
    | _ => cases e
/-- a borrowed list at a slot -/
def vsrc (i : Nat) : SEnv → Option (List D) := fun ρ => match get ρ i with
  | .pl (.list ds) => some ds
  | .brw ds => some ds
  | _ => none
theorem ld_var (i : Nat) {tg : Expr} {x : Str} {pos : Pos} (h : PE X (.Name x pos) (tVar i)) : LD X tg (.Name x pos) (vsrc i) := PI_imp (pi_list h) fun σ H R ⟨B, Z0, Z, ρ, ds, x, e, k⟩ => by
  obtain ⟨st, _, fp, h1, _, _⟩ := id x
  have hi := h1 i
  unfold vsrc at e
  split at e
  · rename_i es q
    cases e
    rw [q] at hi
    obtain ⟨_, v, hv, hd⟩ := hi
    cases hd with
    | lst hq ha =>
      rename_i p vs
      exact ⟨_, look_some hv, p, rfl, ⟨vs, x.zh.seq hq⟩, k _ _ _ Z H (Step.refl x.zh) ⟨by rw [← SqL_len ha]; exact walk_list, fun H2 _ b => b.seq hq, yat_gives ha⟩⟩
  · rename_i es q
    cases e
    rw [q] at hi
    obtain ⟨_, p, vs, hv, hb, ha⟩ := hi
    exact ⟨_, look_some hv, p, rfl, ⟨vs, x.bh.seq (.inl (.inl hb))⟩, k _ _ _ Z H (Step.refl x.zh) ⟨by rw [← SqL_len ha]; exact walk_list, fun H2 a _ => a.seq (.inl (.inl hb)), yat_gives ha⟩⟩
  · cases e
/-- any list at a slot, for a comprehension -/
def csrc (f : SEnv → Option Sl) : SEnv → Option (List D) := fun ρ => (f ρ).bind litems
theorem cd_list {tg e : Expr} {f : SEnv → Option Sl} (h : PD X e f) : CD X tg e (csrc f) := PI_imp (pi_list h) fun σ H R ⟨B, Z0, Z, ρ, ds, x, e, k⟩ => by
  unfold csrc at e
  cases q : f ρ with
  | none => rw [q] at e; cases e
  | some s =>
    rw [q] at e
    refine er1 x q fun v Z' H' k' r => ?_
    obtain ⟨p, vs, rfl, hq, ha⟩ := litems_ok r k'.zh e
    exact ⟨p, rfl, ⟨vs, hq⟩, k _ _ _ Z' H' k' ⟨by rw [← SqL_len ha]; exact walk_list, fun H2 a _ => a.seq hq, yat_gives ha⟩⟩
/-- range(n), range(a, b) -/
def rgD (lo : Int) (n : Nat) : List D := (List.range n).map fun i => .int (lo + (i : Nat))
theorem rgD_length (lo : Int) (n : Nat) : (rgD lo n).length = n := by unfold rgD; rw [List.length_map, List.length_range]
theorem range_walk {K : PySem.W.Frag} {B Zs : Hp} {lo : Int} {n : Nat} : WalkD K B Zs (Itr lo n) (rgD lo n) (fun _ => True) (YFn fun i => .int (lo + i)) :=
  ⟨by rw [rgD_length]; exact walk_range, fun _ _ _ => trivial, fun i Z H x H' d e _ zh y => by
    obtain ⟨rfl, rfl⟩ := y
    refine ⟨Z, Step.refl zh, ?_⟩
    unfold rgD at e
    rw [List.getElem?_map] at e
    cases q : (List.range n)[i]? with
    | none => rw [q] at e; cases e
    | some j =>
      rw [q] at e
      cases e
      have := List.getElem?_eq_some_iff.mp q
      obtain ⟨hl, hj⟩ := this
      rw [List.getElem_range] at hj
      subst hj
      exact .int _⟩
def rg1 (a : SEnv → Option (List Sl)) : SEnv → Option (List D) := fun ρ => match a ρ with
  | some [.pl (.int j)] => if -(2 ^ 62) ≤ j ∧ j < 2 ^ 62 then some (rgD 0 j.toNat) else none
  | _ => none
def rg2 (a : SEnv → Option (List Sl)) : SEnv → Option (List D) := fun ρ => match a ρ with
  | some [.pl (.int i), .pl (.int j)] => if (-(2 ^ 62) ≤ i ∧ i < 2 ^ 62) ∧ -(2 ^ 62) ≤ j ∧ j < 2 ^ 62 then some (rgD i (j - i).toNat) else none
  | _ => none
theorem allB_int1 {K : PySem.W.Frag} {Z H : Hp} {vs : List V} {i : Int} (h : AllB K Z H vs [.pl (.int i)]) : vs = [.int i] := by
  match vs, h with
  | [v], h =>
    obtain ⟨_, x, e, hd⟩ := h.1
    cases e
    cases hd
    rfl
  | _ :: _ :: _, h => exact h.2.elim
theorem allB_int2 {K : PySem.W.Frag} {Z H : Hp} {vs : List V} {i j : Int} (h : AllB K Z H vs [.pl (.int i), .pl (.int j)]) : vs = [.int i, .int j] := by
  match vs, h with
  | [v, w], h =>
    obtain ⟨_, x, e, hd⟩ := h.1
    cases e
    cases hd
    obtain ⟨_, x, e, hd⟩ := h.2.1
    cases e
    cases hd
    rfl
  | [_], h => exact h.2.elim
  | _ :: _ :: _ :: _, h => exact h.2.2.elim
theorem ld_range1 {tg a : Expr} {fa : SEnv → Option (List Sl)} {p pos : Pos} (hg : Gl X "range") (hm : X.mg "range" = none) (ha : AD X [a] fa) (hs : starEach [a] X.env = [(false, eval a X.env)] := by rfl) : LD X tg (.Call (.Name "range" p) [a] [] pos) (rg1 fa) :=
  PI_imp (pi_range1 hg hm ha hs) fun σ H R ⟨B, Z0, Z, ρ, ds, x, e, k⟩ => by
    unfold rg1 at e
    split at e
    · rename_i j q
      by_cases c : -(2 ^ 62) ≤ j ∧ j < 2 ^ 62
      · rw [if_pos c] at e
        cases e
        refine ⟨B, Z0, Z, ρ, _, x, q, fun vs Z' H' k' r => ?_⟩
        cases allB_int1 r
        exact ⟨j, rfl, c.1, c.2, k _ _ _ Z' H' k' range_walk⟩
      · rw [if_neg c] at e; cases e
    · cases e
theorem ld_range2 {tg a b : Expr} {fa : SEnv → Option (List Sl)} {p pos : Pos} (hg : Gl X "range") (hm : X.mg "range" = none) (ha : AD X [a, b] fa) (hs : starEach [a, b] X.env = [(false, eval a X.env), (false, eval b X.env)] := by rfl) (hs2 : starEach [b] X.env = [(false, eval b X.env)] := by rfl) : LD X tg (.Call (.Name "range" p) [a, b] [] pos) (rg2 fa) :=
  PI_imp (pi_range2 hg hm ha hs hs2) fun σ H R ⟨B, Z0, Z, ρ, ds, x, e, k⟩ => by
    unfold rg2 at e
    split at e
    · rename_i i j q
      by_cases c : (-(2 ^ 62) ≤ i ∧ i < 2 ^ 62) ∧ -(2 ^ 62) ≤ j ∧ j < 2 ^ 62
      · rw [if_pos c] at e
        cases e
        refine ⟨B, Z0, Z, ρ, _, x, q, fun vs Z' H' k' r => ?_⟩
        cases allB_int2 r
        exact ⟨i, j, rfl, ⟨c.1.1, c.1.2, c.2.1, c.2.2⟩, k _ _ _ Z' H' k' range_walk⟩
      · rw [if_neg c] at e; cases e
    · cases e
/-! ### targets -/
/-- what a target does with an item -/
abbrev GF := D → SEnv → Option SEnv
def GR (K : PySem.W.Frag) (g : GF) : TG := fun v σ H Q => ∃ B Z0 Z ρ d ρ', St K B Z0 Z H σ ρ ∧ Dp K Z v d ∧ g d ρ = some ρ' ∧ ∀ σ', St K B Z0 Z H σ' ρ' → Q σ' H
theorem PG_imp {e : Expr} {t t' : TG} (h : PG X e t) (i : ∀ v σ H Q, t' v σ H Q → t v σ H Q) : PG X e t' := ⟨fun pins s σ H v u Q I r hw => h.run pins s σ H v u Q I r (i v σ H Q hw)⟩
abbrev GD (X : Cx) (e : Expr) (g : GF) : Prop := PG X e (GR X.K g)
def gPut (i : Nat) : GF := fun d ρ => some (put ρ i (.pl d))
theorem St.setD {K : PySem.W.Frag} {B Z0 Z H : Hp} {σ : L2.St} {ρ : SEnv} (x : St K B Z0 Z H σ ρ) (i : Nat) {v : V} {d : D} (h : Dp K Z v d) : St K B Z0 Z H (σ.set i (some v)) (put ρ i (.pl d)) :=
  x.set (Step.refl x.zh) i ⟨[], ⟨rfl, v, rfl, h⟩, fun _ h => nomatch h⟩
theorem gd_name {i : Nat} {x : Str} {pos : Pos} (hN : X.N.Nodup) (hi : X.N[i]? = some x) (hx : Loc X.env.scope x) (hf : X.fn x = true ∨ X.env.scope.names.lookup x = some .local := by first | exact .inl rfl | exact .inr rfl | assumption) : GD X (.Name x pos) (gPut i) :=
  PG_imp (pg_name hN hi hx hf) fun v σ H Q ⟨B, Z0, Z, ρ, d, ρ', x, hd, e, k⟩ => by
    cases e
    exact k _ (x.setD i hd)
/-- several targets -/
abbrev GsF := List D → SEnv → Option SEnv
def GsR (K : PySem.W.Frag) (g : GsF) : TGs := fun vs σ H Q => ∃ B Z0 Z ρ ds ρ', St K B Z0 Z H σ ρ ∧ DpAll K Z vs ds ∧ g ds ρ = some ρ' ∧ ∀ σ', St K B Z0 Z H σ' ρ' → Q σ' H
theorem PGs_imp {es : List Expr} {t t' : TGs} (h : PGs X es t) (i : ∀ v σ H Q, t' v σ H Q → t v σ H Q) : PGs X es t' := ⟨fun pins s σ H v u Q I r hw => h.run pins s σ H v u Q I r (i v σ H Q hw)⟩
abbrev GsD (X : Cx) (es : List Expr) (g : GsF) : Prop := PGs X es (GsR X.K g)
def gsNil : GsF := fun ds ρ => match ds with
  | [] => some ρ
  | _ => none
def gsCons (i : Nat) (g : GsF) : GsF := fun ds ρ => match ds with
  | d :: ds => g ds (put ρ i (.pl d))
  | [] => none
theorem gsd_nil : GsD X [] gsNil := PGs_imp pgs_nil fun vs σ H Q ⟨B, Z0, Z, ρ, ds, ρ', x, hd, e, k⟩ => by
  cases hd with
  | nil => cases e; exact ⟨rfl, k _ x⟩
  | cons _ _ => cases e
theorem gsd_cons {i : Nat} {x : Str} {pos : Pos} {es : List Expr} {g : GsF} (hN : X.N.Nodup) (hi : X.N[i]? = some x) (hx : Loc X.env.scope x) (h2 : GsD X es g) (hf : X.fn x = true ∨ X.env.scope.names.lookup x = some .local := by first | exact .inl rfl | exact .inr rfl | assumption) : GsD X (.Name x pos :: es) (gsCons i g) :=
  PGs_imp (pgs_cons (pg_name hN hi hx hf) h2) fun vs σ H Q ⟨B, Z0, Z, ρ, ds, ρ', x, hd, e, k⟩ => by
    cases hd with
    | nil => cases e
    | cons r t => exact ⟨_, _, rfl, B, Z0, Z, _, _, ρ', x.setD i r, t, e, k⟩
def gTupF (n : Nat) (g : GsF) : GF := fun d ρ => match d with
  | .tuple ds => if ds.length = n then g ds ρ else none
  | _ => none
theorem gd_tup {es : List Expr} {k : Nat} {g : GsF} {n : Nat} {pos : Pos} (hc : X.calm = true) (h : GsD X es g) (hn : (assignEach es X.env).length = n := by rfl) (hst : (assignEach es X.env).findIdx? (·.1) = none := by rfl) : GD X (.Tuple es k pos) (gTupF n g) :=
  PG_imp (pg_tup hc h hn hst) fun v σ H Q ⟨B, Z0, Z, ρ, d, ρ', x, hd, e, k⟩ => by
    cases d with
    | tuple ds =>
      change (if ds.length = n then g ds ρ else none) = some ρ' at e
      by_cases c : ds.length = n
      · rw [if_pos c] at e
        obtain ⟨p, vs, rfl, hq, ha⟩ := titems_ok hd
        exact ⟨p, vs, rfl, sqT_mono x.zh hq, by rw [DpAll_length ha]; exact c, B, Z0, Z, ρ, ds, ρ', x, ha, e, k⟩
      · rw [if_neg c] at e; cases e
    | _ => cases e
end
end DL

set_option Elab.async false
set_option linter.all false
set_option maxRecDepth 100000
set_option maxHeartbeats 1000000
/-! DL5: for, while, comprehensions, lists changed, calls of defs. -/
namespace DL
open PySem PySem.Spec PyProof.Rows L2
section
variable {X : Cx} {E : XK}
/-! ### loops -/
def forD (g : GF) (b : SEnv → Option Out) : List D → SEnv → Option Out
  | [], ρ => some (.nx ρ)
  | d :: ds, ρ => match g d ρ with
    | none => none
    | some ρ1 => match b ρ1 with
      | some (.nx ρ2) => forD g b ds ρ2
      | some (.ct ρ2) => forD g b ds ρ2
      | some (.bk ρ2) => some (.nx ρ2)
      | o => o
def sFor (src : SEnv → Option (List D)) (g : GF) (b : SEnv → Option Out) : SEnv → Option Out := fun ρ => match src ρ with
  | some ds => forD g b ds ρ
  | none => none
theorem St.base {K : PySem.W.Frag} {B Z0 Z H : Hp} {σ : L2.St} {ρ : SEnv} (x : St K B Z0 Z H σ ρ) : St K B Z Z H σ ρ := ⟨⟨x.st.bh, Same.refl Z, x.st.zh, fun _ q => .inl q⟩, x.len, x.sl⟩
theorem StepB.to {B Z0 Z1 H1 Z H : Hp} (a : StepB B Z0 Z1 H1) (b : StepB B Z1 Z H) : StepB B Z0 Z H := ⟨b.bh, a.zz.trans b.zz, b.zh, fun p q => by
  rcases b.gr p q with z | z
  · exact a.gr p z
  · exact .inr z⟩
theorem St.unbase {K : PySem.W.Frag} {B Z0 Z1 H1 Z H : Hp} {σ : L2.St} {ρ : SEnv} (a : StepB B Z0 Z1 H1) (x : St K B Z1 Z H σ ρ) : St K B Z0 Z H σ ρ := ⟨a.to x.st, x.len, x.sl⟩
theorem post_base {K : PySem.W.Frag} {B Z0 Z1 H1 : Hp} {D : Ends} {o : Out} (a : StepB B Z0 Z1 H1) (h : post K E B Z0 D o) : post K E B Z1 D o := by
  cases o with
  | nx ρ => exact fun Z σ H s => h Z σ H (s.unbase a)
  | bk ρ => exact fun Z σ H s => h Z σ H (s.unbase a)
  | ct ρ => exact fun Z σ H s => h Z σ H (s.unbase a)
  | rt s => exact fun v Z H k r => h v Z H (a.to k) r
  | ex x => exact fun c od Z H k r => h c od Z H (a.to k) r
theorem sd_for {tg iter : Expr} {body : List Stmt} {src : SEnv → Option (List D)} {g : GF} {b : SEnv → Option Out} {pos : Pos} (hp : PassesOwn (model X.prog X.w) X.A X.env X.xe) (hc : X.calm = true) (hi : LD X tg iter src) (hg : GD X tg g) (hb : SsD X E body b)
    (hs : ∀ x, foldedSetIterable iter X.env x = pure x := by intro _; rfl) : SD X E (.For tg iter body [] pos) (sFor src g b) := PS_imp (ps_for hp hc hi hg hb hs) fun D σ H ⟨B, Z0, Z, ρ, o, x, e, k⟩ => by
  unfold sFor at e
  cases q : src ρ with
  | none => rw [q] at e; cases e
  | some ds =>
    rw [q] at e
    refine ⟨B, Z0, Z, ρ, ds, x, q, fun J G Y Z' H' k' w => ?_⟩
    have x1 := (x.step k')
    refine for_it w.w (fun i σ2 H2 => ∃ Z2 ρ2, St X.K B Z' Z2 H2 σ2 ρ2 ∧ forD g b (ds.drop i) ρ2 = some o) ⟨Z', ρ, x1.base, by rw [List.drop_zero]; exact e⟩ (fun i σ2 H2 _ ⟨Z2, ρ2, x2, _⟩ => w.stays H2 x2.bh (x2.st.zz.trans x2.zh)) ?_ ?_
    · rintro i v σ2 H2 H3 hi ⟨Z2, ρ2, x2, e2⟩ y
      obtain ⟨d, hd⟩ : ∃ d, ds[i]? = some d := ⟨ds[i], List.getElem?_eq_getElem hi⟩
      obtain ⟨Z3, k3, r3⟩ := w.gives i Z2 H2 v H3 d hd x2.st.zz x2.zh y
      have hdrop : ds.drop i = d :: ds.drop (i + 1) := by
        rw [List.drop_eq_getElem_cons hi]
        rw [List.getElem?_eq_getElem hi] at hd
        cases hd
        rfl
      rw [hdrop] at e2
      unfold forD at e2
      cases qg : g d ρ2 with
      | none => rw [qg] at e2; cases e2
      | some ρ3 =>
        rw [qg] at e2
        refine ⟨B, Z', Z3, ρ2, d, ρ3, x2.step k3, r3, qg, fun σ3 x3 => ?_⟩
        cases qb : b ρ3 with
        | none => simp only [qb] at e2; cases e2
        | some ob =>
          refine ⟨B, Z', Z3, ρ3, ob, x3, qb, ?_⟩
          simp only [qb] at e2
          cases ob with
          | nx ρ4 => exact fun Z4 σ4 H4 x4 => ⟨Z4, ρ4, x4, e2⟩
          | ct ρ4 => exact fun Z4 σ4 H4 x4 => ⟨Z4, ρ4, x4, e2⟩
          | bk ρ4 => cases e2; exact fun Z4 σ4 H4 x4 => k Z4 σ4 H4 (x4.unbase x1.st)
          | rt s => cases e2; exact fun v Z4 H4 k4 r4 => k v Z4 H4 (x1.st.to k4) r4
          | ex s => cases e2; exact fun c od Z4 H4 k4 r4 => k c od Z4 H4 (x1.st.to k4) r4
    · rintro σ2 H2 ⟨Z2, ρ2, x2, e2⟩
      rw [List.drop_length] at e2
      cases e2
      exact k Z2 σ2 H2 (x2.unbase x1.st)
/-- while, with so many turns at most -/
def whileD (c : SEnv → Option Bool) (b : SEnv → Option Out) : Nat → SEnv → Option Out
  | 0, _ => none
  | n + 1, ρ => match c ρ with
    | none => none
    | some false => some (.nx ρ)
    | some true => match b ρ with
      | some (.nx ρ2) => whileD c b n ρ2
      | some (.ct ρ2) => whileD c b n ρ2
      | some (.bk ρ2) => some (.nx ρ2)
      | o => o
theorem sd_while {c : Expr} {body : List Stmt} {t : SEnv → Option Bool} {b : SEnv → Option Out} {pos : Pos} (n : Nat) (hp : PassesOwn (model X.prog X.w) X.A X.env X.xe) (hc : TD X c t) (hb : SsD X E body b) : SD X E (.While c body [] pos) (whileD t b n) := PS_imp (ps_while hp hc hb) fun D σ H ⟨B, Z0, Z, ρ, o, x, e, k⟩ => by
  refine ⟨fun m σ2 H2 => ∃ Z2 ρ2, St X.K B Z0 Z2 H2 σ2 ρ2 ∧ whileD t b m ρ2 = some o, ⟨n, Z, ρ, x, e⟩, ?_⟩
  rintro m σ2 H2 ⟨Z2, ρ2, x2, e2⟩
  cases m with
  | zero => cases e2
  | succ m =>
    unfold whileD at e2
    cases qc : t ρ2 with
    | none => simp only [qc] at e2; cases e2
    | some bb =>
      refine tr1 x2 qc fun Z3 H3 k3 => ?_
      cases bb with
      | false =>
        simp only [qc] at e2
        cases e2
        exact iteF (k Z3 σ2 H3 (x2.step k3))
      | true =>
        simp only [qc] at e2
        refine iteT ⟨fun σ4 H4 => ∃ Z4 ρ4, St X.K B Z0 Z4 H4 σ4 ρ4 ∧ whileD t b m ρ4 = some o, fun σ4 H4 h => ⟨m, Nat.lt_succ_self m, h⟩, ?_⟩
        cases qb : b ρ2 with
        | none => simp only [qb] at e2; cases e2
        | some ob =>
          refine ⟨B, Z0, Z3, ρ2, ob, x2.step k3, qb, ?_⟩
          simp only [qb] at e2
          cases ob with
          | nx ρ4 => exact fun Z4 σ4 H4 x4 => ⟨Z4, ρ4, x4, e2⟩
          | ct ρ4 => exact fun Z4 σ4 H4 x4 => ⟨Z4, ρ4, x4, e2⟩
          | bk ρ4 => cases e2; exact fun Z4 σ4 H4 x4 => k Z4 σ4 H4 x4
          | rt s => cases e2; exact k
          | ex s => cases e2; exact k
/-! ### frozen, moved -/
def sFrz (i : Nat) (f : SEnv → Option Out) : SEnv → Option Out := fun ρ => f (frz ρ i)
theorem sd_frz (i : Nat) {st : Stmt} {f : SEnv → Option Out} (h : SD X E st f) : SD X E st (sFrz i f) := PS_imp h fun D σ H ⟨B, Z0, Z, ρ, o, x, e, k⟩ => by
  obtain ⟨Z', x', _⟩ := x.frz i
  exact ⟨B, Z0, Z', _, o, x', e, k⟩
theorem ssd_frz (i : Nat) {st : List Stmt} {f : SEnv → Option Out} (h : SsD X E st f) : SsD X E st (sFrz i f) := PSs_imp h fun D σ H ⟨B, Z0, Z, ρ, o, x, e, k⟩ => by
  obtain ⟨Z', x', _⟩ := x.frz i
  exact ⟨B, Z0, Z', _, o, x', e, k⟩
/-- x = y, y not used any more -/
def sMov (i j : Nat) : SEnv → Option Out := fun ρ => if i = j then none else match get ρ j with
  | .un => none
  | s => some (.nx (put (put ρ j .un) i s))
theorem slR_val {K : PySem.W.Frag} {B Z H : Hp} {s : Sl} {o : Option V} {fp : List Addr} (h : slR K B Z H s o fp) (hs : s ≠ .un) : ∃ v, o = some v := by
  cases s with
  | un => exact absurd rfl hs
  | pl d => obtain ⟨_, x, hx, _⟩ := h; exact ⟨x, hx⟩
  | own ds => obtain ⟨p, vs, _, hx, _⟩ := h; exact ⟨_, hx⟩
  | brw ds => obtain ⟨_, p, vs, hx, _⟩ := h; exact ⟨_, hx⟩
  | dic ds => obtain ⟨p, vs, _, hx, _⟩ := h; exact ⟨_, hx⟩
  | bdc ds => obtain ⟨_, p, vs, hx, _⟩ := h; exact ⟨_, hx⟩
  | obj c d => obtain ⟨x, hx, _⟩ := h; exact ⟨_, hx⟩
  | bob c d => obtain ⟨_, x, fp', hx, _⟩ := h; exact ⟨_, hx⟩
theorem St.mov {K : PySem.W.Frag} {B Z0 Z H : Hp} {σ : L2.St} {ρ : SEnv} (x : St K B Z0 Z H σ ρ) {i j : Nat} (hij : i ≠ j) {s : Sl} (e : get ρ j = s) (hs : s ≠ .un) : ∃ v, σ[j]? = some (some v) ∧ St K B Z0 Z H (σ.set i (some v)) (put (put ρ j .un) i s) := by
  subst e
  have y := x.forget j
  obtain ⟨st, len, fp, h1, h2, h3⟩ := x
  obtain ⟨v, hv⟩ := slR_val (h1 j) hs
  refine ⟨v, look_some hv, ?_⟩
  have hj : j < ρ.length := by
    by_cases c : j < ρ.length
    · exact c
    · exact absurd (get_out _ _ (by omega)) hs
  by_cases hi : i < ρ.length
  · refine St.sets (fp := sw fp j []) y.st y.len (fun l hl => ?_) (fun l m a hl hm hlm ha => ?_) (fun l a hl ha => ?_) (by rw [← hv]; exact h1 j) (fun a ha => h3 j a ha) (fun l a hl ha q => ?_) (by rw [put_length]; exact hi)
    · by_cases c : l = j
      · subst c
        rw [sw_same, get_put_same _ _ _ hj]
        exact rfl
      · rw [sw_ne _ _ c, get_put_ne _ _ _ _ (Ne.symm c)]
        exact h1 l
    · by_cases c : l = j
      · subst c; rw [sw_same] at ha; cases ha
      · rw [sw_ne _ _ c] at ha
        by_cases c2 : m = j
        · subst c2; rw [sw_same]; exact fun q => nomatch q
        · rw [sw_ne _ _ c2]; exact h2 l m a hlm ha
    · by_cases c : l = j
      · subst c; rw [sw_same] at ha; cases ha
      · rw [sw_ne _ _ c] at ha; exact h3 l a ha
    · by_cases c : l = j
      · subst c; rw [sw_same] at q; cases q
      · rw [sw_ne _ _ c] at q; exact h2 j l a (Ne.symm c) ha q
  · rw [put_out _ _ _ (by rw [put_length]; omega), List.set_eq_of_length_le (by rw [len]; omega)]
    exact y
theorem sd_mov {i j : Nat} {x y : Str} {pos pos' p2 : Pos} (hN : X.N.Nodup) (hi : X.N[i]? = some x) (hx : Loc X.env.scope x) (he : PE X (.Name y p2) (tVar j)) (hs : swapsWith (.Name y p2) (some (.Name x pos')) pos.line X.env = pure false := by rfl) (hf : X.fn x = true ∨ X.env.scope.names.lookup x = some .local := by first | exact .inl rfl | exact .inr rfl | assumption) :
    SD X E (.Assign [.Name x pos'] (.Name y p2) pos) (sMov i j) := PS_imp (ps_set hN hi hx he hs hf) fun D σ H ⟨B, Z0, Z, ρ, o, x, e, k⟩ => by
  unfold sMov at e
  by_cases c : i = j
  · rw [if_pos c] at e; cases e
  · rw [if_neg c] at e
    have hs : get ρ j ≠ .un := fun q => by rw [q] at e; cases e
    have e' : o = .nx (put (put ρ j .un) i (get ρ j)) := by
      cases q : get ρ j <;> rw [q] at e <;> cases e <;> first | rfl | exact absurd q hs
    subst e'
    obtain ⟨v, hv, x'⟩ := x.mov c rfl hs
    exact ⟨v, hv, k Z _ H x'⟩
/-! ### comprehensions -/
def lcD (g : GF) (t : SEnv → Option Bool) (e : SEnv → Option Sl) : List D → SEnv → Option (List D)
  | [], _ => some []
  | d :: ds, ρ => match g d ρ with
    | none => none
    | some ρ1 => match t ρ1 with
      | none => none
      | some false => lcD g t e ds ρ
      | some true => match (e ρ1).bind toD, lcD g t e ds ρ with
        | some y, some r => some (y :: r)
        | _, _ => none
def eLc (src : SEnv → Option (List D)) (is : List Nat) (g : GF) (t : SEnv → Option Bool) (e : SEnv → Option Sl) : SEnv → Option Sl := fun ρ => match src ρ with
  | some ds => if ds.length ≤ 100000 then (lcD g t e ds (wipe1 ρ is)).map .own else none
  | none => none
def tYesD : SEnv → Option Bool := fun _ => some true
theorem td_yes : PTs X [] (TR X.K tYesD) := ⟨fun pins s σ H Q I h => pts_nil.run pins s σ H Q I (by obtain ⟨B, Z0, Z, ρ, b, x, e, k⟩ := h; cases e; exact k Z H (Step.refl x.zh))⟩
theorem td_ifs {c : Expr} {t : SEnv → Option Bool} (h : TD X c t) : PTs X [c] (TR X.K t) := pts_one h
/-- how a raw target stores an item: the slots of is alone -/
structure TgtD (K : PySem.W.Frag) (is : List Nat) (g : TG) (f : GF) : Prop where
  run : ∀ {B Z0 Z H : Hp} {σ : L2.St} {ρ ρ' : SEnv} {v : V} {d : D} {Q : L2.St → Hp → Prop}, St K B Z0 Z H σ ρ → Dp K Z v d → f d ρ = some ρ' → (∀ σ', St K B Z0 Z H σ' ρ' → L2.wipe σ' is = L2.wipe σ is → Q σ' H) → g v σ H Q
theorem wipe_set {is : List Nat} : ∀ {σ : L2.St} {i : Nat} {o : Option V}, i ∈ is → L2.wipe (σ.set i o) is = L2.wipe σ is := by
  induction is with
  | nil => intro _ _ _ h; cases h
  | cons j r ih =>
    intro σ i o h
    show (L2.wipe (σ.set i o) r).set j none = (L2.wipe σ r).set j none
    by_cases c : i ∈ r
    · rw [ih c]
    · have e : i = j := by
        rcases List.mem_cons.mp h with z | z
        · exact z
        · exact absurd z c
      subst e
      have : ∀ (is : List Nat) (σ : L2.St), i ∉ is → L2.wipe (σ.set i o) is = (L2.wipe σ is).set i o := by
        intro is
        induction is with
        | nil => intro _ _; rfl
        | cons l m ihm =>
          intro σ hn
          show (L2.wipe (σ.set i o) m).set l none = ((L2.wipe σ m).set l none).set i o
          rw [ihm σ (fun q => hn (List.mem_cons_of_mem _ q))]
          exact List.set_comm _ _ (fun z => hn (by rw [z]; exact List.mem_cons_self ..))
      rw [this r σ c, List.set_set]
theorem wipe_wipe {is : List Nat} (σ : L2.St) : ∀ js : List Nat, (∀ j ∈ js, j ∈ is) → L2.wipe (L2.wipe σ js) is = L2.wipe σ is
  | [], _ => rfl
  | j :: r, h => by
    show L2.wipe ((L2.wipe σ r).set j none) is = _
    rw [wipe_set (h j (List.mem_cons_self ..))]
    exact wipe_wipe σ r fun l q => h l (List.mem_cons_of_mem _ q)
theorem tgt_name {K : PySem.W.Frag} {is : List Nat} {i : Nat} (h : i ∈ is) : TgtD K is (gName i) (gPut i) := ⟨fun x hd e k => by
  cases e
  exact k _ (x.setD i hd) (wipe_set h)⟩
theorem tgt_tup2 {K : PySem.W.Frag} {is : List Nat} {i j : Nat} (hi : i ∈ is) (hj : j ∈ is) : TgtD K is (gTup K 2 (gCons (gName i) (gCons (gName j) gNil))) (gTupF 2 (gsCons i (gsCons j gsNil))) := ⟨fun {B Z0 Z H σ ρ ρ' v d Q} x hd e k => by
  cases d with
  | tuple ds =>
    change (if ds.length = 2 then _ else none) = some ρ' at e
    by_cases c : ds.length = 2
    · rw [if_pos c] at e
      obtain ⟨p, vs, rfl, hq, ha⟩ := titems_ok hd
      refine ⟨p, vs, rfl, sqT_mono x.zh hq, by rw [DpAll_length ha]; exact c, ?_⟩
      cases ha with
      | nil => exact absurd c (by decide)
      | cons r1 t1 =>
        cases t1 with
        | nil => exact absurd c (by simp)
        | cons r2 t2 =>
          cases t2 with
          | cons _ _ => exact absurd c (by simp)
          | nil =>
            have e2 : ρ' = put (put ρ i (.pl _)) j (.pl _) := (Option.some.inj e).symm
            subst e2
            exact ⟨_, _, rfl, _, _, rfl, rfl, k _ ((x.setD i r1).setD j r2) (by rw [wipe_set hj, wipe_set hi])⟩
    · rw [if_neg c] at e; cases e
  | _ => cases e⟩
theorem lc_reading {K : PySem.W.Frag} {wi : TI} {src : SEnv → Option (List D)} {is : List Nat} {g : TG} {gf : GF} {t : SEnv → Option Bool} {e : SEnv → Option Sl} (hw : wi = CR K src) (hg : TgtD K is g gf) {σ : L2.St} {H : Hp} {Q : VK} (h : ER K (eLc src is gf t e) σ H Q) : tLc wi g (TR K t) (ER K e) is σ H Q := by
  subst hw
  obtain ⟨B, Z0, Z, ρ, s, x, ee, k⟩ := h
  unfold eLc at ee
  cases q : src ρ with
  | none => rw [q] at ee; cases ee
  | some ds =>
    rw [q] at ee
    by_cases hz : ds.length ≤ 100000
    · simp only [if_pos hz] at ee
      cases ql : lcD gf t e ds (wipe1 ρ is) with
      | none => rw [ql] at ee; cases ee
      | some all =>
        rw [ql] at ee
        cases ee
        refine ⟨B, Z0, Z, ρ, ds, x, q, fun J G Y Z' H' k' w Dl hDl => ?_⟩
        have hZ'Dl : Z' Dl = none := none_back k'.zh hDl
        refine lc_it w.w (fun i H2 => ∃ Z2 acc ads r, H2 Dl = some (.lst acc) ∧ DpAll K Z2 acc ads ∧ Z2 Dl = none ∧ StepB H' Z' Z2 H2 ∧ lcD gf t e (ds.drop i) (wipe1 ρ is) = some r ∧ ads ++ r = all ∧ acc.length ≤ i) ?_ ?_ ?_ ?_
        · exact ⟨Z', [], [], all, upd_same, .nil, hZ'Dl, Step.newH k'.zh hDl, by rw [List.drop_zero]; exact ql, rfl, Nat.zero_le _⟩
        · rintro i H2 _ ⟨Z2, acc, ads, r, h1, h2, h3, h4, h5, h6, h7⟩
          exact w.stays H2 h4.bh (h4.zz.trans h4.zh)
        · rintro i v H2 H3 hi ⟨Z2, acc, ads, r, h1, h2, h3, h4, h5, h6, h7⟩ y
          obtain ⟨d, hd⟩ : ∃ d, ds[i]? = some d := ⟨ds[i], List.getElem?_eq_getElem hi⟩
          obtain ⟨Z3, k3, r3⟩ := w.gives i Z2 H2 v H3 d hd h4.zz h4.zh y
          have hdrop : ds.drop i = d :: ds.drop (i + 1) := by
            rw [List.drop_eq_getElem_cons hi]
            rw [List.getElem?_eq_getElem hi] at hd
            cases hd
            rfl
          rw [hdrop] at h5
          unfold lcD at h5
          have kH : StepB H' Z' Z3 H3 := h4.trans k3
          have x3 : St K B Z0 Z3 H3 (L2.wipe σ is) (wipe1 ρ is) := by
            have := ((x.step k').step (show Step Z' H' Z3 H3 from kH))
            exact this.wipes is
          cases qg : gf d (wipe1 ρ is) with
          | none => rw [qg] at h5; cases h5
          | some ρ1 =>
            rw [qg] at h5
            refine hg.run x3 r3 qg fun σ2 x4 hws => ?_
            refine ⟨by rw [hws, wipe_wipe σ is fun _ h => h], ?_⟩
            have stay : ∀ {Z4 H4 : Hp}, Step Z2 H2 Z4 H4 → H4 Dl = some (.lst acc) ∧ Z4 Dl = none := fun {Z4 H4} k4 => by
              refine ⟨k4.bh _ _ h1, ?_⟩
              cases c : Z4 Dl with
              | none => rfl
              | some o =>
                rcases k4.gr Dl (by rw [c]; intro z; cases z) with z | z
                · exact absurd h3 z
                · rw [h1] at z; cases z
            cases qt : t ρ1 with
            | none => simp only [qt] at h5; cases h5
            | some bb =>
              refine tr1 x4 qt fun Z4 H4 k4 => ?_
              have k24 : Step Z2 H2 Z4 H4 := k3.trans k4
              cases bb with
              | false =>
                simp only [qt] at h5
                exact iteF ⟨Z4, acc, ads, r, (stay k24).1, DpAll_mono k24.zz _ _ h2, (stay k24).2, h4.trans k24, h5, h6, by omega⟩
              | true =>
                simp only [qt] at h5
                refine iteT ?_
                cases qe : e ρ1 with
                | none => rw [qe] at h5; simp only [Option.bind] at h5; cases h5
                | some sv =>
                  rw [qe] at h5
                  cases qd : toD sv with
                  | none => simp only [Option.bind, qd] at h5; cases h5
                  | some yd =>
                    cases qr : lcD gf t e (ds.drop (i + 1)) (wipe1 ρ is) with
                    | none => simp only [Option.bind, qd, qr] at h5; cases h5
                    | some r' =>
                      simp only [Option.bind, qd, qr] at h5
                      cases h5
                      refine er1 (x4.step k4) qe fun y Z5 H5 k5 r5 => ?_
                      obtain ⟨Z6, k6, zz6, r6⟩ := toD_ok k5 r5 qd
                      have k26 : Step Z2 H2 Z6 H5 := k24.trans k6
                      have s26 := stay k26
                      refine ⟨acc, s26.1, by rw [sizeLine_eq]; omega, Z6, acc ++ [y], ads ++ [yd], r', upd_same, DpAll_append (DpAll_mono k26.zz _ _ h2) (.cons r6 .nil), s26.2, ?_, rfl, by rw [List.append_assoc]; exact h6, by rw [List.length_append]; simp; omega⟩
                      have k' := h4.trans k26
                      refine ⟨fun b u eb => ?_, k'.zz, fun b u eb => ?_, k'.gr⟩
                      · rw [upd_ne (ne_of_none eb hDl)]; exact k'.bh b u eb
                      · rw [upd_ne (ne_of_none eb s26.2)]; exact k'.zh b u eb
        · rintro H2 ⟨Z2, acc, ads, r, h1, h2, h3, h4, h5, h6, h7⟩
          rw [List.drop_length] at h5
          cases h5
          rw [List.append_nil] at h6
          subst h6
          have kk : Step Z H Z2 H2 := k'.trans h4
          refine k _ Z2 H2 kk ⟨[Dl], ⟨Dl, acc, rfl, rfl, h1, h2⟩, fun a ha => ?_⟩
          rw [List.mem_singleton.mp ha]
          exact ⟨none_back k'.bh hDl, h3⟩
    · simp only [if_neg hz] at ee; cases ee
theorem pd_lc {elt tg iter : Expr} {ifs : List Expr} {scope : Scope} {own : List (Str × Nat)} {pos : Pos} {src : SEnv → Option (List D)} {g : TG} {gf : GF} {t : SEnv → Option Bool} {e : SEnv → Option Sl} (hc : X.calm = true) (hN : X.N.Nodup) (hi : CD X tg iter src) (ok : BlkOk X.N X.env.scope scope own) (ht : TgtD X.K (own.map (·.2)) g gf)
    (hg : ∀ (s : Shared) (H : Hp) (C : Addr) (cl : List (Str × Addr)) (fp : List Addr), PG (X.blk s H scope (compEnvC scope cl C X.env) fp) tg g)
    (hts : ∀ (s : Shared) (H : Hp) (C : Addr) (cl : List (Str × Addr)) (fp : List Addr), PTs (X.blk s H scope (compEnvC scope cl C X.env) fp) ifs (TR X.K t))
    (he : ∀ (s : Shared) (H : Hp) (C : Addr) (cl : List (Str × Addr)) (fp : List Addr), PE (X.blk s H scope (compEnvC scope cl C X.env) fp) elt (ER X.K e))
    (hf : ∀ x, foldedSetIterable iter X.env x = pure x := by intro _; rfl) : PD X (.ListComp elt [⟨tg, iter, ifs, 0⟩] scope pos) (eLc src (own.map (·.2)) gf t e) :=
  PE_imp (pe_lc hc hN hi ok hg hts he hf) fun σ H Q h => lc_reading rfl ht h
theorem sd_setLc {i : Nat} {y : Str} {py : Pos} {elt tg iter : Expr} {ifs : List Expr} {scope : Scope} {own : List (Str × Nat)} {pos spos : Pos} {src : SEnv → Option (List D)} {g : TG} {gf : GF} {t : SEnv → Option Bool} {e : SEnv → Option Sl} (hc : X.calm = true) (hN : X.N.Nodup) (hy : X.N[i]? = some y) (hyl : X.env.scope.names.lookup y = some .local)
    (hsw : swapsWith (.ListComp elt [⟨tg, iter, ifs, 0⟩] scope pos) (some (.Name y py)) spos.line X.env = pure true) (hi : CD X tg iter src) (ok : BlkOk X.N X.env.scope scope own) (ht : TgtD X.K (own.map (·.2)) g gf)
    (hg : ∀ (s : Shared) (H : Hp) (C : Addr) (cl : List (Str × Addr)) (fp : List Addr), PG (X.blk s H scope (compEnvC scope cl C X.env) fp) tg g)
    (hts : ∀ (s : Shared) (H : Hp) (C : Addr) (cl : List (Str × Addr)) (fp : List Addr), PTs (X.blk s H scope (compEnvC scope cl C X.env) fp) ifs (TR X.K t))
    (he : ∀ (s : Shared) (H : Hp) (C : Addr) (cl : List (Str × Addr)) (fp : List Addr), PE (X.blk s H scope (compEnvC scope cl C X.env) fp) elt (ER X.K e))
    (hf : ∀ x, foldedSetIterable iter X.env x = pure x := by intro _; rfl) : SD X E (.Assign [.Name y py] (.ListComp elt [⟨tg, iter, ifs, 0⟩] scope pos) spos) (sAsg i (eLc src (own.map (·.2)) gf t e)) :=
  PS_imp (ps_setLc hc hN hy hyl hsw hi ok hg hts he hf) fun D σ H hw => asg_core (fun σ H Q h => lc_reading rfl ht h) hw
end
end DL

set_option Elab.async false
set_option linter.all false
set_option maxRecDepth 100000
set_option maxHeartbeats 1000000
/-! DLE: enumerate of a tuple. -/
namespace PySem
open Sem (wp)
open AutoSeq1 (wpAny_loadPart')
theorem enumT_new (l : Addr) (items : Array Value) (n : Nat) (dct : Option Addr) (sl : Array (Option Value)) :
    Meets (Builtin.«enumerate.__new__» ⟨[.type "enumerate", .ref l], []⟩) (fun _ R s => s.heap.get? l = some { cls := .type "tuple", dict := dct, data := .seq items n, slots := sl } ∧
      R (.ok (.ret (.ref (s.heap.push { cls := .type "tuple_iterator", data := .fields #[.ref l, .int 0 0] }).objs.size)))
        { s with heap := (s.heap.push { cls := .type "tuple_iterator", data := .fields #[.ref l, .int 0 0] }).push { cls := .type "enumerate", data := .fields #[.none, .bool false, .ref s.heap.objs.size, rawInt 0, .none, .none] } }) :=
  .of_wp fun prog w A R s h => by
    obtain ⟨hp, g, d, tk, os⟩ := s; obtain ⟨hl, h⟩ := h
    have hsub := sub_enumerate
    have hL : Heap.IsTuple (Shared.heap ⟨hp, g, d, tk, os⟩) l items := ⟨_, hl, rfl, n, rfl⟩
    wp_walk
    refine wpAny_stack_any fun st => wpAny_pure ?_
    split
    · rename_i c _ _ _ _ _
      cases (c == Value.type "enumerate")
      · wp_walk using wpAny_pyIter_tuple hL
        exact ⟨_, rfl, h⟩
      · wp_walk using wpAny_pyIter_tuple hL
        exact ⟨_, rfl, h⟩
    · wp_walk using wpAny_pyIter_tuple hL
      exact ⟨_, rfl, h⟩
section
variable {prog : Program} {w : World} {A : Around} {E : Value → Shared → Prop} {s : Shared}
theorem call_enumT {l : Addr} {items : Array Value} {Q : Value → Shared → Prop} (hL : s.heap.IsTuple l items)
    (h : ∀ h', IsEnum h' (s.heap.objs.size + 1) s.heap.objs.size 0 .none → h'.IsTupleIter s.heap.objs.size l 0 → h'.objs.size = s.heap.objs.size + 2 →
      (∀ b o, s.heap.get? b = some o → h'.get? b = some o) → Q (.ref (s.heap.objs.size + 1)) { s with heap := h' }) :
    wpAny (model prog w) A (call (.type "enumerate") [.ref l]) Q E s := by
  obtain ⟨⟨c, dct, dt, sl⟩, hl, hc, n, hd⟩ := hL
  replace hc : c = .type "tuple" := hc
  replace hd : dt = .seq items n := hd
  subst hc hd
  refine callType_new F.called_enumerate (by decide) (F.typeCall_enumerate_1 _) (F.newCall_enumerate_1 _) (fun obj => F.args_object_init_2 obj _) F.entry_enumerate_new
    (enumT_new l items n dct sl) ⟨hl, ?_⟩
  have hz : (s.heap.push { cls := .type "tuple_iterator", data := .fields #[.ref l, .int 0 0] }).objs.size = s.heap.objs.size + 1 := Heap.size_push ..
  show _ ∧ _
  rw [hz]
  have he : IsEnum ((s.heap.push { cls := .type "tuple_iterator", data := .fields #[.ref l, .int 0 0] }).push
      { cls := .type "enumerate", data := .fields #[.none, .bool false, .ref s.heap.objs.size, rawInt 0, .none, .none] }) (s.heap.objs.size + 1) s.heap.objs.size 0 .none := by
    have := Heap.get?_push_size (s.heap.push { cls := .type "tuple_iterator", data := .fields #[.ref l, .int 0 0] })
      (o := { cls := .type "enumerate", data := .fields #[.none, .bool false, .ref s.heap.objs.size, rawInt 0, .none, .none] }) rfl
    rw [hz] at this; exact this
  refine ⟨⟨_, he, rfl⟩, h _ he ⟨_, Heap.get?_push_of_some _ (Heap.get?_push_size _ rfl), rfl, rfl⟩ (by rw [Heap.size_push, hz]) fun b o x => Heap.get?_push_of_some _ (Heap.get?_push_of_some _ x)⟩
end
end PySem
namespace L2
open PySem PySem.Spec PyProof.Rows
/-- the tuple at a, each item in a new pair -/
def ItU (K : PySem.W.Frag) (a : Addr) : It :=
  ⟨fun i H => ∃ (xs : List V) (x : V), SqT K H a xs ∧ xs[i]? = some x, fun i H v H' => ∃ T x, v = .ref T ∧ H T = none ∧ H' = upd H T (.tup [.int (i : Nat), x]) ∧ ∀ xs, SqT K H a xs → xs[i]? = some x, fun i H => ∃ xs : List V, SqT K H a xs ∧ xs.length = i⟩
theorem turn_enumU {P : Program} {w : World} {K : PySem.W.Frag} {elts : List Expr} {kk : Nat} {tpos : Pos} (a e it : Addr) :
    Turn P w K (.Tuple elts kk tpos) (ItU K a) [e, it] e (fun i h => (∃ old, IsEnum h e it ((i : Nat) : Int) old) ∧ h.IsTupleIter it a i ∧ e ≠ it) where
  mem := by simp
  obj := fun i h st b hb => by
    obtain ⟨⟨old, he⟩, ⟨o, ho, hc, hd⟩, _⟩ := st
    have e' : b = e ∨ b = it := by simpa using hb
    rcases e' with z | z
    · rw [z]; exact ⟨_, he, fun v q => nomatch q⟩
    · rw [z]; exact ⟨o, ho, fun v q => by rw [hd] at q; cases q⟩
  keep := fun i h h' st k => let ⟨⟨old, he⟩, hi, hne⟩ := st; ⟨⟨old, k e (by simp) _ he⟩, hi.at fun o q => k it (by simp) o q, hne⟩
  item := by
    intro X hP hw hK hc i pins s σ H E I hf st hg
    subst hP hw hK
    obtain ⟨⟨old, he⟩, hit, hne⟩ := st
    obtain ⟨xs, x, hq, hx⟩ := hg
    obtain ⟨its, rv, p, hz⟩ := I.tuple hq
    obtain ⟨u, hu, ru⟩ := rv.get hx
    have hel : e < s.heap.objs.size := Heap.lt_size he
    have hil : it < s.heap.objs.size := by obtain ⟨_, q, _⟩ := hit; exact Heap.lt_size q
    have pT : s.heap.IsTuple a its.toArray := p
    have hait : a ≠ it := by
      intro z
      subst z
      obtain ⟨o, ho, hc1, _⟩ := id pT
      obtain ⟨o2, ho2, hc2, _⟩ := id hit
      rw [ho] at ho2
      cases ho2
      rw [hc1] at hc2
      injection hc2 with z
      exact absurd z (by decide)
    have hae : e ≠ a := by
      intro z
      subst z
      obtain ⟨o, ho, hc1, _⟩ := id pT
      rw [show s.heap.get? e = _ from he] at ho
      cases ho
      injection hc1 with z
      exact absurd z (by decide)
    refine wpAny_pyNext_enum_itemD (Draws.tuple (prog := X.prog) (w := X.w) (A := X.A.in1) (I.ok.hd hc) it a hait its.toArray) he ⟨hit, pT⟩ (by have := (List.getElem?_eq_some_iff.mp hu).1; simpa using this) hne (by simp [hne, hae]) fun y h' tk hy ho hst' hT hsz hk => ?_
    obtain ⟨hit', _⟩ := hst'
    have ey : y = u := by
      have hy' : its[i]? = some y := by simpa using hy
      rw [hu] at hy'
      exact (Option.some.inj hy').symm
    subst ey
    refine ⟨_, rfl, wpAny_letOwnedTupleGo_enum (s := { s with heap := h', toks := tk + 1 }) ho fun h'' he' sb => ?_⟩
    have hT2 : h''.get? s.heap.objs.size = some { cls := .type "tuple", data := .seq #[.int i tk, y] } := (sb.2 _ (Nat.ne_of_gt hel)).trans hT
    have new : ObjOk X.prog X.w (upd H s.heap.objs.size (.tup [.int (i : Nat), x])) h'' s.heap.objs.size (.tup [.int (i : Nat), x]) :=
      ⟨by show 2 ≤ sizeLine; decide, [.int i tk, y], .cons ⟨_, rfl⟩ (.cons ru .nil), ⟨_, hT2, rfl, _, rfl⟩⟩
    have I1 : Inv X pins σ (upd H s.heap.objs.size (.tup [.int (i : Nat), x])) { s with heap := h'', toks := tk + 1 } :=
      I.turnedNew (ch := [e, it]) (fun b ob hb q => (sb.2 b (fun z => hb (by simp [z]))).trans (hk b ob (fun z => hb (by simp [z])) (fun z => hb (by simp [z])) q)) hf (Nat.le_refl _) new
    refine ⟨.ref s.heap.objs.size, _, I1, rfl, ⟨_, x, rfl, I.hok.fresh (Nat.le_refl _), rfl, fun ys hy => by rw [I.tuple_inj hy hq]; exact hx⟩, ⟨⟨y, ?_⟩, hit'.at fun o q => (sb.2 it (Ne.symm hne)).trans q, hne⟩, fun b hb => ?_⟩
    · have e1 : ((i + 1 : Nat) : Int) = (i : Int) + 1 := by omega
      rw [e1]; exact he'
    · have hb' : b < s.heap.objs.size := by
        have e' : b = e ∨ b = it := by simpa using hb
        rcases e' with z | z
        · rw [z]; exact hel
        · rw [z]; exact hil
      rw [upd_ne (Nat.ne_of_lt hb')]
      exact (hf b hb).1
  done := by
    intro X hP hw hK hc i pins s σ H E I hf st hg
    subst hP hw hK
    obtain ⟨⟨old, he⟩, hit, hne⟩ := st
    obtain ⟨xs, hq, hx⟩ := hg
    obtain ⟨its, rv, p, hz⟩ := I.tuple hq
    obtain ⟨f0, f1, f2, f3, f4, f5⟩ := hf it (by simp)
    have hl := rv.length
    have pT : s.heap.IsTuple a its.toArray := p
    have hait : a ≠ it := by
      intro z
      subst z
      obtain ⟨o, ho, hc1, _⟩ := id pT
      obtain ⟨o2, ho2, hc2, _⟩ := id hit
      rw [ho] at ho2
      cases ho2
      rw [hc1] at hc2
      injection hc2 with z
      exact absurd z (by decide)
    have hn : its.toArray.size = i := by simp; omega
    exact wpAny_pyNext_enum_endD (Draws.tuple (prog := X.prog) (w := X.w) (A := X.A.in1) (I.ok.hd hc) it a hait its.toArray) he (by rw [hn]; exact ⟨hit, pT⟩) fun h' eb => ⟨rfl, I.turned (t' := s.toks) (fun b o hb q => eb b o hb q) f0 f1 f3 f4 f5⟩
  self := fun A i s Q E st h => let ⟨⟨_, he⟩, _⟩ := st; wpAny_pyIter_enum he h
def iEnumU (K : PySem.W.Frag) (ta : TA) : TI := fun σ H R => ta σ H fun vs H1 => ∃ a xs, vs = [.ref a] ∧ SqT K H1 a xs ∧ R (ItU K a) H1
theorem pi_enumU {X : Cx} {e : Expr} {ta : TA} {p pos tpos : Pos} {elts : List Expr} {kk : Nat} (hg : Gl X "enumerate") (hm : X.mg "enumerate" = none) (ha : PA X [e] ta) (hs : starEach [e] X.env = [(false, eval e X.env)] := by rfl) :
    PI X (.Tuple elts kk tpos) (.Call (.Name "enumerate" p) [e] [] pos) (iEnumU X.K ta) := by
  refine ⟨fun pins s σ H R I h => ?_⟩
  refine Call_ (ld_blt I hg hm boot_enumerate (PyProof.Rows.callWith_type1 (thn (ha.run pos pins s σ H _ I h) fun us s1 ⟨vs, H1, I1, r1, q1⟩ => ?_) hs rfl))
  obtain ⟨a, xs, ex, hq, q⟩ := q1
  subst ex
  cases r1 with
  | cons r rr =>
    cases rr
    cases r
    obtain ⟨its, rv, p', hz⟩ := I1.tuple hq
    refine call_enumT (show s1.heap.IsTuple a its.toArray from p') fun h' he hit hsz hk => wpAny_pyIter_enum he ?_
    have I2 : Inv X pins σ H1 { s1 with heap := h' } := I1.kept (t' := s1.toks) hk
    refine ⟨s1.heap.objs.size + 1, [s1.heap.objs.size + 1, s1.heap.objs.size], _, _, H1, rfl, I2, turn_enumU a (s1.heap.objs.size + 1) s1.heap.objs.size, ⟨⟨.none, he⟩, hit, Nat.succ_ne_self _⟩, fun b hb => ?_, q⟩
    have e' : b = s1.heap.objs.size + 1 ∨ b = s1.heap.objs.size := by simpa using hb
    have hle : s1.heap.objs.size ≤ b := by
      rcases e' with z | z
      · rw [z]; exact Nat.le_add_right _ _
      · rw [z]; exact Nat.le_refl _
    exact I1.fpOk hle (I1.hok.fresh hle)
theorem walk_enumU {K : PySem.W.Frag} {a : Addr} {xs : List V} : Walk (ItU K a) xs.length (fun H => SqT K H a xs) (YPair (fun i => some (.int (i : Nat))) (fun i => xs[i]?)) := by
  refine ⟨fun i _ hi q => ⟨xs, xs[i], q, by simp [hi]⟩, fun _ q => ⟨xs, q, rfl⟩, fun i H v H' _ q y => ?_⟩
  obtain ⟨T, x, h1, h2, h3, h4⟩ := y
  exact ⟨T, .int (i : Nat), x, h1, h2, h3, rfl, h4 xs q⟩
end L2

set_option Elab.async false
set_option linter.all false
set_option maxRecDepth 100000
set_option maxHeartbeats 1000000
/-! DL6: enumerate, zip, lists changed, calls of defs, a def by its body. -/
namespace DL
open PySem PySem.Spec PyProof.Rows L2
section
variable {X : Cx} {E : XK}
/-! ### pairs -/
theorem pair_gives {K : PySem.W.Frag} {Zs : Hp} {f g : Nat → Option V} {ds : List D} {df dg : Nat → D} (hds : ∀ (i : Nat) (d : D), ds[i]? = some d → d = PyData.tuple [df i, dg i])
    (hf : ∀ i v, i < ds.length → f i = some v → Dp K Zs v (df i)) (hg : ∀ i v, i < ds.length → g i = some v → Dp K Zs v (dg i))
    (i : Nat) (Z H : Hp) (x : V) (H' : Hp) (d : D) (e : ds[i]? = some d) (hz : Same Zs Z) (zh : Same Z H) (y : YPair f g i H x H') : ∃ Z', Step Z H Z' H' ∧ Dp K Z' x d := by
  obtain ⟨T, a, b, rfl, hT, rfl, ha, hb⟩ := y
  have hi := (List.getElem?_eq_some_iff.mp e).1
  have := hds i d e
  subst this
  obtain ⟨k, r⟩ := Dp_newT zh hT (DpAll.cons (Dp_mono hz _ _ (hf i a hi ha)) (DpAll.cons (Dp_mono hz _ _ (hg i b hi hb)) DpAll.nil))
  exact ⟨_, k, r⟩
def enumD (ds : List D) : List D := ds.zipIdx.map fun p => .tuple [.int (p.2 : Nat), p.1]
theorem enumD_length (ds : List D) : (enumD ds).length = ds.length := by simp [enumD]
theorem enumD_get {ds : List D} {i : Nat} {d : D} (h : (enumD ds)[i]? = some d) : d = .tuple [.int (i : Nat), ds.getD i .none] := by
  unfold enumD at h
  rw [List.getElem?_map, List.getElem?_zipIdx] at h
  cases q : ds[i]? with
  | none => rw [q] at h; cases h
  | some z =>
    rw [q] at h
    cases h
    have : ds.getD i .none = z := by simp [List.getD, q]
    rw [this]
    simp
theorem getD_of {ds : List D} {i : Nat} {d : D} (h : ds[i]? = some d) : ds.getD i .none = d := by simp [List.getD, h]
theorem enum_walk {K : PySem.W.Frag} {B Zs : Hp} {J : It} {G : Hp → Prop} {vs : List V} {ds : List D} (hd : DpAll K Zs vs ds) (w : Walk J vs.length G (YPair (fun i => some (.int (i : Nat))) (fun i => vs[i]?))) (hs : ∀ H, Same B H → Same Zs H → G H) : WalkD K B Zs J (enumD ds) G (YPair (fun i => some (.int (i : Nat))) (fun i => vs[i]?)) :=
  ⟨by rw [enumD_length, ← DpAll_length hd]; exact w, hs, pair_gives (df := fun i => .int (i : Nat)) (dg := fun i => ds.getD i .none) (fun i d h => enumD_get h) (fun i v _ h => by cases h; exact .int _) (fun i v _ h => by
    obtain ⟨d, e, r⟩ := DpAll_get' hd h
    rw [getD_of e]
    exact r)⟩
def enT (f : SEnv → Option Sl) : SEnv → Option (List D) := fun ρ => match f ρ with
  | some (.pl (.tuple ds)) => some (enumD ds)
  | _ => none
def enL (f : SEnv → Option Sl) : SEnv → Option (List D) := fun ρ => match f ρ with
  | some (.pl (.list ds)) => some (enumD ds)
  | _ => none
theorem ar_one {f : SEnv → Option Sl} {B Z0 Z H : Hp} {σ : L2.St} {ρ : SEnv} {d : D} {Q : List V → Hp → Prop} (x : St X.K B Z0 Z H σ ρ) (q : f ρ = some (.pl d)) (k : ∀ v Z' H', Step Z H Z' H' → Dp X.K Z' v d → Q [v] H') : AR X.K (aCons f aNil) σ H Q := by
  refine ⟨B, Z0, Z, ρ, [.pl d], x, by unfold aCons aNil; rw [q]; rfl, fun vs Z' H' k' r => ?_⟩
  match vs, r with
  | [v], r =>
    obtain ⟨_, y, e, hd⟩ := r.1
    cases e
    exact k v Z' H' k' hd
  | _ :: _ :: _, r => exact r.2.elim
theorem ld_enumT {e : Expr} {f : SEnv → Option Sl} {p pos tpos : Pos} {elts : List Expr} {kk : Nat} (hg : Gl X "enumerate") (hm : X.mg "enumerate" = none) (he : PD X e f) (hs : starEach [e] X.env = [(false, eval e X.env)] := by rfl) : LD X (.Tuple elts kk tpos) (.Call (.Name "enumerate" p) [e] [] pos) (enT f) :=
  PI_imp (pi_enumU hg hm (ad_cons he ad_nil hs) hs) fun σ H R ⟨B, Z0, Z, ρ, ds, x, e, k⟩ => by
    unfold enT at e
    split at e
    · rename_i es q
      cases e
      refine ar_one x q fun v Z' H' k' hd => ?_
      obtain ⟨a, vs, rfl, hq, ha⟩ := titems_ok hd
      exact ⟨a, vs, rfl, sqT_mono k'.zh hq, k _ _ _ Z' H' k' (enum_walk ha walk_enumU fun H2 _ b => sqT_mono b hq)⟩
    · cases e
theorem ld_enumL {e : Expr} {f : SEnv → Option Sl} {p pos tpos : Pos} {elts : List Expr} {kk : Nat} (hg : Gl X "enumerate") (hm : X.mg "enumerate" = none) (he : PD X e f) (hs : starEach [e] X.env = [(false, eval e X.env)] := by rfl) : LD X (.Tuple elts kk tpos) (.Call (.Name "enumerate" p) [e] [] pos) (enL f) :=
  PI_imp (pi_enum hg hm (ad_cons he ad_nil hs) hs) fun σ H R ⟨B, Z0, Z, ρ, ds, x, e, k⟩ => by
    unfold enL at e
    split at e
    · rename_i es q
      cases e
      refine ar_one x q fun v Z' H' k' hd => ?_
      cases hd with
      | lst hq ha => exact ⟨_, _, rfl, k'.zh.seq hq, k _ _ _ Z' H' k' (enum_walk ha walk_enum fun H2 _ b => b.seq hq)⟩
    · cases e

/-! ### lists changed -/
theorem St.mut {K : PySem.W.Frag} {B Z0 Z H : Hp} {σ : L2.St} {ρ : SEnv} (x : St K B Z0 Z H σ ρ) {i : Nat} {ds : List D} (e : get ρ i = .own ds) : ∃ p vs, σ[i]? = some (some (.ref p)) ∧ H p = some (.lst vs) ∧ DpAll K Z vs ds ∧
    ∀ {Z' H' : Hp}, Step Z H Z' H' → H' p = some (.lst vs) ∧ ∀ vs' ds', DpAll K Z' vs' ds' → St K B Z0 Z' (upd H' p (.lst vs')) σ (put ρ i (.own ds')) := by
  obtain ⟨st, len, fp, h1, h2, h3⟩ := id x
  have hi := h1 i
  rw [e] at hi
  obtain ⟨p, vs, ef, hv, hp, hd⟩ := hi
  refine ⟨p, vs, look_some hv, hp, hd, fun {Z' H'} k => ⟨k.bh _ _ hp, fun vs' ds' hd' => ?_⟩⟩
  have y := x.step k
  have hB : B p = none := (h3 i p (by rw [ef]; simp)).1
  have hil : i < ρ.length := by
    by_cases c : i < ρ.length
    · exact c
    · rw [get_out _ _ (by omega)] at e; cases e
  have hZ : ∀ j a, a ∈ fp j → Z' a = none := fun j a ha => by
    cases q : Z' a with
    | none => rfl
    | some o =>
      rcases k.gr a (by rw [q]; intro z; cases z) with z | z
      · exact absurd (h3 j a ha).2 z
      · exact absurd z ((h1 j).live a ha)
  have hZp : Z' p = none := hZ i p (by rw [ef]; simp)
  have st' : StepB B Z0 Z' (upd H' p (.lst vs')) := by
    refine ⟨fun b u eb => ?_, y.st.zz, fun b u eb => ?_, y.st.gr⟩
    · rw [upd_ne (ne_of_none eb hB)]; exact y.st.bh b u eb
    · rw [upd_ne (ne_of_none eb hZp)]; exact y.st.zh b u eb
  have := St.sets (K := K) (σ := σ) (ρ := ρ) (i := i) (s := .own ds') (o := look σ i) (fpn := [p]) (fp := fp) st' len (fun j hj => (h1 j).mono (Same.refl B) k.zz fun a ha => ?_) (fun j l a _ _ => h2 j l a) (fun j a _ ha => ⟨(h3 j a ha).1, hZ j a ha⟩)
    ⟨p, vs', rfl, hv, upd_same, hd'⟩ (fun a ha => by rw [List.mem_singleton.mp ha]; exact ⟨hB, hZp⟩) (fun j a hj ha q => h2 j i a hj q (by rw [ef]; exact ha)) hil
  · rw [set_look (by rw [len]; exact hil)] at this
    exact this
  · have hne : a ≠ p := fun z => h2 j i a hj ha (by rw [ef, z]; simp)
    rw [upd_ne hne]
    cases q : H a with
    | none => exact absurd q ((h1 j).live a ha)
    | some o => exact k.bh a o q
/-- xs.append(e) -/
def sApp (i : Nat) (f : SEnv → Option Sl) : SEnv → Option Out := fun ρ => match get ρ i, (f ρ).bind toD with
  | .own ds, some d => if ds.length < 100000 then some (.nx (put ρ i (.own (ds ++ [d])))) else none
  | _, _ => none
theorem sd_append (i : Nat) {x : Str} {e : Expr} {f : SEnv → Option Sl} {p apos cpos pos : Pos} (hv : PE X (.Name x p) (tVar i)) (he : PD X e f)
    (hb : PE X (.Call (.Attribute (.Name x p) "append" apos) [e] [] cpos) (tBM X.K "list" rAppend (tVar i) (tCons (ER X.K f) tNil))) (hs : swapsWith (.Call (.Attribute (.Name x p) "append" apos) [e] [] cpos) none pos.line X.env = pure false := by rfl) :
    SD X E (.Expr (.Call (.Attribute (.Name x p) "append" apos) [e] [] cpos) pos) (sApp i f) := PS_imp (ps_expr hb hs) fun D σ H ⟨B, Z0, Z, ρ, o, x, e, k⟩ => by
  unfold sApp at e
  split at e
  · rename_i ds d q1 q2
    by_cases c : ds.length < 100000
    · rw [if_pos c] at e
      cases e
      obtain ⟨p, vs, hv, hp, hd, km⟩ := x.mut q1
      refine ⟨_, hv, .inl ⟨rfl, vs, .inl (.inl hp)⟩, ?_⟩
      cases qf : f ρ with
      | none => rw [qf] at q2; cases q2
      | some s =>
        rw [qf] at q2
        refine er1 x qf fun v Z' H' k' r => ?_
        obtain ⟨Z2, k2, zz, hvd⟩ := toD_ok k' r q2
        obtain ⟨hp', km'⟩ := km k2
        exact ⟨p, vs, v, rfl, rfl, hp', by rw [sizeLine_eq, DpAll_length hd]; omega, k Z2 σ _ (km' _ _ (DpAll_append (DpAll_mono k2.zz _ _ hd) (.cons hvd .nil)))⟩
    · rw [if_neg c] at e; cases e
  · cases e
/-- xs[i] = e -/
def sSetIx (j : Nat) (fi fe : SEnv → Option Sl) : SEnv → Option Out := fun ρ => match get ρ j, (fe ρ).bind toD, fi ρ with
  | .own ds, some d, some (.pl (.int k)) => match ixN ds.length k with
    | some m => some (.nx (put ρ j (.own (ds.set m d))))
    | none => none
  | _, _, _ => none
theorem sd_setIx (j : Nat) {x : Str} {e i : Expr} {fe fi : SEnv → Option Sl} {p tpos pos : Pos} (hv : PE X (.Name x p) (tVar j)) (hi : PD X i fi) (he : PD X e fe)
    (ha : PS X (.Assign [.Subscript (.Name x p) i tpos] e pos) (tAsg (ER X.K fe) (gSub (tVar j) (ER X.K fi) rSetL))) :
    SD X E (.Assign [.Subscript (.Name x p) i tpos] e pos) (sSetIx j fi fe) := PS_imp ha fun D σ H ⟨B, Z0, Z, ρ, o, x, e, k⟩ => by
  unfold sSetIx at e
  split at e
  · rename_i ds d kk q1 q2 q3
    split at e
    · rename_i m qm
      cases e
      obtain ⟨p, vs, hv, hp, hd, km⟩ := x.mut q1
      cases qf : fe ρ with
      | none => rw [qf] at q2; cases q2
      | some s =>
        rw [qf] at q2
        refine er1 x qf fun v Z' H' k' r => ?_
        obtain ⟨Z2, k2, zz, hvd⟩ := toD_ok k' r q2
        refine ⟨_, hv, er1 (x.step k2) q3 fun w Z3 H3 k3 r3 => ?_⟩
        have hw := r3.data
        cases hw
        obtain ⟨hp', km'⟩ := km (k2.trans k3)
        refine ⟨p, vs, kk, m, rfl, rfl, hp', by rw [DpAll_length hd]; exact qm, k Z3 σ _ (km' _ _ (DpAll_set (Dp_mono k3.zz _ _ hvd) m (DpAll_mono (k2.trans k3).zz _ _ hd)))⟩
    · cases e
  · cases e
/-- y = xs.pop() -/
def sPopTo (i j : Nat) : SEnv → Option Out := fun ρ => match get ρ j with
  | .own ds => match ds.getLast? with
    | some d => some (.nx (put (put ρ j (.own ds.dropLast)) i (.pl d)))
    | none => none
  | _ => none
theorem pop_read {K : PySem.W.Frag} {B Z0 Z H : Hp} {σ : L2.St} {ρ : SEnv} {j : Nat} {ds : List D} {d : D} (x : St K B Z0 Z H σ ρ) (q1 : get ρ j = .own ds) (q2 : ds.getLast? = some d) {Q : VK} (k : ∀ v p vs, Dp K Z v d → St K B Z0 Z (upd H p (.lst vs)) σ (put ρ j (.own ds.dropLast)) → Q v (upd H p (.lst vs))) : tBM0 K "list" rPop (tVar j) σ H Q := by
  obtain ⟨p, vs, hv, hp, hd, km⟩ := x.mut q1
  obtain ⟨_, km'⟩ := km (Step.refl x.zh)
  have hl := DpAll_length hd
  rw [List.getLast?_eq_getElem?] at q2
  obtain ⟨v, e1, r⟩ := DpAll_get hd q2
  exact ⟨_, hv, .inl ⟨rfl, vs, .inl (.inl hp)⟩, p, vs, v, rfl, rfl, hp, by rw [hl]; exact e1, k v p vs.dropLast r (km' _ _ (DpAll_dropLast hd))⟩
theorem sd_popTo {i j : Nat} {x y : Str} {p apos cpos pos pos' : Pos} (hN : X.N.Nodup) (hi : X.N[i]? = some x) (hx : Loc X.env.scope x) (hb : PE X (.Call (.Attribute (.Name y p) "pop" apos) [] [] cpos) (tBM0 X.K "list" rPop (tVar j))) (hs : swapsWith (.Call (.Attribute (.Name y p) "pop" apos) [] [] cpos) (some (.Name x pos')) pos.line X.env = pure false := by rfl) (hf : X.fn x = true ∨ X.env.scope.names.lookup x = some .local := by first | exact .inl rfl | exact .inr rfl | assumption) :
    SD X E (.Assign [.Name x pos'] (.Call (.Attribute (.Name y p) "pop" apos) [] [] cpos) pos) (sPopTo i j) := PS_imp (ps_set hN hi hx hb hs hf) fun D σ H ⟨B, Z0, Z, ρ, o, x, e, k⟩ => by
  unfold sPopTo at e
  split at e
  · rename_i ds q1
    split at e
    · rename_i d q2
      cases e
      exact pop_read x q1 q2 fun v p vs r x' => k Z _ _ (x'.setD i r)
    · cases e
  · cases e
/-- xs.pop(), dropped -/
def sPop (j : Nat) : SEnv → Option Out := fun ρ => match get ρ j with
  | .own ds => match ds.getLast? with
    | some _ => some (.nx (put ρ j (.own ds.dropLast)))
    | none => none
  | _ => none
theorem sd_pop {j : Nat} {y : Str} {p apos cpos pos : Pos} (hb : PE X (.Call (.Attribute (.Name y p) "pop" apos) [] [] cpos) (tBM0 X.K "list" rPop (tVar j))) (hs : swapsWith (.Call (.Attribute (.Name y p) "pop" apos) [] [] cpos) none pos.line X.env = pure false := by rfl) :
    SD X E (.Expr (.Call (.Attribute (.Name y p) "pop" apos) [] [] cpos) pos) (sPop j) := PS_imp (ps_expr hb hs) fun D σ H ⟨B, Z0, Z, ρ, o, x, e, k⟩ => by
  unfold sPop at e
  split at e
  · rename_i ds q1
    split at e
    · rename_i d q2
      cases e
      exact pop_read x q1 q2 fun v p vs r x' => k Z _ _ x'
    · cases e
  · cases e
/-- xs + ys, new lists or lists that are tracked by themselves -/
def ditems : Sl → Option (List D)
  | .own ds => some ds
  | .brw ds => some ds
  | _ => none
theorem ditems_ok {K : PySem.W.Frag} {H0 Z H : Hp} {v : V} {s : Sl} {ds : List D} (h : vlR K H0 Z H v s) (e : ditems s = some ds) : ∃ p vs, v = .ref p ∧ H p = some (.lst vs) ∧ DpAll K Z vs ds := by
  obtain ⟨fp, h1, h2⟩ := h
  cases s with
  | own es => cases e; obtain ⟨p, vs, _, hx, hp, hd⟩ := h1; cases hx; exact ⟨p, vs, rfl, hp, hd⟩
  | brw es => cases e; obtain ⟨_, p, vs, hx, hp, hd⟩ := h1; cases hx; exact ⟨p, vs, rfl, hp, hd⟩
  | _ => cases e
def catF (a b : Option Sl) : Option Sl := match a, b with
  | some s, some t => match ditems s, ditems t with
    | some xs, some ys => if xs.length + ys.length ≤ 100000 then some (.own (xs ++ ys)) else none
    | _, _ => none
  | _, _ => none
def eCat (a b : SEnv → Option Sl) : SEnv → Option Sl := fun ρ => catF (a ρ) (b ρ)
theorem pd_cat {a b : Expr} {fa fb : SEnv → Option Sl} {pos : Pos} (ha : PD X a fa) (hb : PD X b fb) : PD X (.BinOp a .Add b pos) (eCat fa fb) :=
  PE_imp (pe_op op_cat ha hb) fun σ H Q ⟨B, Z0, Z, ρ, s, x, e, k⟩ => by
    unfold eCat catF at e
    split at e
    · rename_i sa sb qa qb
      split at e
      · rename_i xs ys q1 q2
        by_cases c : xs.length + ys.length ≤ 100000
        · rw [if_pos c] at e
          cases e
          refine er2 x qa qb fun v w Z' H' k' r1 r2 => ?_
          obtain ⟨p, vs, rfl, hp, hd⟩ := ditems_ok r1 q1
          obtain ⟨q, ws, rfl, hq, hd2⟩ := ditems_ok r2 q2
          refine ⟨p, q, vs, ws, rfl, rfl, hp, hq, by rw [sizeLine_eq, DpAll_length hd, DpAll_length hd2]; omega, fun l hl => ?_⟩
          obtain ⟨k3, r3⟩ := vlR.newL k'.zh hl (DpAll_append hd hd2)
          exact k _ _ _ (k'.trans k3) (r3.back k'.bh)
        · rw [if_neg c] at e; cases e
      · cases e
    · cases e
/-! ### own defs -/
inductive Rs where
  | ret (s : Sl)
  | exn (x : Exn)
abbrev Fn := List Sl → Option Rs
/-- arguments: data, borrowed things, or things that are handed over -/
def ArgR (K : PySem.W.Frag) (B Z H : Hp) (vs : List V) (ss : List Sl) : Prop := vs.length = ss.length ∧ ∃ fp : Nat → List Addr, (∀ i, slR K B Z H (get ss i) (vs[i]?) (fp i)) ∧ (∀ i j a, i ≠ j → a ∈ fp i → ¬ a ∈ fp j) ∧ ∀ i a, a ∈ fp i → B a = none ∧ Z a = none
def FSp (K : PySem.W.Frag) (F : Fn) : Sp := fun vs H Q E => ∃ B Z ss r, Same B H ∧ Same Z H ∧ ArgR K B Z H vs ss ∧ F ss = some r ∧ match r with
  | .ret s => ∀ v Z' H', StepB B Z Z' H' → vlB K B Z' H' v s → Q v H'
  | .exn x => ∀ c od Z' H', StepB B Z Z' H' → exR K Z' H' x c od → E c od H'
def ent (n : Nat) (ss : List Sl) : SEnv := ss ++ List.replicate (n - ss.length) .un
/-- a def's function by its body's -/
def fnD (n m : Nat) (g : SEnv → Option Out) : Fn := fun ss => if ss.length = m then match g (ent n ss) with
    | some (.rt s) => some (.ret s)
    | some (.nx _) => some (.ret (.pl .none))
    | some (.ex x) => some (.exn x)
    | _ => none
  else none
theorem get_app : ∀ (l : List Sl) (n i : Nat), get (l ++ List.replicate n .un) i = get l i
  | [], 0, _ => rfl
  | [], n + 1, 0 => rfl
  | [], n + 1, i + 1 => by
    show get (List.replicate n .un) i = .un
    have := get_app [] n i
    simp only [List.nil_append] at this
    rw [this]
    rfl
  | _ :: _, _, 0 => rfl
  | _ :: r, n, i + 1 => get_app r n i
theorem look_start {N : List Str} {vs : List V} (i : Nat) : look (L2.start N vs) i = vs[i]? := by
  unfold look L2.start
  by_cases c : i < vs.length
  · rw [List.getElem?_append_left (by simpa using c), List.getElem?_map, List.getElem?_eq_getElem c]
    rfl
  · rw [List.getElem?_append_right (by simpa using c)]
    rw [List.getElem?_eq_none (l := vs) (by omega)]
    rw [List.length_map]
    rw [List.getElem?_replicate]
    split <;> rfl
theorem st_start {K : PySem.W.Frag} {B Z H : Hp} {N : List Str} {vs : List V} {ss : List Sl} (bh : Same B H) (zh : Same Z H) (a : ArgR K B Z H vs ss) (hN : vs.length ≤ N.length) : St K B Z Z H (L2.start N vs) (ent N.length ss) := by
  obtain ⟨hl, fp, h1, h2, h3⟩ := a
  refine ⟨⟨bh, Same.refl Z, zh, fun _ q => .inl q⟩, ?_, fp, fun i => ?_, h2, h3⟩
  · unfold L2.start ent
    simp [hl]
  · unfold ent
    rw [get_app, look_start]
    exact h1 i
theorem body_read {K : PySem.W.Frag} {E : XK} {N : List Str} {m : Nat} {g : SEnv → Option Out} {vs : List V} {H : Hp} {Q : VK} (hm : m ≤ N.length) (h : FSp K (fnD N.length m g) vs H Q E) : SR K E g { nx := fun _ H' => Q .non H', rt := Q } (L2.start N vs) H := by
  obtain ⟨B, Z, ss, r, bh, zh, a, e, k⟩ := h
  unfold fnD at e
  by_cases c : ss.length = m
  · rw [if_pos c] at e
    have x := st_start bh zh a (N := N) (by rw [a.1, c]; exact hm)
    split at e
    · rename_i s q
      cases e
      exact ⟨B, Z, Z, _, _, x, q, k⟩
    · rename_i ρ' q
      cases e
      exact ⟨B, Z, Z, _, _, x, q, fun Z' σ' H' x' => k _ Z' H' x'.st ⟨[], ⟨rfl, _, rfl, .non⟩, fun _ h => nomatch h⟩⟩
    · rename_i ex q
      cases e
      exact ⟨B, Z, Z, _, _, x, q, k⟩
    · cases e
  · rw [if_neg c] at e; cases e
theorem FSp_len {K : PySem.W.Frag} {n m : Nat} {g : SEnv → Option Out} {vs : List V} {H : Hp} {Q : VK} {E : XK} (h : FSp K (fnD n m g) vs H Q E) : vs.length = m := by
  obtain ⟨B, Z, ss, r, bh, zh, a, e, k⟩ := h
  unfold fnD at e
  by_cases c : ss.length = m
  · rw [a.1, c]
  · rw [if_neg c] at e; cases e
section
variable {P : Program} {w : World} {K : PySem.W.Frag} {mg : Str → Option Value} {base : Heap}
/-- THE RULE of a def from which nothing is raised -/
theorem fn_ok {x qual : Str} {st : Stmt} {f : Addr} {fd : FuncData} {N ps : List Str} {k m : Nat} {g : SEnv → Option Out} (F : Fun K x qual st f fd) (S : FnScope N ps (defScope st)) (hm : ps.length = m) (hn : m ≤ N.length)
    (hbody : ∀ (cdv : Value) (A : Around) (outer : List Env) (s : Shared) (H : Hp) (E : XK), Room k (A.deeper (PyProof.Rows.envOfC qual (defScope st) s.heap.objs.size f cdv)) → SsD (cxOf L2.CX0 P w K mg base N qual (defScope st) f cdv A outer s H E).nox E (defBody st) g) :
    FnOk P w K mg base L2.CX0 (k + 1) f fd ps (FSp K (fnD N.length m g)) := by
  refine F.ok S (fun vs H Q E h => by rw [hm]; exact FSp_len h) fun cdv A outer s H vs Q E hr h => ⟨_, hbody cdv A outer s H E hr, body_read hn h⟩
end
/-- a call of a def that hands back a value here -/
def eCall (F : Fn) (a : SEnv → Option (List Sl)) : SEnv → Option Sl := fun ρ => match a ρ with
  | some ss => match F ss with
    | some (.ret s) => some s
    | _ => none
  | none => none
theorem AllB_arg {K : PySem.W.Frag} {Z H : Hp} : ∀ {vs : List V} {ss : List Sl}, AllB K Z H vs ss → ArgR K H Z H vs ss := fun {vs ss} h => by
  refine ⟨?_, fun _ => [], fun i => ?_, fun _ _ _ _ h => (List.not_mem_nil h).elim, fun _ _ h => (List.not_mem_nil h).elim⟩
  · induction vs generalizing ss with
    | nil => cases ss with | nil => rfl | cons _ _ => exact h.elim
    | cons v vs ih => cases ss with | nil => exact h.elim | cons s ss => simpa using ih h.2
  · induction vs generalizing ss i with
    | nil => cases ss with | nil => exact rfl | cons _ _ => exact h.elim
    | cons v vs ih =>
      cases ss with
      | nil => exact h.elim
      | cons s ss =>
        cases i with
        | zero => exact h.1
        | succ i => exact ih h.2 i
theorem AllB_app {K : PySem.W.Frag} {Z H : Hp} : ∀ {vs ws : List V} {ss ts : List Sl}, AllB K Z H vs ss → AllB K Z H ws ts → AllB K Z H (vs ++ ws) (ss ++ ts)
  | [], _, [], _, _, h => h
  | _ :: _, _, _ :: _, _, h, h' => ⟨h.1, AllB_app h.2 h'⟩
  | [], _, _ :: _, _, h, _ => h.elim
  | _ :: _, _, [], _, h, _ => h.elim
theorem call_read {K : PySem.W.Frag} {F : Fn} {a : SEnv → Option (List Sl)} {E : XK} {dvs : List V} {dss : List Sl} (hd : ∀ Z H, AllB K Z H dvs dss) {σ : L2.St} {H : Hp} {Q : VK} (h : ER K (eCall F (fun ρ => (a ρ).map (· ++ dss))) σ H Q) : tCall (FSp K F) dvs E (AR K a) σ H Q := by
  obtain ⟨B, Z0, Z, ρ, s, x, e, k⟩ := h
  unfold eCall at e
  dsimp only at e
  cases q : a ρ with
  | none => rw [q] at e; cases e
  | some ss =>
    rw [q] at e
    simp only [Option.map] at e
    refine ⟨B, Z0, Z, ρ, ss, x, q, fun vs Z' H' k' r => ?_⟩
    split at e
    · rename_i t qf
      cases e
      refine ⟨H', Z', ss ++ dss, .ret _, Same.refl _, k'.zh, AllB_arg (AllB_app r (hd _ _)), qf, fun v Z2 H2 k2 r2 => k v Z2 H2 (k'.trans k2) ?_⟩
      exact vlR.back (h := r2) k'.bh
    · cases e
theorem map_nil {a : SEnv → Option (List Sl)} : (fun ρ => (a ρ).map (· ++ [])) = a := by
  funext ρ
  cases a ρ <;> simp
theorem pd_call {k : Nat} {f : Addr} {fd : FuncData} {ps : List Str} {x : Str} {p pos : Pos} {e : Expr} {es : List Expr} {F : Fn} {a : SEnv → Option (List Sl)} (G : FnOk X.prog X.w X.K X.mg X.base L2.CX0 k f fd ps (FSp X.K F)) (hr : Room k X.A) (hg : Gl X x) (hm : X.mg x = some (.ref f)) (hk : PySem.W.keepIn X.K (.ref f) = true) (hb : Binds X.K fd ps []) (ha : AD X (e :: es) a)
    (hdb : (x == ("__debug__" : Str)) = false := by decide) (h1 : starEach (e :: es) X.env = (false, eval e X.env) :: starEach es X.env := by rfl) (h2 : ((backTo pos (starEach es X.env)).any fun x => x.fst) = false := by rfl) : PD X (.Call (.Name x p) (e :: es) [] pos) (eCall F a) :=
  PE_imp (pe_call G hr hg hm hk hb .nil (L2.pass0 (X := X)) ha hdb h1 h2) fun σ H Q h => call_read (dvs := []) (dss := []) (fun _ _ => trivial) (by rw [map_nil]; exact h)
end
end DL

set_option Elab.async false
set_option linter.all false
set_option maxRecDepth 100000
set_option maxHeartbeats 1000000
/-! DL7: more built-ins. -/
namespace DL
open PySem PySem.Spec PyProof.Rows L2
section
variable {X : Cx} {E : XK}
/-- isinstance(x, T), T a built-in class -/
def eIsi (T : String) (a : SEnv → Option Sl) : SEnv → Option Sl := fun ρ => match a ρ with
  | some s => (isiS T s).map fun b => .pl (.bool b)
  | none => none
theorem tyX_L {K : PySem.W.Frag} {H : Hp} {p : Addr} {vs : List V} (h : SqL K H p vs) : TyX K H (.ref p) (.type "list") := by
  rcases h with (h | ⟨o, h⟩) | ⟨o, its, n, h, hc, _⟩
  · exact .base (.lst h)
  · exact .base (.frz h)
  · exact .kList h hc
theorem tyX_T {K : PySem.W.Frag} {H : Hp} {p : Addr} {vs : List V} (h : SqT K H p vs) : TyX K H (.ref p) (.type "tuple") := by
  rcases h with (h | ⟨o, h⟩) | ⟨o, its, n, h, hc, _⟩
  · exact .base (.tup h)
  · exact .fTuple h
  · exact .kTuple h hc
theorem tyD_ok {K : PySem.W.Frag} {H0 Z H : Hp} {v : V} {s : Sl} {t : String} (h : vlR K H0 Z H v s) (zh : Same Z H) (e : tyD s = some t) : TyX K H v (.type t) := by
  obtain ⟨fp, h1, h2⟩ := h
  cases s with
  | pl c =>
    obtain ⟨_, x, hx, hd⟩ := h1
    cases hx
    cases hd with
    | non => cases e; exact .base .non
    | bl k => cases e; exact .base (.bl k)
    | int i => cases e; exact .base (.int i)
    | str y => cases e; exact .base (.str y)
    | lst q r => cases e; exact tyX_L (zh.seq q)
    | tup q r => cases e; exact tyX_T (sqT_mono zh q)
  | own ds => cases e; obtain ⟨p, vs, _, hx, hp, hd⟩ := h1; cases hx; exact .base (.lst hp)
  | brw ds => cases e; obtain ⟨_, p, vs, hx, hp, hd⟩ := h1; cases hx; exact .base (.lst hp)
  | _ => cases e
theorem pd_isi {p pos p2 : Pos} {e : Expr} {T : Str} {T' : String} {a : SEnv → Option Sl} (hg : Gl X "isinstance") (hm : X.mg "isinstance" = none) (hg2 : Gl X T) (hm2 : X.mg T = none) (hv : bootBuiltins T = some (.type T')) (he : PD X e a)
    (hn : T ≠ "__name__" := by decide) (hd : (T == ("__debug__" : Str)) = false := by decide) (h1 : starEach [e, .Name T p2] X.env = (false, eval e X.env) :: starEach [.Name T p2] X.env := by rfl) (h3 : starEach [.Name T p2] X.env = (false, eval (.Name T p2) X.env) :: starEach [] X.env := by rfl) : PD X (.Call (.Name "isinstance" p) [e, .Name T p2] [] pos) (eIsi T' a) :=
  PE_imp (pe_callB call_isi hg hm (by decide +kernel) (pa_cons he (pa_cons (pe_bltn (v := .ty T') hg2 hm2 hv rfl hn hd) pa_nil h3) h1) (by decide) (by decide) h1 (by rfl)) fun σ H Q ⟨B, Z0, Z, ρ, s, x, e, k⟩ => by
    unfold eIsi at e
    cases q : a ρ with
    | none => rw [q] at e; cases e
    | some t =>
      rw [q] at e
      cases qt : isiS T' t with
      | none => simp only [qt] at e; cases e
      | some b =>
        simp only [qt] at e
        cases e
        unfold isiS at qt
        cases qy : tyD t with
        | none => rw [qy] at qt; cases qt
        | some ty =>
          rw [qy] at qt
          refine er1 x q fun v Z' H' k' r => ?_
          exact ⟨v, .ty T', .type ty, .type T', b, rfl, .ty _, tyD_ok r k'.zh qy, kit_ty qt, k _ Z' H' k' (vlR.pl (.bl b))⟩
/-- list(range(n)) -/
def eListRg (a : SEnv → Option Sl) : SEnv → Option Sl := fun ρ => match a ρ with
  | some (.pl (.int n)) => if 0 ≤ n ∧ n ≤ 16777216 then some (.own (rgD 0 n.toNat)) else none
  | _ => none
theorem rgV_D {K : PySem.W.Frag} {Z : Hp} (n : Int) : DpAll K Z (rgV 0 n) (rgD 0 n.toNat) := by
  unfold rgV rgD
  rw [show n - 0 = n by omega]
  generalize List.range n.toNat = l
  induction l with
  | nil => exact .nil
  | cons i l ih => exact .cons (.int _) ih
theorem pd_listRg {p pos p2 pos2 : Pos} {e : Expr} {a : SEnv → Option Sl} (hg : Gl X "list") (hm : X.mg "list" = none) (hg2 : Gl X "range") (hm2 : X.mg "range" = none) (he : PD X e a) (hc : X.calm = true := by rfl) (h1 : starEach [e] X.env = (false, eval e X.env) :: starEach [] X.env := by rfl)
    (h2 : starEach [.Call (.Name "range" p2) [e] [] pos2] X.env = (false, eval (.Call (.Name "range" p2) [e] [] pos2) X.env) :: starEach [] X.env := by rfl) : PD X (.Call (.Name "list" p) [.Call (.Name "range" p2) [e] [] pos2] [] pos) (eListRg a) :=
  PE_imp (pe_listRg hc hg hm (prg_1 hg2 hm2 he h1) h2) fun σ H Q ⟨B, Z0, Z, ρ, s, x, e, k⟩ => by
    unfold eListRg at e
    split at e
    · rename_i n q
      by_cases c : 0 ≤ n ∧ n ≤ 16777216
      · rw [if_pos c] at e
        cases e
        refine er1 x q fun v Z' H' k' r => ?_
        have hd := r.data
        cases hd
        refine ⟨n, rfl, RgOk.of_le (by omega) c.2 (by omega) c.1, fun l hl => ?_⟩
        obtain ⟨k2, r2⟩ := vlR.newL k'.zh hl (rgV_D n)
        exact k _ _ _ (k'.trans k2) (r2.back k'.bh)
      · rw [if_neg c] at e; cases e
    · cases e
/-- sum, min, max of a list of ints -/
def intsD : List D → Option (List Int)
  | [] => some []
  | .int i :: r => (intsD r).map (i :: ·)
  | _ => none
theorem ints_ok {K : PySem.W.Frag} {Z : Hp} : ∀ {vs : List V} {ds : List D} {ns : List Int}, DpAll K Z vs ds → intsD ds = some ns → vs = ns.map V.int
  | _, _, _, .nil, e => by cases e; rfl
  | _, _, ns, .cons (d := d) r t, e => by
    cases d <;> first | (cases e; done) | skip
    rename_i ds i
    cases r
    change (intsD ds).map (i :: ·) = some ns at e
    cases q : intsD ds with
    | none => rw [q] at e; cases e
    | some l =>
      rw [q] at e
      cases e
      rw [ints_ok t q]
      rfl
@[simp] theorem intsD_map (ns : List Int) : intsD (ns.map PyData.int) = some ns := by
  induction ns with
  | nil => rfl
  | cons n ns ih => show (intsD (ns.map PyData.int)).map (n :: ·) = _; rw [ih]; rfl
def sumS (s : Sl) : Option Sl := ((litems s).bind intsD).map fun ns => .pl (.int ns.sum)
def sumF : List Sl → Option Sl := fun ss => match ss with | [s] => sumS s | _ => none
theorem ok_sum {K : PySem.W.Frag} : BuiOK K (rSum K) sumF := bui1 (F := sumS) fun Z H v s t Q zh r e k => by
  unfold sumS at e
  cases qi : litems s with
  | none => rw [qi] at e; cases e
  | some ds =>
    rw [qi] at e
    cases qn : intsD ds with
    | none => simp only [Option.bind, qn] at e; cases e
    | some ns =>
      simp only [Option.bind, qn] at e
      cases e
      obtain ⟨p, vs, rfl, hq, hd⟩ := litems_ok r zh qi
      have := ints_ok hd qn
      subst this
      exact ⟨p, ns, rfl, hq, k _ Z H (Step.refl zh) (vlR.pl (.int _))⟩
theorem pd_sum {p pos : Pos} {e : Expr} {a : SEnv → Option Sl} (hg : Gl X "sum") (hm : X.mg "sum" = none) (ha : PD X e a) (hc : X.calm = true := by rfl) (h1 : starEach [e] X.env = (false, eval e X.env) :: starEach [] X.env := by rfl) : PD X (.Call (.Name "sum" p) [e] [] pos) (eBui sumF (aCons a aNil)) :=
  pd_callB (cr_sum hc) ok_sum hg hm (by decide +kernel) (ad_cons ha ad_nil h1) (by decide) (by decide) h1 rfl
def minL : Int → List Int → Int
  | a, [] => a
  | a, b :: l => minL (if b < a then b else a) l
def maxL : Int → List Int → Int
  | a, [] => a
  | a, b :: l => maxL (if a < b then b else a) l
theorem minL_le : ∀ (l : List Int) (a : Int), minL a l ≤ a ∧ ∀ y ∈ l, minL a l ≤ y
  | [], a => ⟨Int.le_refl a, fun _ h => nomatch h⟩
  | b :: l, a => by
    obtain ⟨h1, h2⟩ := minL_le l (if b < a then b else a)
    have h0 : (if b < a then b else a) ≤ a ∧ (if b < a then b else a) ≤ b := by split <;> omega
    refine ⟨Int.le_trans h1 h0.1, fun y hy => ?_⟩
    rcases List.mem_cons.mp hy with e | e
    · rw [e]; exact Int.le_trans h1 h0.2
    · exact h2 y e
theorem minL_mem : ∀ (l : List Int) (a : Int), minL a l = a ∨ minL a l ∈ l
  | [], a => .inl rfl
  | b :: l, a => by
    show minL (if b < a then b else a) l = a ∨ minL (if b < a then b else a) l ∈ b :: l
    rcases minL_mem l (if b < a then b else a) with e | e
    · rw [e]
      split
      · exact .inr (List.mem_cons_self ..)
      · exact .inl rfl
    · exact .inr (List.mem_cons_of_mem _ e)
theorem maxL_ge : ∀ (l : List Int) (a : Int), a ≤ maxL a l ∧ ∀ y ∈ l, y ≤ maxL a l
  | [], a => ⟨Int.le_refl a, fun _ h => nomatch h⟩
  | b :: l, a => by
    obtain ⟨h1, h2⟩ := maxL_ge l (if a < b then b else a)
    have h0 : a ≤ (if a < b then b else a) ∧ b ≤ (if a < b then b else a) := by split <;> omega
    refine ⟨Int.le_trans h0.1 h1, fun y hy => ?_⟩
    rcases List.mem_cons.mp hy with e | e
    · rw [e]; exact Int.le_trans h0.2 h1
    · exact h2 y e
theorem maxL_mem : ∀ (l : List Int) (a : Int), maxL a l = a ∨ maxL a l ∈ l
  | [], a => .inl rfl
  | b :: l, a => by
    show maxL (if a < b then b else a) l = a ∨ maxL (if a < b then b else a) l ∈ b :: l
    rcases maxL_mem l (if a < b then b else a) with e | e
    · rw [e]
      split
      · exact .inr (List.mem_cons_self ..)
      · exact .inl rfl
    · exact .inr (List.mem_cons_of_mem _ e)
def minS (s : Sl) : Option Sl := match (litems s).bind intsD with
  | some (a :: l) => some (.pl (.int (minL a l)))
  | _ => none
def maxS (s : Sl) : Option Sl := match (litems s).bind intsD with
  | some (a :: l) => some (.pl (.int (maxL a l)))
  | _ => none
def minF : List Sl → Option Sl := fun ss => match ss with | [s] => minS s | _ => none
def maxF : List Sl → Option Sl := fun ss => match ss with | [s] => maxS s | _ => none
theorem ok_min {K : PySem.W.Frag} : BuiOK K (rMin K) minF := bui1 (F := minS) fun Z H v s t Q zh r e k => by
  unfold minS at e
  cases qi : litems s with
  | none => rw [qi] at e; cases e
  | some ds =>
    rw [qi] at e
    cases qn : intsD ds with
    | none => simp only [Option.bind, qn] at e; cases e
    | some ns =>
      simp only [Option.bind, qn] at e
      cases ns with
      | nil => cases e
      | cons a l =>
        cases e
        obtain ⟨p, vs, rfl, hq, hd⟩ := litems_ok r zh qi
        have := ints_ok hd qn
        subst this
        refine ⟨p, a :: l, rfl, hq, by simp, fun m hm hle => ?_⟩
        have e2 : m = minL a l := by
          have h1 := minL_le l a
          have h3 : m ≤ minL a l := by
            rcases minL_mem l a with q | q
            · rw [q]; exact hle a (List.mem_cons_self ..)
            · exact hle _ (List.mem_cons_of_mem _ q)
          have h4 : minL a l ≤ m := by
            rcases List.mem_cons.mp hm with q | q
            · rw [q]; exact h1.1
            · exact h1.2 m q
          omega
        subst e2
        exact k _ Z H (Step.refl zh) (vlR.pl (.int _))
theorem ok_max {K : PySem.W.Frag} : BuiOK K (rMax K) maxF := bui1 (F := maxS) fun Z H v s t Q zh r e k => by
  unfold maxS at e
  cases qi : litems s with
  | none => rw [qi] at e; cases e
  | some ds =>
    rw [qi] at e
    cases qn : intsD ds with
    | none => simp only [Option.bind, qn] at e; cases e
    | some ns =>
      simp only [Option.bind, qn] at e
      cases ns with
      | nil => cases e
      | cons a l =>
        cases e
        obtain ⟨p, vs, rfl, hq, hd⟩ := litems_ok r zh qi
        have := ints_ok hd qn
        subst this
        refine ⟨p, a :: l, rfl, hq, by simp, fun m hm hle => ?_⟩
        have e2 : m = maxL a l := by
          have h1 := maxL_ge l a
          have h3 : maxL a l ≤ m := by
            rcases maxL_mem l a with q | q
            · rw [q]; exact hle a (List.mem_cons_self ..)
            · exact hle _ (List.mem_cons_of_mem _ q)
          have h4 : m ≤ maxL a l := by
            rcases List.mem_cons.mp hm with q | q
            · rw [q]; exact h1.1
            · exact h1.2 m q
          omega
        subst e2
        exact k _ Z H (Step.refl zh) (vlR.pl (.int _))
theorem pd_min {p pos : Pos} {e : Expr} {a : SEnv → Option Sl} (hg : Gl X "min") (hm : X.mg "min" = none) (ha : PD X e a) (hc : X.calm = true := by rfl) (h1 : starEach [e] X.env = (false, eval e X.env) :: starEach [] X.env := by rfl) : PD X (.Call (.Name "min" p) [e] [] pos) (eBui minF (aCons a aNil)) :=
  pd_callB (cr_min hc) ok_min hg hm (by decide +kernel) (ad_cons ha ad_nil h1) (by decide) (by decide) h1 rfl
theorem pd_max {p pos : Pos} {e : Expr} {a : SEnv → Option Sl} (hg : Gl X "max") (hm : X.mg "max" = none) (ha : PD X e a) (hc : X.calm = true := by rfl) (h1 : starEach [e] X.env = (false, eval e X.env) :: starEach [] X.env := by rfl) : PD X (.Call (.Name "max" p) [e] [] pos) (eBui maxF (aCons a aNil)) :=
  pd_callB (cr_max hc) ok_max hg hm (by decide +kernel) (ad_cons ha ad_nil h1) (by decide) (by decide) h1 rfl
/-- all(xs), any(xs) of truths -/
def blsD : List D → Option (List Bool)
  | [] => some []
  | .bool i :: r => (blsD r).map (i :: ·)
  | _ => none
@[simp] theorem blsD_map (ns : List Bool) : blsD (ns.map PyData.bool) = some ns := by
  induction ns with
  | nil => rfl
  | cons n ns ih => show (blsD (ns.map PyData.bool)).map (n :: ·) = _; rw [ih]; rfl
theorem bls_ok {K : PySem.W.Frag} {Z : Hp} : ∀ {vs : List V} {ds : List D} {ns : List Bool}, DpAll K Z vs ds → blsD ds = some ns → vs = ns.map V.bl
  | _, _, _, .nil, e => by cases e; rfl
  | _, _, ns, .cons (d := d) r t, e => by
    cases d <;> first | (cases e; done) | skip
    rename_i ds i
    cases r
    change (blsD ds).map (i :: ·) = some ns at e
    cases q : blsD ds with
    | none => rw [q] at e; cases e
    | some l =>
      rw [q] at e
      cases e
      rw [bls_ok t q]
      rfl
def allS (s : Sl) : Option Sl := ((litems s).bind blsD).map fun bs => .pl (.bool (bs.all id))
def allF : List Sl → Option Sl := fun ss => match ss with | [s] => allS s | _ => none
theorem ok_all {K : PySem.W.Frag} : BuiOK K (rAll K) allF := bui1 (F := allS) fun Z H v s t Q zh r e k => by
  unfold allS at e
  cases qi : litems s with
  | none => rw [qi] at e; cases e
  | some ds =>
    rw [qi] at e
    cases qn : blsD ds with
    | none => simp only [Option.bind, qn] at e; cases e
    | some ns =>
      simp only [Option.bind, qn] at e
      cases e
      obtain ⟨p, vs, rfl, hq, hd⟩ := litems_ok r zh qi
      have := bls_ok hd qn
      subst this
      exact ⟨p, ns, rfl, hq, k _ Z H (Step.refl zh) (vlR.pl (.bl _))⟩
theorem pd_all {p pos : Pos} {e : Expr} {a : SEnv → Option Sl} (hg : Gl X "all") (hm : X.mg "all" = none) (ha : PD X e a) (hc : X.calm = true := by rfl) (h1 : starEach [e] X.env = (false, eval e X.env) :: starEach [] X.env := by rfl) : PD X (.Call (.Name "all" p) [e] [] pos) (eBui allF (aCons a aNil)) :=
  pd_callB (cr_all hc) ok_all hg hm (by decide +kernel) (ad_cons ha ad_nil h1) (by decide) (by decide) h1 rfl
/-- max(a, b), min(a, b) -/
def max2F : List Sl → Option Sl
  | [.pl (.int i), .pl (.int j)] => some (.pl (.int (if j > i then j else i)))
  | _ => none
def min2F : List Sl → Option Sl
  | [.pl (.int i), .pl (.int j)] => some (.pl (.int (if j < i then j else i)))
  | _ => none
theorem ok_max2 {K : PySem.W.Frag} : BuiOK K (fun xs H Q => ∃ i j, xs = [.int i, .int j] ∧ Q (.int (if j > i then j else i)) H) max2F := by
  intro Z H vs ss s Q zh ha e k
  unfold max2F at e
  split at e
  · cases e
    have := allB_int2 ha
    subst this
    exact ⟨_, _, rfl, k _ Z H (Step.refl zh) (vlR.pl (.int _))⟩
  · cases e
theorem ok_min2 {K : PySem.W.Frag} : BuiOK K (fun xs H Q => ∃ i j, xs = [.int i, .int j] ∧ Q (.int (if j < i then j else i)) H) min2F := by
  intro Z H vs ss s Q zh ha e k
  unfold min2F at e
  split at e
  · cases e
    have := allB_int2 ha
    subst this
    exact ⟨_, _, rfl, k _ Z H (Step.refl zh) (vlR.pl (.int _))⟩
  · cases e
theorem pd_max2 {p pos : Pos} {e e2 : Expr} {a b : SEnv → Option Sl} (hg : Gl X "max") (hm : X.mg "max" = none) (ha : PD X e a) (hb : PD X e2 b) (hc : X.calm = true := by rfl) (h1 : starEach [e, e2] X.env = (false, eval e X.env) :: starEach [e2] X.env := by rfl) (h2 : starEach [e2] X.env = (false, eval e2 X.env) :: starEach [] X.env := by rfl) (h3 : ((backTo pos (starEach [e2] X.env)).any fun x => x.fst) = false := by rfl) : PD X (.Call (.Name "max" p) [e, e2] [] pos) (eBui max2F (aCons a (aCons b aNil))) :=
  pd_callB (call_max2 hc) ok_max2 hg hm (by decide +kernel) (ad_cons ha (ad_cons hb ad_nil h2) h1) (by decide) (by decide) h1 h3
theorem pd_min2 {p pos : Pos} {e e2 : Expr} {a b : SEnv → Option Sl} (hg : Gl X "min") (hm : X.mg "min" = none) (ha : PD X e a) (hb : PD X e2 b) (hc : X.calm = true := by rfl) (h1 : starEach [e, e2] X.env = (false, eval e X.env) :: starEach [e2] X.env := by rfl) (h2 : starEach [e2] X.env = (false, eval e2 X.env) :: starEach [] X.env := by rfl) (h3 : ((backTo pos (starEach [e2] X.env)).any fun x => x.fst) = false := by rfl) : PD X (.Call (.Name "min" p) [e, e2] [] pos) (eBui min2F (aCons a (aCons b aNil))) :=
  pd_callB (call_min2 hc) ok_min2 hg hm (by decide +kernel) (ad_cons ha (ad_cons hb ad_nil h2) h1) (by decide) (by decide) h1 h3
/-- targets by a tuple: a, b = e -/
def sAsgT (g : GF) (f : SEnv → Option Sl) : SEnv → Option Out := fun ρ => match f ρ with
  | some (.pl d) => (g d ρ).map .nx
  | _ => none
theorem sd_asgT {tg e : Expr} {f : SEnv → Option Sl} {g : GF} {pos : Pos} (he : PD X e f) (hg : GD X tg g) (hs : swapsWithSole [tg] e pos.line X.env = pure false := by rfl) (hw : swappedStores [tg] e X.env = pure none := by rfl) (hq : (assignEach [tg] X.env).map (·.2) = [assign tg X.env] := by rfl) : SD X E (.Assign [tg] e pos) (sAsgT g f) := PS_imp (ps_asg he hg hs hw hq) fun D σ H ⟨B, Z0, Z, ρ, o, x, e, k⟩ => by
  unfold sAsgT at e
  split at e
  · rename_i d q
    cases qg : g d ρ with
    | none => rw [qg] at e; cases e
    | some ρ' =>
      rw [qg] at e
      cases e
      refine er1 x q fun v Z' H' k' r => ?_
      exact ⟨B, Z0, Z', ρ, d, ρ', x.step k', r.data, qg, fun σ' x' => k Z' σ' H' x'⟩
  · cases e
/-- the law's own promise, from its function -/
def spLawD (K : PySem.W.Frag) : Sp := fun vs H Q _ => ∃ (a : Addr) (ns : List Int), vs = [.ref a] ∧ SqL K H a (ns.map V.int) ∧ ns.length ≤ 63 ∧ ∀ H', Q (.bl true) H'
theorem ints_Dp {K : PySem.W.Frag} {Z : Hp} : ∀ ns : List Int, DpAll K Z (ns.map V.int) (ns.map PyData.int)
  | [] => .nil
  | n :: ns => .cons (.int n) (ints_Dp ns)
theorem law_of {K : PySem.W.Frag} {F : Fn} (h : ∀ ns : List Int, ns.length ≤ 63 → F [.pl (.list (ns.map PyData.int))] = some (.ret (.pl (.bool true)))) {vs : List V} {H : Hp} {Q : VK} {E : XK} (q : spLawD K vs H Q E) : FSp K F vs H Q E := by
  obtain ⟨a, ns, rfl, hS, hl, k⟩ := q
  refine ⟨H, H, [.pl (.list (ns.map PyData.int))], _, Same.refl H, Same.refl H, AllB_arg ⟨⟨rfl, _, rfl, .lst hS (ints_Dp ns)⟩, trivial⟩, h ns hl, fun v Z' H' k' r => ?_⟩
  obtain ⟨fp, ⟨_, x, e, hd⟩, _⟩ := r
  cases e
  cases hd
  exact k H'
end
/-- a statement or an expression that no told run comes to: nothing is said of it -/
def sStk : SEnv → Option Out := fun _ => none
def eStk : SEnv → Option Sl := fun _ => none
theorem sd_stuck {X : Cx} {E : XK} {st : Stmt} : SD X E st sStk := ⟨fun _ _ _ _ _ _ h => by obtain ⟨_, _, _, _, _, _, e, _⟩ := h; cases e⟩
theorem pd_stuck {X : Cx} {e : Expr} : PD X e eStk := ⟨fun _ _ _ _ _ _ h => by obtain ⟨_, _, _, _, _, _, e, _⟩ := h; cases e⟩
end DL

set_option Elab.async false
set_option linter.all false
set_option maxRecDepth 100000
set_option maxHeartbeats 1000000
/-! DLP: reckoning with the pure functions. -/
namespace DL
open PySem PySem.Spec PyProof.Rows L2
theorem eBin_def (f : D → D → Option D) (a b : SEnv → Option Sl) (ρ : SEnv) : eBin f a b ρ = sl2 f (a ρ) (b ρ) := rfl
theorem eUn_def (f : D → Option D) (a : SEnv → Option Sl) (ρ : SEnv) : eUn f a ρ = sl1 f (a ρ) := rfl
theorem eVar_def (i : Nat) (ρ : SEnv) : eVar i ρ = borq (get ρ i) := rfl
theorem eC_def (d : D) (ρ : SEnv) : eC d ρ = some (.pl d) := rfl
theorem tCmp2_def (f : D → D → Option Bool) (a b : SEnv → Option Sl) (ρ : SEnv) : tCmp2 f a b ρ = vw2 f (a ρ) (b ρ) := rfl
theorem eB_def (t : SEnv → Option Bool) (ρ : SEnv) : eB t ρ = (t ρ).map fun b => .pl (.bool b) := rfl
theorem sSeq_nx {f g : SEnv → Option Out} {ρ ρ' : SEnv} (h : f ρ = some (.nx ρ')) : sSeq f g ρ = g ρ' := by unfold sSeq; rw [h]
theorem sSeq_rt {f g : SEnv → Option Out} {ρ : SEnv} {s : Sl} (h : f ρ = some (.rt s)) : sSeq f g ρ = some (.rt s) := by unfold sSeq; rw [h]
theorem sAsg_of {i : Nat} {f : SEnv → Option Sl} {ρ : SEnv} {s t : Sl} (h : f ρ = some s) (hs : sto s = some t) : sAsg i f ρ = some (.nx (put ρ i t)) := by unfold sAsg; rw [h]; simp only [hs]; rfl
theorem eAnd_t {a b : SEnv → Option Sl} {ρ : SEnv} (h : a ρ = some (.pl (.bool true))) : eAnd a b ρ = b ρ := by unfold eAnd; rw [h]
theorem forD_nil (g : GF) (b : SEnv → Option Out) (ρ : SEnv) : forD g b [] ρ = some (.nx ρ) := rfl
theorem forD_nx {g : GF} {b : SEnv → Option Out} {d : D} {ds : List D} {ρ ρ1 ρ2 : SEnv} (h1 : g d ρ = some ρ1) (h2 : b ρ1 = some (.nx ρ2)) : forD g b (d :: ds) ρ = forD g b ds ρ2 := by rw [forD, h1]; simp only [h2]
theorem forD_rt {g : GF} {b : SEnv → Option Out} {d : D} {ds : List D} {ρ ρ1 : SEnv} {s : Sl} (h1 : g d ρ = some ρ1) (h2 : b ρ1 = some (.rt s)) : forD g b (d :: ds) ρ = some (.rt s) := by rw [forD, h1]; simp only [h2]
/-- a loop that goes on at each item, by an invariant -/
theorem forD_inv {g : GF} {b : SEnv → Option Out} (P : List D → SEnv → Prop) (h : ∀ d ds ρ, P (d :: ds) ρ → ∃ ρ1 ρ2, g d ρ = some ρ1 ∧ (b ρ1 = some (.nx ρ2) ∨ b ρ1 = some (.ct ρ2)) ∧ P ds ρ2) : ∀ ds ρ, P ds ρ → ∃ ρ', forD g b ds ρ = some (.nx ρ') ∧ P [] ρ'
  | [], ρ, p => ⟨ρ, rfl, p⟩
  | d :: ds, ρ, p => by
    obtain ⟨ρ1, ρ2, h1, h2, h3⟩ := h d ds ρ p
    obtain ⟨ρ', h4, h5⟩ := forD_inv P h ds ρ2 h3
    refine ⟨ρ', ?_, h5⟩
    rw [forD, h1]
    rcases h2 with h2 | h2 <;> simp only [h2] <;> exact h4
/-- a comprehension whose items all come out well -/
theorem lcD_all {g : GF} {t : SEnv → Option Bool} {e : SEnv → Option Sl} {α : Type} (ρ : SEnv) (f : α → D) (enc : α → D) (l : List α) (h : ∀ x ∈ l, ∃ ρ1 s, g (enc x) ρ = some ρ1 ∧ t ρ1 = some true ∧ e ρ1 = some s ∧ toD s = some (f x)) : lcD g t e (l.map enc) ρ = some (l.map f) := by
  induction l with
  | nil => rfl
  | cons x l ih =>
    obtain ⟨ρ1, s, h1, h2, h3, h4⟩ := h x (List.mem_cons_self ..)
    rw [List.map_cons, lcD, h1]
    simp only [h2, h3, Option.bind, h4]
    rw [ih fun y hy => h y (List.mem_cons_of_mem _ hy)]
    rfl
end DL
namespace DL
open PySem PySem.Spec PyProof.Rows L2
theorem sSeq_def (f g : SEnv → Option Out) (ρ : SEnv) : sSeq f g ρ = match f ρ with | some (.nx ρ') => g ρ' | o => o := rfl
theorem sAsg_def (i : Nat) (f : SEnv → Option Sl) (ρ : SEnv) : sAsg i f ρ = match f ρ with | some s => (sto s).map fun t => .nx (put ρ i t) | none => none := rfl
theorem sRet_def (f : SEnv → Option Sl) (ρ : SEnv) : sRet f ρ = (f ρ).map .rt := rfl
theorem sNext_def (ρ : SEnv) : sNext ρ = some (.nx ρ) := rfl
theorem sIf_def (t : SEnv → Option Bool) (f g : SEnv → Option Out) (ρ : SEnv) : sIf t f g ρ = match t ρ with | some true => f ρ | some false => g ρ | none => none := rfl
theorem fnD_def (n m : Nat) (g : SEnv → Option Out) (ss : List Sl) : fnD n m g ss = if ss.length = m then (match g (ss ++ List.replicate (n - ss.length) .un) with
    | some (.rt s) => some (.ret s)
    | some (.nx _) => some (.ret (.pl .none))
    | some (.ex x) => some (.exn x)
    | _ => none) else none := rfl
theorem eCall_def (F : Fn) (a : SEnv → Option (List Sl)) (ρ : SEnv) : eCall F a ρ = match a ρ with | some ss => (match F ss with | some (.ret s) => some s | _ => none) | none => none := rfl
theorem eBui_def (F : List Sl → Option Sl) (a : SEnv → Option (List Sl)) (ρ : SEnv) : eBui F a ρ = match a ρ with | some ss => F ss | none => none := rfl
theorem aCons_def (a : SEnv → Option Sl) (r : SEnv → Option (List Sl)) (ρ : SEnv) : aCons a r ρ = match a ρ, r ρ with | some s, some ss => some (bor s :: ss) | _, _ => none := rfl
theorem aNil_def (ρ : SEnv) : aNil ρ = some [] := rfl
theorem dCons_def (a : SEnv → Option Sl) (r : SEnv → Option (List D)) (ρ : SEnv) : dCons a r ρ = match a ρ with | some s => (match toD s, r ρ with | some d, some ds => some (d :: ds) | _, _ => none) | none => none := rfl
theorem dNil_def (ρ : SEnv) : dNil ρ = some [] := rfl
theorem eTup_def (f : SEnv → Option (List D)) (ρ : SEnv) : eTup f ρ = match f ρ with | some ds => if ds.length ≤ 1000 then some (.pl (.tuple ds)) else none | none => none := rfl
theorem eLst_def (f : SEnv → Option (List D)) (ρ : SEnv) : eLst f ρ = match f ρ with | some ds => if ds.length ≤ 1000 then some (.own ds) else none | none => none := rfl
theorem eIx_def (a b : SEnv → Option Sl) (ρ : SEnv) : eIx a b ρ = match a ρ, b ρ with | some s, some (.pl i) => (ixD s i).map .pl | _, _ => none := rfl
theorem tAnd2_def (t u : SEnv → Option Bool) (ρ : SEnv) : tAnd2 t u ρ = match t ρ with | some true => u ρ | some false => some false | none => none := rfl
theorem tOr2_def (t u : SEnv → Option Bool) (ρ : SEnv) : tOr2 t u ρ = match t ρ with | some true => some true | some false => u ρ | none => none := rfl
theorem tNot1_def (t : SEnv → Option Bool) (ρ : SEnv) : tNot1 t ρ = (t ρ).map (!·) := rfl
theorem tTru_def (a : SEnv → Option Sl) (ρ : SEnv) : tTru a ρ = match a ρ with | some s => truD s | none => none := rfl
theorem eAnd_def (a b : SEnv → Option Sl) (ρ : SEnv) : eAnd a b ρ = match a ρ with | some (.pl (.bool true)) => b ρ | some (.pl (.bool false)) => some (.pl (.bool false)) | _ => none := rfl
theorem eOr_def (a b : SEnv → Option Sl) (ρ : SEnv) : eOr a b ρ = match a ρ with | some (.pl (.bool true)) => some (.pl (.bool true)) | some (.pl (.bool false)) => b ρ | _ => none := rfl
theorem eIsi_def (T : String) (a : SEnv → Option Sl) (ρ : SEnv) : eIsi T a ρ = match a ρ with | some s => (isiS T s).map fun b => .pl (.bool b) | none => none := rfl
theorem sWipeB_def (is : List Nat) (f : SEnv → Option Out) (ρ : SEnv) : sWipeB is f ρ = (f ρ).map (wipeO is) := rfl
theorem sFor_def (src : SEnv → Option (List D)) (g : GF) (b : SEnv → Option Out) (ρ : SEnv) : sFor src g b ρ = match src ρ with | some ds => forD g b ds ρ | none => none := rfl
theorem eLc_def (src : SEnv → Option (List D)) (is : List Nat) (g : GF) (t : SEnv → Option Bool) (e : SEnv → Option Sl) (ρ : SEnv) : eLc src is g t e ρ = match src ρ with | some ds => if ds.length ≤ 100000 then (lcD g t e ds (wipe1 ρ is)).map .own else none | none => none := rfl
theorem eSl_def (a : SEnv → Option Sl) (l h : SEnv → Option (Option Int)) (ρ : SEnv) : eSl a l h ρ = match a ρ, l ρ, h ρ with | some s, some lo, some hi => slD s lo hi | _, _, _ => none := rfl
theorem oNone_def (ρ : SEnv) : oNone ρ = some none := rfl
theorem oSome_def (f : SEnv → Option Sl) (ρ : SEnv) : oSome f ρ = match f ρ with | some (.pl (.int i)) => some (some i) | _ => none := rfl
theorem wipeO_nx (is : List Nat) (ρ : SEnv) : wipeO is (.nx ρ) = .nx (wipe1 ρ is) := rfl
theorem wipeO_rt (is : List Nat) (s : Sl) : wipeO is (.rt s) = .rt s := rfl
theorem wipeO_bk (is : List Nat) (ρ : SEnv) : wipeO is (.bk ρ) = .bk (wipe1 ρ is) := rfl
theorem wipeO_ct (is : List Nat) (ρ : SEnv) : wipeO is (.ct ρ) = .ct (wipe1 ρ is) := rfl
theorem gPut_def (i : Nat) (d : D) (ρ : SEnv) : gPut i d ρ = some (put ρ i (.pl d)) := rfl
theorem gTupF_tup (n : Nat) (g : GsF) (ds : List D) (ρ : SEnv) : gTupF n g (.tuple ds) ρ = if ds.length = n then g ds ρ else none := rfl
theorem gsCons_cons (i : Nat) (g : GsF) (d : D) (ds : List D) (ρ : SEnv) : gsCons i g (d :: ds) ρ = g ds (put ρ i (.pl d)) := rfl
theorem gsNil_nil (ρ : SEnv) : gsNil [] ρ = some ρ := rfl
@[simp] theorem opt_map_some {α β : Type} (f : α → β) (a : α) : Option.map f (some a) = some (f a) := rfl
theorem opt_bind_some {α β : Type} (f : α → Option β) (a : α) : (some a).bind f = f a := rfl
theorem toD_pl (d : D) : toD (.pl d) = some d := rfl
theorem toD_own (ds : List D) : toD (.own ds) = some (.list ds) := rfl
theorem isi_int_int (i : Int) : isiS "int" (.pl (.int i)) = some true := show kitB "int" "int" = some true by decide +kernel
theorem isi_int_bool (i : Int) : isiS "bool" (.pl (.int i)) = some false := show kitB "int" "bool" = some false by decide +kernel
theorem csrc_def (f : SEnv → Option Sl) (ρ : SEnv) : csrc f ρ = (f ρ).bind litems := rfl
theorem vsrc_def (i : Nat) (ρ : SEnv) : vsrc i ρ = match get ρ i with | .pl (.list ds) => some ds | .brw ds => some ds | _ => none := rfl
theorem rg1_def (a : SEnv → Option (List Sl)) (ρ : SEnv) : rg1 a ρ = match a ρ with | some [.pl (.int j)] => if -(2 ^ 62) ≤ j ∧ j < 2 ^ 62 then some (rgD 0 j.toNat) else none | _ => none := rfl
theorem rg2_def (a : SEnv → Option (List Sl)) (ρ : SEnv) : rg2 a ρ = match a ρ with | some [.pl (.int i), .pl (.int j)] => if (-(2 ^ 62) ≤ i ∧ i < 2 ^ 62) ∧ -(2 ^ 62) ≤ j ∧ j < 2 ^ 62 then some (rgD i (j - i).toNat) else none | _ => none := rfl
theorem eSrc_def (g : Sl → Option (List D)) (f : SEnv → Option Sl) (ρ : SEnv) : eSrc g f ρ = (f ρ).bind g := rfl
theorem enT_def (f : SEnv → Option Sl) (ρ : SEnv) : enT f ρ = match f ρ with | some (.pl (.tuple ds)) => some (enumD ds) | _ => none := rfl
theorem enL_def (f : SEnv → Option Sl) (ρ : SEnv) : enL f ρ = match f ρ with | some (.pl (.list ds)) => some (enumD ds) | _ => none := rfl
theorem sFrz_def (i : Nat) (f : SEnv → Option Out) (ρ : SEnv) : sFrz i f ρ = f (frz ρ i) := rfl
theorem sRetVar_def (i : Nat) (ρ : SEnv) : sRetVar i ρ = (sto (get ρ i)).map .rt := rfl
theorem sMov_def (i j : Nat) (ρ : SEnv) : sMov i j ρ = if i = j then none else match get ρ j with | .un => none | s => some (.nx (put (put ρ j .un) i s)) := rfl
theorem lenF_brw (ds : List D) : lenF [.brw ds] = some (.pl (.int (ds.length : Int))) := rfl
theorem lenF_tuple (ds : List D) : lenF [.pl (.tuple ds)] = some (.pl (.int (ds.length : Int))) := rfl
theorem lenF_list (ds : List D) : lenF [.pl (.list ds)] = some (.pl (.int (ds.length : Int))) := rfl
theorem ixD_tuple (ds : List D) (i : Int) : ixD (.pl (.tuple ds)) (.int i) = atI ds i := rfl
theorem ixD_list (ds : List D) (i : Int) : ixD (.pl (.list ds)) (.int i) = atI ds i := rfl
theorem ixD_brw (ds : List D) (i : Int) : ixD (.brw ds) (.int i) = atI ds i := rfl
theorem ixD_own (ds : List D) (i : Int) : ixD (.own ds) (.int i) = atI ds i := rfl
theorem atI_map {α β : Type} (f : α → β) (xs : List α) (i : Int) : atI (xs.map f) i = (atI xs i).map f := by
  unfold atI
  rw [List.length_map]
  cases ixN xs.length i with
  | none => rfl
  | some j => simp only [Option.bind, List.getElem?_map]
theorem atI_lt {α : Type} {xs : List α} {i : Int} (h0 : 0 ≤ i) (h : i < xs.length) : atI xs i = xs[i.toNat]? := by
  unfold atI ixN
  rw [if_pos h0, if_pos h]
  rfl
theorem rgD_succ (lo : Int) (n : Nat) : rgD lo (n + 1) = .int lo :: rgD (lo + 1) n := by
  unfold rgD
  rw [List.range_succ_eq_map, List.map_cons, List.map_map]
  congr 1
  · simp
  · apply List.map_congr_left
    intro i _
    show PyData.int (lo + ((i + 1 : Nat) : Int)) = PyData.int (lo + 1 + (i : Int))
    congr 1
    omega
theorem rgD_zero (lo : Int) : rgD lo 0 = [] := rfl
/-- enumerate from a number on -/
def enumFrom (i : Nat) (ds : List D) : List D := (ds.zipIdx i).map fun p => .tuple [.int (p.2 : Nat), p.1]
theorem enumD_eq (ds : List D) : enumD ds = enumFrom 0 ds := rfl
theorem enumFrom_nil (i : Nat) : enumFrom i [] = [] := rfl
theorem enumFrom_cons (i : Nat) (d : D) (ds : List D) : enumFrom i (d :: ds) = .tuple [.int (i : Nat), d] :: enumFrom (i + 1) ds := rfl
/-- None or a whole number -/
def oD : Option Int → D
  | none => .none
  | some i => .int i
theorem oD_none : oD none = .none := rfl
theorem oD_some (i : Int) : oD (some i) = .int i := rfl
theorem fn_if {P : Prop} [Decidable P] {α : Type} {a b : α} (h : P) : (if P then a else b) = a := if_pos h
/-! ### items by their places -/
def mapI {α β : Type} (f : Nat → α → β) : Nat → List α → List β
  | _, [] => []
  | i, x :: xs => f i x :: mapI f (i + 1) xs
def anyI {α : Type} (p : Nat → α → Bool) : Nat → List α → Bool
  | _, [] => false
  | i, x :: xs => p i x || anyI p (i + 1) xs
def foldI {α β : Type} (f : Nat → α → β → β) : Nat → List α → β → β
  | _, [], b => b
  | i, x :: xs, b => foldI f (i + 1) xs (f i x b)
/-- those that pass -/
def collI {α β : Type} (p : Nat → α → Bool) (v : Nat → α → β) : Nat → List α → List β
  | _, [] => []
  | i, x :: xs => if p i x then v i x :: collI p v (i + 1) xs else collI p v (i + 1) xs
theorem mapI_length {α β : Type} (f : Nat → α → β) : ∀ (i : Nat) (xs : List α), (mapI f i xs).length = xs.length
  | _, [] => rfl
  | i, x :: xs => by rw [mapI, List.length_cons, mapI_length f (i + 1) xs, List.length_cons]
theorem enumFrom_mapI {α : Type} (e : α → D) : ∀ (i : Nat) (xs : List α), enumFrom i (xs.map e) = mapI (fun k x => .tuple [.int (k : Nat), e x]) i xs
  | _, [] => rfl
  | i, x :: xs => by rw [List.map_cons, enumFrom_cons, mapI, enumFrom_mapI e (i + 1) xs]
theorem rgD_mapI {α : Type} : ∀ (i : Nat) (xs : List α), rgD (i : Int) xs.length = mapI (fun k _ => .int (k : Nat)) i xs
  | _, [] => rfl
  | i, x :: xs => by
    rw [List.length_cons, rgD_succ, mapI, ← rgD_mapI (i + 1) xs]
    rfl
theorem rgD0_mapI {α : Type} (xs : List α) : rgD 0 xs.length = mapI (fun k _ => .int (k : Nat)) 0 xs := rgD_mapI 0 xs
theorem rgD0_range (n : Nat) : rgD 0 n = mapI (fun k _ => .int (k : Nat)) 0 (List.replicate n ()) := by
  have := rgD0_mapI (List.replicate n ())
  rw [List.length_replicate] at this
  exact this
theorem anyI_iff {α : Type} {p : Nat → α → Bool} : ∀ {i : Nat} {xs : List α}, anyI p i xs = true ↔ ∃ k x, xs[k]? = some x ∧ p (i + k) x = true
  | i, [] => by simp [anyI]
  | i, x :: xs => by
    rw [anyI, Bool.or_eq_true, anyI_iff]
    constructor
    · rintro (h | ⟨k, y, h1, h2⟩)
      · exact ⟨0, x, rfl, h⟩
      · exact ⟨k + 1, y, by simpa using h1, by rw [show i + (k + 1) = i + 1 + k by omega]; exact h2⟩
    · rintro ⟨k, y, h1, h2⟩
      cases k with
      | zero => simp at h1; subst h1; exact .inl h2
      | succ k => exact .inr ⟨k, y, by simpa using h1, by rw [show i + 1 + k = i + (k + 1) by omega]; exact h2⟩
theorem collI_mem {α β : Type} {p : Nat → α → Bool} {v : Nat → α → β} {b : β} : ∀ {i : Nat} {xs : List α}, b ∈ collI p v i xs ↔ ∃ k x, xs[k]? = some x ∧ p (i + k) x = true ∧ b = v (i + k) x
  | i, [] => by simp [collI]
  | i, x :: xs => by
    have ih := collI_mem (p := p) (v := v) (b := b) (i := i + 1) (xs := xs)
    rw [collI]
    constructor
    · intro h
      by_cases c : p i x = true
      · rw [if_pos c] at h
        rcases List.mem_cons.mp h with e | h
        · exact ⟨0, x, rfl, c, e⟩
        · obtain ⟨k, y, h1, h2, h3⟩ := ih.mp h
          exact ⟨k + 1, y, by simpa using h1, by rw [show i + (k + 1) = i + 1 + k by omega]; exact h2, by rw [show i + (k + 1) = i + 1 + k by omega]; exact h3⟩
      · rw [if_neg c] at h
        obtain ⟨k, y, h1, h2, h3⟩ := ih.mp h
        exact ⟨k + 1, y, by simpa using h1, by rw [show i + (k + 1) = i + 1 + k by omega]; exact h2, by rw [show i + (k + 1) = i + 1 + k by omega]; exact h3⟩
    · rintro ⟨k, y, h1, h2, h3⟩
      cases k with
      | zero =>
        simp at h1
        subst h1
        rw [if_pos (by simpa using h2)]
        exact List.mem_cons.mpr (.inl (by simpa using h3))
      | succ k =>
        have : b ∈ collI p v (i + 1) xs := ih.mpr ⟨k, y, by simpa using h1, by rw [show i + 1 + k = i + (k + 1) by omega]; exact h2, by rw [show i + 1 + k = i + (k + 1) by omega]; exact h3⟩
        split
        · exact List.mem_cons_of_mem _ this
        · exact this
theorem collI_map {α β γ : Type} (p : Nat → α → Bool) (v : Nat → α → β) (f : β → γ) : ∀ (i : Nat) (xs : List α), collI p (fun k x => f (v k x)) i xs = (collI p v i xs).map f
  | _, [] => rfl
  | i, x :: xs => by
    rw [collI, collI, collI_map p v f (i + 1) xs]
    split <;> rfl
/-- a loop that leaves with s at the first item that p tells -/
theorem forD_find {α : Type} {g : GF} {b : SEnv → Option Out} (f : Nat → α → D) (p : Nat → α → Bool) (o : Out) (ho : ∀ ρ', o ≠ .nx ρ' ∧ o ≠ .ct ρ' ∧ o ≠ .bk ρ') (ρ : SEnv) : ∀ (xs : List α) (i : Nat), (∀ k x, xs[k]? = some x → ∃ ρ1, g (f (i + k) x) ρ = some ρ1 ∧ b ρ1 = if p (i + k) x then some o else some (.nx ρ)) →
    forD g b (mapI f i xs) ρ = if anyI p i xs then some o else some (.nx ρ)
  | [], i, _ => rfl
  | x :: xs, i, h => by
    obtain ⟨ρ1, h1, h2⟩ := h 0 x rfl
    rw [Nat.add_zero] at h1 h2
    rw [mapI, anyI, forD, h1]
    have ih := forD_find f p o ho ρ xs (i + 1) fun k y e => by
      have := h (k + 1) y (by simpa using e)
      rw [show i + (k + 1) = i + 1 + k by omega] at this
      exact this
    cases c : p i x with
    | true =>
      rw [c] at h2
      simp only [h2, if_true, Bool.true_or]
      cases o with
      | nx ρ' => exact absurd rfl (ho ρ').1
      | ct ρ' => exact absurd rfl (ho ρ').2.1
      | bk ρ' => exact absurd rfl (ho ρ').2.2
      | rt s => rfl
      | ex x => rfl
    | false =>
      rw [c] at h2
      simp only [h2, Bool.false_eq_true, if_false, Bool.false_or]
      exact ih
theorem rt_ok (s : Sl) (ρ' : SEnv) : (Out.rt s) ≠ .nx ρ' ∧ (Out.rt s) ≠ .ct ρ' ∧ (Out.rt s) ≠ .bk ρ' := ⟨fun h => (nomatch h), fun h => (nomatch h), fun h => (nomatch h)⟩
/-- a loop that goes on, its state told by st -/
theorem forD_fold {α β : Type} {g : GF} {b : SEnv → Option Out} (f : Nat → α → D) (E : β → SEnv) (step : Nat → α → β → β) (I : Nat → β → Prop) : ∀ (xs : List α) (i : Nat) (st : β), I i st →
    (∀ k x st, xs[k]? = some x → I (i + k) st → (∃ ρ1, g (f (i + k) x) (E st) = some ρ1 ∧ b ρ1 = some (.nx (E (step (i + k) x st)))) ∧ I (i + k + 1) (step (i + k) x st)) →
    forD g b (mapI f i xs) (E st) = some (.nx (E (foldI step i xs st))) ∧ I (i + xs.length) (foldI step i xs st)
  | [], i, st, hI, _ => ⟨rfl, hI⟩
  | x :: xs, i, st, hI, h => by
    obtain ⟨⟨ρ1, h1, h2⟩, h3⟩ := h 0 x st rfl hI
    rw [Nat.add_zero] at h1 h2 h3
    have ih := forD_fold (g := g) (b := b) f E step I xs (i + 1) (step i x st) h3 fun k y st e hI => by
      have := h (k + 1) y st (by simpa using e)
      rw [show i + (k + 1) = i + 1 + k by omega] at this
      exact this hI
    rw [mapI, forD_nx h1 h2, foldI, List.length_cons, show i + (xs.length + 1) = i + 1 + xs.length by omega]
    exact ih
/-- a comprehension with a test -/
theorem lcD_coll {α : Type} {g : GF} {t : SEnv → Option Bool} {e : SEnv → Option Sl} (f : Nat → α → D) (p : Nat → α → Bool) (v : Nat → α → D) (ρ : SEnv) : ∀ (xs : List α) (i : Nat), (∀ k x, xs[k]? = some x → ∃ ρ1, g (f (i + k) x) ρ = some ρ1 ∧ t ρ1 = some (p (i + k) x) ∧ (p (i + k) x = true → ∃ s, e ρ1 = some s ∧ toD s = some (v (i + k) x))) →
    lcD g t e (mapI f i xs) ρ = some (collI p v i xs)
  | [], i, _ => rfl
  | x :: xs, i, h => by
    obtain ⟨ρ1, h1, h2, h3⟩ := h 0 x rfl
    rw [Nat.add_zero] at h1 h2 h3
    have ih := lcD_coll (g := g) (t := t) (e := e) f p v ρ xs (i + 1) fun k y q => by
      have := h (k + 1) y (by simpa using q)
      rw [show i + (k + 1) = i + 1 + k by omega] at this
      exact this
    rw [mapI, lcD, h1, collI]
    cases c : p i x with
    | true =>
      rw [c] at h2
      obtain ⟨s, h4, h5⟩ := h3 c
      simp only [h2, h4, Option.bind, h5, ih, if_true]
    | false =>
      rw [c] at h2
      simp only [h2, ih, Bool.false_eq_true, if_false]
/-- the least of the numbers that P tells -/
def IsLeast (P : Int → Prop) : Option Int → Prop
  | none => ∀ x, ¬ P x
  | some v => P v ∧ ∀ x, P x → v ≤ x
theorem IsLeast.uniq {P : Int → Prop} : ∀ {o o' : Option Int}, IsLeast P o → IsLeast P o' → o = o'
  | none, none, _, _ => rfl
  | none, some v, h, h' => absurd h'.1 (h v)
  | some v, none, h, h' => absurd h.1 (h' v)
  | some v, some w, h, h' => by
    have h1 := h.2 w h'.1
    have h2 := h'.2 v h.1
    rw [show v = w by omega]
theorem IsLeast.imp {P P' : Int → Prop} (e : ∀ x, P x ↔ P' x) : ∀ {o : Option Int}, IsLeast P o → IsLeast P' o
  | none, h => fun x q => h x ((e x).mpr q)
  | some v, h => ⟨(e v).mp h.1, fun x q => h.2 x ((e x).mpr q)⟩
def minO : List Int → Option Int
  | [] => none
  | a :: l => some (minL a l)
theorem minO_least (l : List Int) : IsLeast (· ∈ l) (minO l) := by
  cases l with
  | nil => exact fun x h => nomatch h
  | cons a l =>
    refine ⟨?_, fun x hx => ?_⟩
    · rcases minL_mem l a with e | e
      · rw [e]; exact List.mem_cons_self ..
      · exact List.mem_cons_of_mem _ e
    · rcases List.mem_cons.mp hx with e | e
      · rw [e]; exact (minL_le l a).1
      · exact (minL_le l a).2 x e
theorem minF_ints {s : Sl} {a : Int} {l : List Int} (h : litems s = some ((a :: l).map PyData.int)) : minF [s] = some (.pl (.int (minL a l))) := by
  show minS s = _
  unfold minS
  rw [h, opt_bind_some, intsD_map]
/-- a loop that goes on, some state behind each turn -/
theorem forD_ex {α β : Type} {g : GF} {b : SEnv → Option Out} (f : Nat → α → D) (E : β → SEnv) (I : Nat → β → Prop) : ∀ (xs : List α) (i : Nat) (st : β), I i st →
    (∀ k x st, xs[k]? = some x → I (i + k) st → ∃ st', (∃ ρ1, g (f (i + k) x) (E st) = some ρ1 ∧ (b ρ1 = some (.nx (E st')) ∨ b ρ1 = some (.ct (E st')))) ∧ I (i + k + 1) st') →
    ∃ st', forD g b (mapI f i xs) (E st) = some (.nx (E st')) ∧ I (i + xs.length) st'
  | [], i, st, hI, _ => ⟨st, rfl, hI⟩
  | x :: xs, i, st, hI, h => by
    obtain ⟨st', ⟨ρ1, h1, h2⟩, h3⟩ := h 0 x st rfl hI
    rw [Nat.add_zero] at h1 h3
    obtain ⟨st2, h4, h5⟩ := forD_ex (g := g) (b := b) f E I xs (i + 1) st' h3 fun k y st e hI => by
      have := h (k + 1) y st (by simpa using e)
      rw [show i + (k + 1) = i + 1 + k by omega] at this
      exact this hI
    refine ⟨st2, ?_, by rw [List.length_cons, show i + (xs.length + 1) = i + 1 + xs.length by omega]; exact h5⟩
    rw [mapI, forD, h1]
    rcases h2 with h2 | h2 <;> simp only [h2] <;> exact h4
theorem map_mapI {α : Type} (f : α → D) (xs : List α) : ∀ i : Nat, xs.map f = mapI (fun _ x => f x) i xs := by
  induction xs with
  | nil => exact fun _ => rfl
  | cons x xs ih => exact fun i => by rw [List.map_cons, mapI, ← ih (i + 1)]
end DL

set_option Elab.async false
set_option linter.all false
set_option maxRecDepth 100000
set_option maxHeartbeats 1000000
/-! DLB: sets of worlds as ints, bit by bit. -/
namespace DL
open PySem PySem.Spec PyProof.Rows L2
/-- the k-th bit -/
def bt (x : Int) (k : Nat) : Bool := x / 2 ^ k % 2 == 1
theorem pow_pos2 (k : Nat) : (0 : Int) < 2 ^ k := Int.pow_pos (by decide)
theorem bt_nat (n k : Nat) : bt (n : Int) k = n.testBit k := by
  unfold bt
  rw [Nat.testBit_eq_decide_div_mod_eq]
  have e : ((n : Int) / 2 ^ k % 2) = ((n / 2 ^ k % 2 : Nat) : Int) := by
    rw [Int.natCast_emod, Int.natCast_ediv, Int.natCast_pow]
    rfl
  rw [e]
  by_cases c : n / 2 ^ k % 2 = 1
  · rw [c]; rfl
  · rw [decide_eq_false c, beq_eq_false_iff_ne]
    omega
theorem bitNot_eq (x : Int) : Builtin.bitNot x = -x - 1 := by unfold Builtin.bitNot; omega
theorem neg_div (x d : Int) (hd : 0 < d) : (-x - 1) / d = -(x / d) - 1 := by
  have h1 := Int.emod_add_mul_ediv x d
  have h2 := Int.emod_nonneg x (show d ≠ 0 by omega)
  have h3 := Int.emod_lt_of_pos x hd
  have e : -x - 1 = (d - 1 - x % d) + d * (-(x / d) - 1) := by
    rw [Int.mul_sub, Int.mul_neg]
    omega
  rw [e, Int.add_mul_ediv_left _ _ (show d ≠ 0 by omega), Int.ediv_eq_zero_of_lt (by omega) (by omega)]
  omega
theorem bt_not (x : Int) (k : Nat) : bt (Builtin.bitNot x) k = !bt x k := by
  unfold bt
  rw [bitNot_eq, neg_div x _ (pow_pos2 k)]
  generalize x / 2 ^ k = y
  by_cases c : y % 2 = 1
  · rw [c]
    have : (-y - 1) % 2 = 0 := by omega
    rw [this]
    rfl
  · have c0 : y % 2 = 0 := by omega
    have : (-y - 1) % 2 = 1 := by omega
    rw [this, c0]
    rfl
theorem sub_and_xor (a b : Nat) : a - (a &&& b) = a ^^^ (a &&& b) := by
  have h1 := Bits.nat_xor_add_and a (a &&& b)
  have h2 : a &&& (a &&& b) = a &&& b := by
    apply Nat.eq_of_testBit_eq
    intro i
    rw [Nat.testBit_and, Nat.testBit_and]
    cases a.testBit i <;> cases b.testBit i <;> rfl
  rw [h2] at h1
  omega
theorem sub_and_test (a b k : Nat) : (a - (a &&& b)).testBit k = (a.testBit k && !b.testBit k) := by
  rw [sub_and_xor, Nat.testBit_xor, Nat.testBit_and]
  cases a.testBit k <;> cases b.testBit k <;> rfl
theorem bt_cast {x : Int} (h : 0 ≤ x) (k : Nat) : bt x k = x.toNat.testBit k := by
  rw [← bt_nat, Int.toNat_of_nonneg h]
theorem bt_neg {x : Int} (h : ¬ 0 ≤ x) (k : Nat) : bt x k = !(Builtin.bitNot x).toNat.testBit k := by
  have := bt_not x k
  rw [bt_cast (by rw [bitNot_eq]; omega)] at this
  rw [this]
  cases bt x k <;> rfl
theorem bt_and (x y : Int) (k : Nat) : bt (Builtin.bitAnd x y) k = (bt x k && bt y k) := by
  unfold Builtin.bitAnd
  by_cases hx : 0 ≤ x
  · by_cases hy : 0 ≤ y
    · rw [decide_eq_true hx, decide_eq_true hy]
      show bt ((x.toNat &&& y.toNat : Nat) : Int) k = _
      rw [bt_nat, Nat.testBit_and, bt_cast hx, bt_cast hy]
    · rw [decide_eq_true hx, decide_eq_false hy]
      show bt (x - ((x.toNat &&& (Builtin.bitNot y).toNat : Nat) : Int)) k = _
      have hle := @Nat.and_le_left x.toNat (Builtin.bitNot y).toNat
      have e : x - ((x.toNat &&& (Builtin.bitNot y).toNat : Nat) : Int) = ((x.toNat - (x.toNat &&& (Builtin.bitNot y).toNat) : Nat) : Int) := by omega
      rw [e, bt_nat, sub_and_test, bt_cast hx, bt_neg hy]
  · by_cases hy : 0 ≤ y
    · rw [decide_eq_false hx, decide_eq_true hy]
      show bt (y - ((y.toNat &&& (Builtin.bitNot x).toNat : Nat) : Int)) k = _
      have hle := @Nat.and_le_left y.toNat (Builtin.bitNot x).toNat
      have e : y - ((y.toNat &&& (Builtin.bitNot x).toNat : Nat) : Int) = ((y.toNat - (y.toNat &&& (Builtin.bitNot x).toNat) : Nat) : Int) := by omega
      rw [e, bt_nat, sub_and_test, bt_cast hy, bt_neg hx, Bool.and_comm]
    · rw [decide_eq_false hx, decide_eq_false hy]
      show bt (Builtin.bitNot (((Builtin.bitNot x).toNat ||| (Builtin.bitNot y).toNat : Nat) : Int)) k = _
      rw [bt_not, bt_nat, Nat.testBit_or, bt_neg hx, bt_neg hy, Bool.not_or]
theorem bt_or (x y : Int) (k : Nat) : bt (Builtin.bitOr x y) k = (bt x k || bt y k) := by
  unfold Builtin.bitOr
  rw [bt_not, bt_and, bt_not, bt_not]
  cases bt x k <;> cases bt y k <;> rfl
theorem bt_mask (n k : Nat) : bt (2 ^ n - 1) k = decide (k < n) := by
  have e : (2 : Int) ^ n - 1 = ((2 ^ n - 1 : Nat) : Int) := by
    have := Nat.two_pow_pos n
    rw [Int.natCast_sub (by omega), Int.natCast_pow]
    rfl
  rw [e, bt_nat, Nat.testBit_two_pow_sub_one]
theorem bt_pow (n k : Nat) : bt (2 ^ n) k = decide (n = k) := by
  have e : (2 : Int) ^ n = ((2 ^ n : Nat) : Int) := by rw [Int.natCast_pow]; rfl
  rw [e, bt_nat, Nat.testBit_two_pow]
theorem bt_zero (k : Nat) : bt 0 k = false := by
  have := bt_nat 0 k
  rw [Nat.zero_testBit] at this
  exact this
theorem bt_ext {x y : Int} (hx : 0 ≤ x) (hy : 0 ≤ y) (h : ∀ k, bt x k = bt y k) : x = y := by
  have : x.toNat = y.toNat := Nat.eq_of_testBit_eq fun i => by rw [← bt_cast hx, ← bt_cast hy, h]
  omega
theorem bt_lt {x : Int} {n : Nat} (h0 : 0 ≤ x) (h : ∀ k, n ≤ k → bt x k = false) : x < 2 ^ n := by
  have := Nat.lt_pow_two_of_testBit x.toNat (n := n) fun i hi => by rw [← bt_cast h0]; exact h i hi
  have e : (2 : Int) ^ n = ((2 ^ n : Nat) : Int) := by rw [Int.natCast_pow]; rfl
  rw [e]
  omega
theorem bt_of_lt {x : Int} {n k : Nat} (h0 : 0 ≤ x) (h : x < 2 ^ n) (hk : n ≤ k) : bt x k = false := by
  rw [bt_cast h0]
  have e : (2 : Int) ^ n = ((2 ^ n : Nat) : Int) := by rw [Int.natCast_pow]; rfl
  rw [e] at h
  exact Nat.testBit_lt_two_pow (Nat.lt_of_lt_of_le (show x.toNat < 2 ^ n by omega) (Nat.pow_le_pow_right (by decide) hk))
theorem and_nonneg {x y : Int} (h : 0 ≤ x ∨ 0 ≤ y) : 0 ≤ Builtin.bitAnd x y := by
  rcases h with h | h
  · rw [bitAnd_comm]; exact (bitAnd_range y h).1
  · exact (bitAnd_range x h).1
theorem or_nonneg {x y : Int} (hx : 0 ≤ x) (hy : 0 ≤ y) : 0 ≤ Builtin.bitOr x y := Bits.bitOr_nonneg hx hy
/-- the test that the program writes: x >> k & 1 -/
theorem bit_test (x : Int) (k : Nat) : Builtin.bitAnd (x / 2 ^ k) 1 = if bt x k then 1 else 0 := by
  rw [bitAnd_m1]
  unfold bt
  by_cases c : x / 2 ^ k % 2 = 1
  · rw [c]; rfl
  · have : x / 2 ^ k % 2 = 0 := by omega
    rw [this]; rfl
theorem bit_test1 (x : Int) (k : Nat) : (Builtin.bitAnd (x / 2 ^ k) 1 == 1) = bt x k := by
  rw [bit_test]
  cases bt x k <;> rfl
theorem bit_test0 (x : Int) (k : Nat) : (Builtin.bitAnd (x / 2 ^ k) 1 == 0) = !bt x k := by
  rw [bit_test]
  cases bt x k <;> rfl
theorem bt_succ (x : Int) (k : Nat) : bt x (k + 1) = bt (x / 2) k := by
  unfold bt
  rw [Int.pow_succ, Int.mul_comm, ← Int.ediv_ediv_of_nonneg (by decide : (0 : Int) ≤ 2)]
theorem bt_0 (x : Int) : bt x 0 = (x % 2 == 1) := by
  unfold bt
  rw [Int.pow_zero, Int.ediv_one]
/-- the set of some worlds, by its sum -/
theorem bt_add_pow {x : Int} {n : Nat} (h0 : 0 ≤ x) (h : x < 2 ^ n) (k : Nat) : bt (x + 2 ^ n) k = (bt x k || decide (n = k)) := by
  have e : (2 : Int) ^ n = ((2 ^ n : Nat) : Int) := by rw [Int.natCast_pow]; rfl
  have hx : x.toNat < 2 ^ n := by rw [e] at h; omega
  have e2 : x + 2 ^ n = ((2 ^ n * 1 + x.toNat : Nat) : Int) := by rw [e]; omega
  rw [e2, bt_nat, Nat.two_pow_add_eq_or_of_lt hx, Nat.testBit_or, Nat.mul_one, Nat.testBit_two_pow, bt_cast h0, Bool.or_comm]
def setOf (l : List Nat) : Int := (l.map fun w => (2 : Int) ^ w).sum
theorem setOf_append (l m : List Nat) : setOf (l ++ m) = setOf l + setOf m := by unfold setOf; rw [List.map_append, List.sum_append]
theorem setOf_one (w : Nat) : setOf [w] = 2 ^ w := by simp [setOf]
theorem setOf_filter_range (p : Nat → Bool) : ∀ n : Nat, 0 ≤ setOf ((List.range n).filter p) ∧ setOf ((List.range n).filter p) < 2 ^ n ∧ ∀ k, bt (setOf ((List.range n).filter p)) k = (decide (k < n) && p k)
  | 0 => ⟨Int.le_refl 0, show (0 : Int) < 1 by decide, fun k => by show bt 0 k = _; rw [bt_zero]; simp⟩
  | n + 1 => by
    obtain ⟨h1, h2, h3⟩ := setOf_filter_range p n
    have hp := pow_pos2 n
    rw [List.range_succ, List.filter_append]
    cases c : p n with
    | true =>
      have e : [n].filter p = [n] := by simp [c]
      rw [e, setOf_append, setOf_one]
      refine ⟨by omega, by rw [Int.pow_succ]; omega, fun k => ?_⟩
      rw [bt_add_pow h1 h2, h3]
      by_cases hk : k = n
      · subst hk; simp [c]
      · have : decide (n = k) = false := decide_eq_false (Ne.symm hk)
        rw [this, Bool.or_false]
        by_cases hkn : k < n
        · simp [hkn, Nat.lt_succ_of_lt hkn]
        · have : ¬ k < n + 1 := by omega
          simp [hkn, this]
    | false =>
      have e : [n].filter p = [] := by simp [c]
      rw [e, List.append_nil]
      refine ⟨h1, by rw [Int.pow_succ]; omega, fun k => ?_⟩
      rw [h3]
      by_cases hk : k = n
      · subst hk; simp [c]
      · by_cases hkn : k < n
        · simp [hkn, Nat.lt_succ_of_lt hkn]
        · have : ¬ k < n + 1 := by omega
          simp [hkn, this]
/-! ### == of lists -/
theorem lay_all {ds : List D} (h : ∀ d ∈ ds, d.canLay0 = true) : PyData.canLayAll0 ds = true := by
  induction ds with
  | nil => rfl
  | cons d ds ih =>
    show (d.canLay0 && PyData.canLayAll0 ds) = true
    rw [h d (List.mem_cons_self ..), ih fun x hx => h x (List.mem_cons_of_mem _ hx)]
    rfl
theorem depth_all {ds : List D} {n : Nat} (h : ∀ d ∈ ds, d.depth ≤ n) : PyData.depthAll ds ≤ n := by
  induction ds with
  | nil => simp [PyData.depthAll]
  | cons d ds ih =>
    have h1 := h d (List.mem_cons_self ..)
    have h2 := ih fun x hx => h x (List.mem_cons_of_mem _ hx)
    simp only [PyData.depthAll]
    omega
/-- data of so many storeys at most -/
def ShD (n : Nat) (d : D) : Prop := d.canLay0 = true ∧ d.depth ≤ n
theorem ShD.shaped {n : Nat} {d : D} (h : ShD n d) (hn : n ≤ 64) : SeqAt.shaped d = true := by
  show (d.canLay0 && decide (d.depth ≤ 64)) = true
  rw [h.1, decide_eq_true (Nat.le_trans h.2 hn)]
  rfl
theorem shD_list {n : Nat} {ds : List D} (h : ∀ d ∈ ds, ShD n d) : ShD (n + 1) (.list ds) := by
  refine ⟨?_, ?_⟩
  · show PyData.canLayAll0 ds = true
    exact lay_all fun d hd => (h d hd).1
  · have := depth_all (n := n) fun d hd => (h d hd).2
    simp only [PyData.depth]
    omega
theorem shD_tuple {n : Nat} {ds : List D} (h : ∀ d ∈ ds, ShD n d) : ShD (n + 1) (.tuple ds) := by
  refine ⟨?_, ?_⟩
  · show PyData.canLayAll0 ds = true
    exact lay_all fun d hd => (h d hd).1
  · have := depth_all (n := n) fun d hd => (h d hd).2
    simp only [PyData.depth]
    omega
theorem shD_int (i : Int) : ShD 0 (.int i) := ⟨rfl, by simp [PyData.depth]⟩
theorem shD_none : ShD 0 .none := ⟨rfl, by simp [PyData.depth]⟩
theorem shD_bool (b : Bool) : ShD 0 (.bool b) := ⟨rfl, by simp [PyData.depth]⟩
theorem shD_str {s : Str} (h : PyData.canLay0 (.str s) = true) : ShD 0 (.str s) := ⟨h, by simp [PyData.depth]⟩
theorem ShD.mono {m n : Nat} {d : D} (h : ShD m d) (hn : m ≤ n) : ShD n d := ⟨h.1, Nat.le_trans h.2 hn⟩
theorem shD_oD (o : Option Int) : ShD 0 (oD o) := by cases o; exact shD_none; exact shD_int _
theorem eqD_list_nil {n : Nat} {ds : List D} (h : ∀ d ∈ ds, ShD n d) (hn : n + 1 ≤ 64) : eqD (.list ds) (.list []) = some ds.isEmpty := by
  rw [eqD_g rfl ((shD_list h).shaped hn) (by rfl)]
  cases ds <;> rfl
theorem neD_list_nil {n : Nat} {ds : List D} (h : ∀ d ∈ ds, ShD n d) (hn : n + 1 ≤ 64) : neD (.list ds) (.list []) = some !ds.isEmpty := by
  unfold neD
  rw [eqD_list_nil h hn]
  rfl
theorem eqvAll_map {α : Type} [DecidableEq α] (f : α → D) (hf : ∀ a b, PyData.eqv (f a) (f b) = decide (a = b)) : ∀ xs ys : List α, PyData.eqvAll (xs.map f) (ys.map f) = decide (xs = ys)
  | [], [] => rfl
  | [], _ :: _ => rfl
  | _ :: _, [] => rfl
  | a :: xs, b :: ys => by
    show (PyData.eqv (f a) (f b) && PyData.eqvAll (xs.map f) (ys.map f)) = _
    rw [hf, eqvAll_map f hf xs ys]
    by_cases c : a = b
    · by_cases c2 : xs = ys
      · simp [c, c2]
      · simp [c, c2]
    · simp [c]
theorem eqv_int (a b : Int) : PyData.eqv (.int a) (.int b) = decide (a = b) := by
  show (a == b) = _
  by_cases c : a = b
  · simp [c]
  · simp [c]
theorem eqv_oD (a b : Option Int) : PyData.eqv (oD a) (oD b) = decide (a = b) := by
  cases a with
  | none => cases b <;> rfl
  | some a => cases b with
    | none => rfl
    | some b =>
      rw [oD_some, oD_some, eqv_int]
      by_cases c : a = b
      · simp [c]
      · simp [c]
end DL

set_option Elab.async false
set_option linter.all false
set_option maxRecDepth 100000
set_option maxHeartbeats 1000000
/-! DLM: max, min of a list of ints with default=. -/
namespace DL
open PySem PySem.Spec PyProof.Rows L2

section
variable {prog : Program} {w : World} {A : Around} {R : Result → Shared → Prop} {I : Addr} {fp wr : List Addr} {n : Nat} {P : Nat → Value → Prop} {St : Nat → Heap → Prop}
theorem args_maxD (a v : Value) : argsOk "max" ⟨[a], [(Str.ofString "default", v)]⟩ := by unfold argsOk; kernel_rfl
theorem name_max : (toString "max" ++ toString ".loop" : String) = "max.loop" := by decide
/-- the turns behind the first one -/
theorem maxD_turns (W : Walks prog w A.in1 I fp wr n P St) (bt : Nat → Nat → Bool) (hcmp : CmpOf prog w A.in1 .Gt P bt) (S : Addr) (hSf : S ∉ fp) (d : Value) : ∀ (k j : Nat), j + 1 + k = n → ∀ (s : Shared) (vb : Value) (c : Nat), St (j + 1) s.heap → P (argBest bt j) vb →
    s.heap.get? S = some { cls := .type "list", dict := none, data := .seq #[vb, vb] c, slots := #[] } →
    (∀ v h' tk, P (argBest bt (n - 1)) v → (∀ b o, b ∉ wr → b ≠ S → s.heap.get? b = some o → h'.get? b = some o) → R (.ok (.ret v)) { s with heap := h', toks := tk }) →
    codeAny (model prog w) A (.builtin "max.loop" ⟨[.ref I, .none, .ref S], [(Str.ofString "default", d)]⟩) R s
  | 0, j, hk, s, vb, c, hst, hP, hS, hR => by
    have hSw : S ∉ wr := fun h => hSf (W.sub _ h)
    refine codeAny_builtin F.entry_max_loop ?_
    rw [Around.under_plainId F.plain_max_loop _]
    show wpAny _ A.in1 (seqItems? (.ref S) >>= _) _ _ s
    refine wpAny_bind (wpAny_seqItems hS rfl ?_)
    show wpAny _ A.in1 (tryCatch (pyNext (.ref I)) _ >>= _) _ _ s
    refine wpAny_bind (wpAny_tryCatch (W.done s _ _ (by rw [← hk]; exact hst) fun h' tk kp => ?_))
    have hS2 := kp S _ hSw hS
    show wpAny _ A.in1 (updateSeq S (fun _ => #[]) >>= _) _ _ _
    refine wpAny_bind (wpAny_updateSeq hS2 rfl (wpAny_bind (wpAny_letGo (wpAny_pure ?_))))
    refine hR vb _ tk (by rw [show n - 1 = j by omega]; exact hP) fun b o hb hbS e => ?_
    exact (Heap.get?_update_other _ _ (Ne.symm hbS)).trans (kp b o hb e)
  | k + 1, j, hk, s, vb, c, hst, hP, hS, hR => by
    have hSw : S ∉ wr := fun h => hSf (W.sub _ h)
    refine codeAny_builtin F.entry_max_loop ?_
    rw [Around.under_plainId F.plain_max_loop _]
    show wpAny _ A.in1 (seqItems? (.ref S) >>= _) _ _ s
    refine wpAny_bind (wpAny_seqItems hS rfl ?_)
    show wpAny _ A.in1 (tryCatch (pyNext (.ref I)) _ >>= _) _ _ s
    refine wpAny_bind (wpAny_tryCatch (W.item (j + 1) s _ _ (by omega) hst fun v h' tk hPv hst2 kp => ?_))
    have hS2 := kp S _ hSw hS
    show wpAny _ A.in1 (tryCatch (holding [v, v] (richCompare .Gt v vb >>= _)) _ >>= _) _ _ _
    refine wpAny_bind (wpAny_tryCatch (wpAny_holding (wpAny_bind (hcmp (j + 1) (argBest bt j) v vb _ _ _ hPv hP ?_))))
    refine wpAny_bind (wpAny_holding (wpAny_truthy_bool ?_))
    refine wpAny_bind (wpAny_letGo (wpAny_pure ?_))
    cases hb : bt (j + 1) (argBest bt j) with
    | false =>
      simp only [Bool.false_eq_true, if_false]
      refine wpAny_bind (wpAny_letGo ?_)
      rw [name_max]
      refine wpAny_pure ⟨plainId_quiet F.plain_max_loop _, maxD_turns W bt hcmp S hSf d k (j + 1) (by omega) _ vb c hst2 (by simp only [argBest, hb, Bool.false_eq_true, if_false]; exact hP) hS2 fun v2 h2 tk2 hP2 kp2 => ?_⟩
      exact hR v2 h2 tk2 hP2 fun b o hbw hbS e => kp2 b o hbw hbS (kp b o hbw e)
    | true =>
      simp only [if_true]
      refine wpAny_bind (wpAny_updateSeq hS2 rfl (wpAny_bind (wpAny_letGo ?_)))
      rw [name_max]
      refine wpAny_pure ⟨plainId_quiet F.plain_max_loop _, maxD_turns W bt hcmp S hSf d k (j + 1) (by omega) _ v _ (W.frame _ _ _ hst2 fun b hbf o e => ?_) (by simp only [argBest, hb, if_true]; exact hPv) (Heap.get?_update_self _ hS2 rfl) fun v2 h2 tk2 hP2 kp2 => ?_⟩
      · exact (Heap.get?_update_other _ _ (fun h : S = b => hSf (by rw [h]; exact hbf))).trans e
      · exact hR v2 h2 tk2 hP2 fun b o hbw hbS e => kp2 b o hbw hbS ((Heap.get?_update_other _ _ (Ne.symm hbS)).trans (kp b o hbw e))
/-- the first turn -/
theorem maxD_first (W : Walks prog w A.in1 I fp wr n P St) (bt : Nat → Nat → Bool) (hcmp : CmpOf prog w A.in1 .Gt P bt) (S : Addr) (hSf : S ∉ fp) (d : Value) {s : Shared} {c : Nat} (hst : St 0 s.heap)
    (hS : s.heap.get? S = some { cls := .type "list", dict := none, data := .seq #[] c, slots := #[] })
    (h0 : n = 0 → ∀ h' tk, (∀ b o, b ∉ wr → s.heap.get? b = some o → h'.get? b = some o) → R (.ok (.ret d)) { s with heap := h', toks := tk })
    (hR : 0 < n → ∀ v h' tk, P (argBest bt (n - 1)) v → (∀ b o, b ∉ wr → b ≠ S → s.heap.get? b = some o → h'.get? b = some o) → R (.ok (.ret v)) { s with heap := h', toks := tk }) :
    codeAny (model prog w) A (.builtin "max.loop" ⟨[.ref I, .none, .ref S], [(Str.ofString "default", d)]⟩) R s := by
  have hSw : S ∉ wr := fun h => hSf (W.sub _ h)
  refine codeAny_builtin F.entry_max_loop ?_
  rw [Around.under_plainId F.plain_max_loop _]
  show wpAny _ A.in1 (seqItems? (.ref S) >>= _) _ _ s
  refine wpAny_bind (wpAny_seqItems hS rfl ?_)
  show wpAny _ A.in1 (tryCatch (pyNext (.ref I)) _ >>= _) _ _ s
  cases n with
  | zero =>
    refine wpAny_bind (wpAny_tryCatch (W.done s _ _ hst fun h' tk kp => ?_))
    show wpAny _ A.in1 (rule _ >>= _) _ _ _
    refine wpAny_bind (wpAny_rule (wpAny_pure ?_))
    exact h0 rfl h' tk kp
  | succ m =>
    refine wpAny_bind (wpAny_tryCatch (W.item 0 s _ _ (Nat.succ_pos m) hst fun v h' tk hP hst2 kp => ?_))
    have hS2 := kp S _ hSw hS
    show wpAny _ A.in1 (updateSeq S (fun _ => #[v, v]) >>= _) _ _ _
    refine wpAny_bind (wpAny_updateSeq hS2 rfl ?_)
    rw [name_max]
    refine wpAny_pure ⟨plainId_quiet F.plain_max_loop _, maxD_turns W bt hcmp S hSf d m 0 (by omega) _ v _ (W.frame _ _ _ hst2 fun b hbf o e => ?_) hP (Heap.get?_update_self _ hS2 rfl) fun v2 h2 tk2 hP2 kp2 => ?_⟩
    · exact (Heap.get?_update_other _ _ (fun h : S = b => hSf (by rw [h]; exact hbf))).trans e
    · exact hR (Nat.succ_pos m) v2 h2 tk2 hP2 fun b o hbw hbS e => kp2 b o hbw hbS ((Heap.get?_update_other _ _ (Ne.symm hbS)).trans (kp b o hbw e))
end
section
variable {prog : Program} {w : World} {A : Around} {E : Value → Shared → Prop} {s : Shared}
theorem maxD_raw {l : Addr} {its : List Value} {ns : List Int} {d : Value} {Q : Value → Shared → Prop} (hh : A.handled = none) (hl : s.heap.IsList l its.toArray) (hi : IntsAre its ns)
    (h0 : ns = [] → ∀ h' tk, (∀ b o, s.heap.get? b = some o → h'.get? b = some o) → Q d { s with heap := h', toks := tk })
    (h : ∀ h' tk M t', (∀ b o, s.heap.get? b = some o → h'.get? b = some o) → M ∈ ns → (∀ a, a ∈ ns → a ≤ M) → Q (.int M t') { s with heap := h', toks := tk }) :
    wpAny (model prog w) A (call (.builtin "max") [.ref l] [(Str.ofString "default", d)]) Q E s := by
  obtain ⟨xs, e⟩ := hi.allInts.items
  have hn : numsOf (intItems xs).toList = ns := by rw [← e]; exact hi.numsOf
  rw [nums_intItems] at hn
  subst hn
  rw [e] at hl
  refine kmb_tree F.kind_max F.plain_max F.entry_max (args_maxD _ _) ?_
  show wpAny _ A.in1 (Builtin.Builtins.bindParams "max" ["key", "default"] 0 ⟨[], [(Str.ofString "default", d)]⟩ >>= _) _ _ s
  refine wpAny_bind (wpAny_of_eq (show Builtin.Builtins.bindParams "max" ["key", "default"] 0 ⟨[], [(Str.ofString "default", d)]⟩ = pure [none, some d] from rfl) ?_)
  refine wpAny_bind (wpAny_pure ?_)
  refine wpAny_bind (iter_intList hl fun s₂ es st hfp hlI => ?_)
  subst es
  refine wpAny_bind (wpAny_newObj_type ?_)
  rw [name_max]
  have hSf : ∀ a, a ∈ [s.heap.objs.size, l] → (s.heap.push { cls := .type "list_iterator", data := .fields #[.ref l, .int 0 0] }).objs.size ≠ a := fun a ha q => Nat.lt_irrefl _ (by have := hfp a ha; rw [← q] at this; exact this)
  refine wpAny_pure ⟨plainId_quiet F.plain_max_loop _, maxD_first (Walks.list (A := A.in1) hh _ l hlI (intItems xs)) _ (CmpOf.ints_gt (numAt xs) (fun _ _ => intItems_at)) _ (fun hm => hSf _ hm rfl) d ⟨(st.1).at fun o e => Heap.get?_push_of_some _ e, st.2.push _⟩ (Heap.get?_push_size _ rfl) (fun q h' tk kp => ?_) fun q v h' tk hP kp => ?_⟩
  · refine h0 ?_ h' tk ?_
    · have : xs.size = 0 := by simpa [intItems] using q
      simp [Array.eq_empty_of_size_eq_zero this]
    · exact old_kept fun b o hb eo => kp b o hb (Heap.get?_push_of_some _ eo)
  · obtain ⟨t, rfl⟩ := intItems_at hP
    have hsz : 0 < xs.size := by simpa [intItems] using q
    have hs2 : (intItems xs).size = xs.size := by simp [intItems]
    rw [hs2] at hP ⊢
    obtain ⟨g1, g2⟩ := argBest_gt (numAt xs) (xs.size - 1)
    refine h h' tk _ t ?_ ?_ fun a ha => ?_
    · exact old_kept fun b o hb eo => kp b o hb (Nat.ne_of_lt (Heap.lt_size eo)) (Heap.get?_push_of_some _ eo)
    · rw [numAt_eq]; exact PySem.getD_mem (by rw [List.length_map, Array.length_toList]; omega)
    · obtain ⟨j, hj, rfl⟩ := mem_getD ha
      rw [List.length_map, Array.length_toList] at hj
      rw [← numAt_eq]; exact g2 j (by omega)
end

section
variable {prog : Program} {w : World} {A : Around} {R : Result → Shared → Prop} {I : Addr} {fp wr : List Addr} {n : Nat} {P : Nat → Value → Prop} {St : Nat → Heap → Prop}
theorem args_minD (a v : Value) : argsOk "min" ⟨[a], [(Str.ofString "default", v)]⟩ := by unfold argsOk; kernel_rfl
theorem name_min : (toString "min" ++ toString ".loop" : String) = "min.loop" := by decide
/-- the turns behind the first one -/
theorem minD_turns (W : Walks prog w A.in1 I fp wr n P St) (bt : Nat → Nat → Bool) (hcmp : CmpOf prog w A.in1 .Lt P bt) (S : Addr) (hSf : S ∉ fp) (d : Value) : ∀ (k j : Nat), j + 1 + k = n → ∀ (s : Shared) (vb : Value) (c : Nat), St (j + 1) s.heap → P (argBest bt j) vb →
    s.heap.get? S = some { cls := .type "list", dict := none, data := .seq #[vb, vb] c, slots := #[] } →
    (∀ v h' tk, P (argBest bt (n - 1)) v → (∀ b o, b ∉ wr → b ≠ S → s.heap.get? b = some o → h'.get? b = some o) → R (.ok (.ret v)) { s with heap := h', toks := tk }) →
    codeAny (model prog w) A (.builtin "min.loop" ⟨[.ref I, .none, .ref S], [(Str.ofString "default", d)]⟩) R s
  | 0, j, hk, s, vb, c, hst, hP, hS, hR => by
    have hSw : S ∉ wr := fun h => hSf (W.sub _ h)
    refine codeAny_builtin F.entry_min_loop ?_
    rw [Around.under_plainId F.plain_min_loop _]
    show wpAny _ A.in1 (seqItems? (.ref S) >>= _) _ _ s
    refine wpAny_bind (wpAny_seqItems hS rfl ?_)
    show wpAny _ A.in1 (tryCatch (pyNext (.ref I)) _ >>= _) _ _ s
    refine wpAny_bind (wpAny_tryCatch (W.done s _ _ (by rw [← hk]; exact hst) fun h' tk kp => ?_))
    have hS2 := kp S _ hSw hS
    show wpAny _ A.in1 (updateSeq S (fun _ => #[]) >>= _) _ _ _
    refine wpAny_bind (wpAny_updateSeq hS2 rfl (wpAny_bind (wpAny_letGo (wpAny_pure ?_))))
    refine hR vb _ tk (by rw [show n - 1 = j by omega]; exact hP) fun b o hb hbS e => ?_
    exact (Heap.get?_update_other _ _ (Ne.symm hbS)).trans (kp b o hb e)
  | k + 1, j, hk, s, vb, c, hst, hP, hS, hR => by
    have hSw : S ∉ wr := fun h => hSf (W.sub _ h)
    refine codeAny_builtin F.entry_min_loop ?_
    rw [Around.under_plainId F.plain_min_loop _]
    show wpAny _ A.in1 (seqItems? (.ref S) >>= _) _ _ s
    refine wpAny_bind (wpAny_seqItems hS rfl ?_)
    show wpAny _ A.in1 (tryCatch (pyNext (.ref I)) _ >>= _) _ _ s
    refine wpAny_bind (wpAny_tryCatch (W.item (j + 1) s _ _ (by omega) hst fun v h' tk hPv hst2 kp => ?_))
    have hS2 := kp S _ hSw hS
    show wpAny _ A.in1 (tryCatch (holding [v, v] (richCompare .Lt v vb >>= _)) _ >>= _) _ _ _
    refine wpAny_bind (wpAny_tryCatch (wpAny_holding (wpAny_bind (hcmp (j + 1) (argBest bt j) v vb _ _ _ hPv hP ?_))))
    refine wpAny_bind (wpAny_holding (wpAny_truthy_bool ?_))
    refine wpAny_bind (wpAny_letGo (wpAny_pure ?_))
    cases hb : bt (j + 1) (argBest bt j) with
    | false =>
      simp only [Bool.false_eq_true, if_false]
      refine wpAny_bind (wpAny_letGo ?_)
      rw [name_min]
      refine wpAny_pure ⟨plainId_quiet F.plain_min_loop _, minD_turns W bt hcmp S hSf d k (j + 1) (by omega) _ vb c hst2 (by simp only [argBest, hb, Bool.false_eq_true, if_false]; exact hP) hS2 fun v2 h2 tk2 hP2 kp2 => ?_⟩
      exact hR v2 h2 tk2 hP2 fun b o hbw hbS e => kp2 b o hbw hbS (kp b o hbw e)
    | true =>
      simp only [if_true]
      refine wpAny_bind (wpAny_updateSeq hS2 rfl (wpAny_bind (wpAny_letGo ?_)))
      rw [name_min]
      refine wpAny_pure ⟨plainId_quiet F.plain_min_loop _, minD_turns W bt hcmp S hSf d k (j + 1) (by omega) _ v _ (W.frame _ _ _ hst2 fun b hbf o e => ?_) (by simp only [argBest, hb, if_true]; exact hPv) (Heap.get?_update_self _ hS2 rfl) fun v2 h2 tk2 hP2 kp2 => ?_⟩
      · exact (Heap.get?_update_other _ _ (fun h : S = b => hSf (by rw [h]; exact hbf))).trans e
      · exact hR v2 h2 tk2 hP2 fun b o hbw hbS e => kp2 b o hbw hbS ((Heap.get?_update_other _ _ (Ne.symm hbS)).trans (kp b o hbw e))
/-- the first turn -/
theorem minD_first (W : Walks prog w A.in1 I fp wr n P St) (bt : Nat → Nat → Bool) (hcmp : CmpOf prog w A.in1 .Lt P bt) (S : Addr) (hSf : S ∉ fp) (d : Value) {s : Shared} {c : Nat} (hst : St 0 s.heap)
    (hS : s.heap.get? S = some { cls := .type "list", dict := none, data := .seq #[] c, slots := #[] })
    (h0 : n = 0 → ∀ h' tk, (∀ b o, b ∉ wr → s.heap.get? b = some o → h'.get? b = some o) → R (.ok (.ret d)) { s with heap := h', toks := tk })
    (hR : 0 < n → ∀ v h' tk, P (argBest bt (n - 1)) v → (∀ b o, b ∉ wr → b ≠ S → s.heap.get? b = some o → h'.get? b = some o) → R (.ok (.ret v)) { s with heap := h', toks := tk }) :
    codeAny (model prog w) A (.builtin "min.loop" ⟨[.ref I, .none, .ref S], [(Str.ofString "default", d)]⟩) R s := by
  have hSw : S ∉ wr := fun h => hSf (W.sub _ h)
  refine codeAny_builtin F.entry_min_loop ?_
  rw [Around.under_plainId F.plain_min_loop _]
  show wpAny _ A.in1 (seqItems? (.ref S) >>= _) _ _ s
  refine wpAny_bind (wpAny_seqItems hS rfl ?_)
  show wpAny _ A.in1 (tryCatch (pyNext (.ref I)) _ >>= _) _ _ s
  cases n with
  | zero =>
    refine wpAny_bind (wpAny_tryCatch (W.done s _ _ hst fun h' tk kp => ?_))
    show wpAny _ A.in1 (rule _ >>= _) _ _ _
    refine wpAny_bind (wpAny_rule (wpAny_pure ?_))
    exact h0 rfl h' tk kp
  | succ m =>
    refine wpAny_bind (wpAny_tryCatch (W.item 0 s _ _ (Nat.succ_pos m) hst fun v h' tk hP hst2 kp => ?_))
    have hS2 := kp S _ hSw hS
    show wpAny _ A.in1 (updateSeq S (fun _ => #[v, v]) >>= _) _ _ _
    refine wpAny_bind (wpAny_updateSeq hS2 rfl ?_)
    rw [name_min]
    refine wpAny_pure ⟨plainId_quiet F.plain_min_loop _, minD_turns W bt hcmp S hSf d m 0 (by omega) _ v _ (W.frame _ _ _ hst2 fun b hbf o e => ?_) hP (Heap.get?_update_self _ hS2 rfl) fun v2 h2 tk2 hP2 kp2 => ?_⟩
    · exact (Heap.get?_update_other _ _ (fun h : S = b => hSf (by rw [h]; exact hbf))).trans e
    · exact hR (Nat.succ_pos m) v2 h2 tk2 hP2 fun b o hbw hbS e => kp2 b o hbw hbS ((Heap.get?_update_other _ _ (Ne.symm hbS)).trans (kp b o hbw e))
end
section
variable {prog : Program} {w : World} {A : Around} {E : Value → Shared → Prop} {s : Shared}
theorem minD_raw {l : Addr} {its : List Value} {ns : List Int} {d : Value} {Q : Value → Shared → Prop} (hh : A.handled = none) (hl : s.heap.IsList l its.toArray) (hi : IntsAre its ns)
    (h0 : ns = [] → ∀ h' tk, (∀ b o, s.heap.get? b = some o → h'.get? b = some o) → Q d { s with heap := h', toks := tk })
    (h : ∀ h' tk M t', (∀ b o, s.heap.get? b = some o → h'.get? b = some o) → M ∈ ns → (∀ a, a ∈ ns → M ≤ a) → Q (.int M t') { s with heap := h', toks := tk }) :
    wpAny (model prog w) A (call (.builtin "min") [.ref l] [(Str.ofString "default", d)]) Q E s := by
  obtain ⟨xs, e⟩ := hi.allInts.items
  have hn : numsOf (intItems xs).toList = ns := by rw [← e]; exact hi.numsOf
  rw [nums_intItems] at hn
  subst hn
  rw [e] at hl
  refine kmb_tree F.kind_min F.plain_min F.entry_min (args_minD _ _) ?_
  show wpAny _ A.in1 (Builtin.Builtins.bindParams "min" ["key", "default"] 0 ⟨[], [(Str.ofString "default", d)]⟩ >>= _) _ _ s
  refine wpAny_bind (wpAny_of_eq (show Builtin.Builtins.bindParams "min" ["key", "default"] 0 ⟨[], [(Str.ofString "default", d)]⟩ = pure [none, some d] from rfl) ?_)
  refine wpAny_bind (wpAny_pure ?_)
  refine wpAny_bind (iter_intList hl fun s₂ es st hfp hlI => ?_)
  subst es
  refine wpAny_bind (wpAny_newObj_type ?_)
  rw [name_min]
  have hSf : ∀ a, a ∈ [s.heap.objs.size, l] → (s.heap.push { cls := .type "list_iterator", data := .fields #[.ref l, .int 0 0] }).objs.size ≠ a := fun a ha q => Nat.lt_irrefl _ (by have := hfp a ha; rw [← q] at this; exact this)
  refine wpAny_pure ⟨plainId_quiet F.plain_min_loop _, minD_first (Walks.list (A := A.in1) hh _ l hlI (intItems xs)) _ (CmpOf.ints_lt (numAt xs) (fun _ _ => intItems_at)) _ (fun hm => hSf _ hm rfl) d ⟨(st.1).at fun o e => Heap.get?_push_of_some _ e, st.2.push _⟩ (Heap.get?_push_size _ rfl) (fun q h' tk kp => ?_) fun q v h' tk hP kp => ?_⟩
  · refine h0 ?_ h' tk ?_
    · have : xs.size = 0 := by simpa [intItems] using q
      simp [Array.eq_empty_of_size_eq_zero this]
    · exact old_kept fun b o hb eo => kp b o hb (Heap.get?_push_of_some _ eo)
  · obtain ⟨t, rfl⟩ := intItems_at hP
    have hsz : 0 < xs.size := by simpa [intItems] using q
    have hs2 : (intItems xs).size = xs.size := by simp [intItems]
    rw [hs2] at hP ⊢
    obtain ⟨g1, g2⟩ := argBest_lt (numAt xs) (xs.size - 1)
    refine h h' tk _ t ?_ ?_ fun a ha => ?_
    · exact old_kept fun b o hb eo => kp b o hb (Nat.ne_of_lt (Heap.lt_size eo)) (Heap.get?_push_of_some _ eo)
    · rw [numAt_eq]; exact PySem.getD_mem (by rw [List.length_map, Array.length_toList]; omega)
    · obtain ⟨j, hj, rfl⟩ := mem_getD ha
      rw [List.length_map, Array.length_toList] at hj
      rw [← numAt_eq]; exact g2 j (by omega)
end

section
variable {X : Cx}
def rBestD (K : PySem.W.Frag) (le : Int → Int → Prop) : List V → List V → Hp → VK → Prop := fun vs zs H Q => ∃ (a : Addr) (ns : List Int) (d : Int), vs = [.ref a] ∧ zs = [.int d] ∧ SqL K H a (ns.map V.int) ∧ (ns = [] → Q (.int d) H) ∧ ∀ m, m ∈ ns → (∀ i, i ∈ ns → le m i) → Q (.int m) H
theorem cr_maxD (hc : X.calm = true) : CallRK X (.builtin "max") [Str.ofString "default"] (rBestD X.K fun m i => i ≤ m) := by
  intro pins s σ H vs zs us ws Q I r rz h
  obtain ⟨a, ns, d, rfl, rfl, hs, q0, q1⟩ := h
  obtain ⟨its, rv, hl, _⟩ := I.list hs
  obtain rfl := Vals.ref1 r
  obtain ⟨w1, rfl, e1⟩ := vals1 rz
  obtain ⟨t, rfl⟩ := e1
  exact maxD_raw (I.ok.hd hc) hl.isList rv.ints (fun e h' tk hk => ⟨.int d, H, I.kept hk, ⟨_, rfl⟩, q0 e⟩) fun h' tk m t' hk h1 h2 => ⟨.int m, H, I.kept hk, ⟨_, rfl⟩, q1 m h1 h2⟩
theorem cr_minD (hc : X.calm = true) : CallRK X (.builtin "min") [Str.ofString "default"] (rBestD X.K fun m i => m ≤ i) := by
  intro pins s σ H vs zs us ws Q I r rz h
  obtain ⟨a, ns, d, rfl, rfl, hs, q0, q1⟩ := h
  obtain ⟨its, rv, hl, _⟩ := I.list hs
  obtain rfl := Vals.ref1 r
  obtain ⟨w1, rfl, e1⟩ := vals1 rz
  obtain ⟨t, rfl⟩ := e1
  exact minD_raw (I.ok.hd hc) hl.isList rv.ints (fun e h' tk hk => ⟨.int d, H, I.kept hk, ⟨_, rfl⟩, q0 e⟩) fun h' tk m t' hk h1 h2 => ⟨.int m, H, I.kept hk, ⟨_, rfl⟩, q1 m h1 h2⟩
theorem ER.imp {K : PySem.W.Frag} {f : SEnv → Option Sl} {σ : L2.St} {H : Hp} {Q Q' : VK} (h : ER K f σ H Q) (hq : ∀ x H, Q x H → Q' x H) : ER K f σ H Q' := by
  obtain ⟨B, Z0, Z, ρ, s, x, e, k⟩ := h
  exact ⟨B, Z0, Z, ρ, s, x, e, fun v Z' H' k' r => hq _ _ (k v Z' H' k' r)⟩
theorem ar_cons {K : PySem.W.Frag} {fa : SEnv → Option Sl} {fr : SEnv → Option (List Sl)} {σ : L2.St} {H : Hp} {Q : List V → Hp → Prop} : AR K (aCons fa fr) σ H Q → tCons (ER K fa) (AR K fr) σ H Q := fun ⟨B, Z0, Z, ρ, ds, x, e, k⟩ => by
  unfold aCons at e
  split at e
  · rename_i s ss qa qr
    cases e
    refine er1 x qa fun v Z' H' k' r => ⟨B, Z0, Z', ρ, ss, x.step k', qr, fun vs Z2 H2 k2 r2 => ?_⟩
    exact k _ Z2 H2 (k'.trans k2) ⟨(bor_ok r).mono k2.bh k2.zz (fun _ h => nomatch h), r2⟩
  · cases e
theorem ar_nil {K : PySem.W.Frag} {σ : L2.St} {H : Hp} {Q : List V → Hp → Prop} : AR K aNil σ H Q → tNil σ H Q := fun ⟨B, Z0, Z, ρ, ds, x, e, k⟩ => by
  cases e
  exact k [] Z H (Step.refl x.zh) trivial
/-- one argument and one by its name -/
theorem ar_kw {K : PySem.W.Frag} {fa fb : SEnv → Option Sl} {σ : L2.St} {H : Hp} {Q : VK} {r : List V → List V → Hp → VK → Prop} {r' : List V → Hp → VK → Prop} (hr : ∀ x z H, r' [x, z] H Q → r [x] [z] H Q) (h : tCB r' (AR K (aCons fa (aCons fb aNil))) σ H Q) : tCKw r (tCons (ER K fa) tNil) (tCons (ER K fb) tNil) σ H Q := by
  refine (ar_cons h).imp fun x H1 h1 => ?_
  refine (ar_cons h1).imp fun z H2 h2 => ?_
  exact hr _ _ _ (ar_nil h2)
def bestDS (f : Int → List Int → Int) (s : Sl) (d : Int) : Option Sl := match (litems s).bind intsD with
  | some [] => some (.pl (.int d))
  | some (a :: l) => some (.pl (.int (f a l)))
  | none => none
def bestDF (f : Int → List Int → Int) : List Sl → Option Sl := fun ss => match ss with | [s, .pl (.int d)] => bestDS f s d | _ => none
theorem ok_bestD {K : PySem.W.Frag} {le : Int → Int → Prop} {f : Int → List Int → Int} (hf : ∀ a l m, m ∈ a :: l → (∀ i, i ∈ a :: l → le m i) → m = f a l) : BuiOK K (fun xs H Q => ∃ x z, xs = [x, z] ∧ rBestD K le [x] [z] H Q) (bestDF f) := by
  intro Z H vs ss t Q zh ha e k
  unfold bestDF at e
  split at e
  · rename_i s d
    match vs, ha with
    | [], ha => exact ha.elim
    | [_], ha => exact ha.2.elim
    | [v, z], ⟨hv, hz, _⟩ =>
      unfold bestDS at e
      cases qi : litems s with
      | none => rw [qi] at e; cases e
      | some ds =>
        rw [qi] at e
        cases qn : intsD ds with
        | none => simp only [Option.bind, qn] at e; cases e
        | some ns =>
          simp only [Option.bind, qn] at e
          obtain ⟨p, vs, rfl, hq, hd⟩ := litems_ok (H0 := H) (vl_of hv) zh qi
          have := ints_ok hd qn
          subst this
          obtain ⟨_, zx, ez, hzd⟩ := hz
          cases ez
          cases hzd
          refine ⟨_, _, rfl, p, ns, d, rfl, rfl, hq, fun e0 => ?_, fun m hm hle => ?_⟩
          · subst e0
            cases e
            exact k _ Z H (Step.refl zh) (vlR.pl (.int _))
          · cases ns with
            | nil => cases hm
            | cons a l =>
              cases e
              rw [hf a l m hm hle]
              exact k _ Z H (Step.refl zh) (vlR.pl (.int _))
    | _ :: _ :: _ :: _, ha => exact ha.2.2.elim
  · cases e
theorem is_maxL (a : Int) (l : List Int) (m : Int) (hm : m ∈ a :: l) (hle : ∀ i, i ∈ a :: l → i ≤ m) : m = maxL a l := by
  have h1 := maxL_ge l a
  have h3 : maxL a l ≤ m := by
    rcases maxL_mem l a with q | q
    · rw [q]; exact hle a (List.mem_cons_self ..)
    · exact hle _ (List.mem_cons_of_mem _ q)
  have h4 : m ≤ maxL a l := by
    rcases List.mem_cons.mp hm with q | q
    · rw [q]; exact h1.1
    · exact h1.2 m q
  omega
theorem is_minL (a : Int) (l : List Int) (m : Int) (hm : m ∈ a :: l) (hle : ∀ i, i ∈ a :: l → m ≤ i) : m = minL a l := by
  have h1 := minL_le l a
  have h3 : m ≤ minL a l := by
    rcases minL_mem l a with q | q
    · rw [q]; exact hle a (List.mem_cons_self ..)
    · exact hle _ (List.mem_cons_of_mem _ q)
  have h4 : minL a l ≤ m := by
    rcases List.mem_cons.mp hm with q | q
    · rw [q]; exact h1.1
    · exact h1.2 m q
  omega
abbrev maxDF := bestDF maxL
abbrev minDF := bestDF minL
theorem pd_maxD {p pos kpos : Pos} {e o : Expr} {a b : SEnv → Option Sl} (hg : Gl X "max") (hm : X.mg "max" = none) (ha : PD X e a) (hb : PD X o b) (hc : X.calm = true := by rfl) (h1 : starEach [e] X.env = (false, eval e X.env) :: starEach [] X.env := by rfl)
    (he : backTo pos (starEach [e] X.env) = (false, eval e X.env) :: backTo pos (starEach [] X.env) := by rfl) (hpl : (backTo pos (starEach [e] X.env)).any (·.1) = false := by rfl)
    (hall : (backToKw pos (keywordEach [⟨some (Str.ofString "default"), o, kpos⟩] X.env)).all (·.1.isSome) = true := by rfl) (hnone : (backToKw pos (keywordEach [⟨some (Str.ofString "default"), o, kpos⟩] X.env)).any (·.1.isNone) = false := by rfl) (hks : (backToKw pos (keywordEach [⟨some (Str.ofString "default"), o, kpos⟩] X.env)).filterMap (·.1) = [Str.ofString "default"] := by rfl) : PD X (.Call (.Name "max" p) [e] [⟨some (Str.ofString "default"), o, kpos⟩] pos) (eBui maxDF (aCons a (aCons b aNil))) :=
  PE_imp (pe_callBK (cr_maxD hc) hg hm (by decide +kernel) (pa_cons ha pa_nil h1) (pk_cons hb pk_nil) (by decide) (by decide) he hpl hall hnone hks) fun σ H Q h => ar_kw (fun x z H h => by obtain ⟨_, _, e, h⟩ := h; cases e; exact h) (bui_core (ok_bestD is_maxL) h)
theorem pd_minD {p pos kpos : Pos} {e o : Expr} {a b : SEnv → Option Sl} (hg : Gl X "min") (hm : X.mg "min" = none) (ha : PD X e a) (hb : PD X o b) (hc : X.calm = true := by rfl) (h1 : starEach [e] X.env = (false, eval e X.env) :: starEach [] X.env := by rfl)
    (he : backTo pos (starEach [e] X.env) = (false, eval e X.env) :: backTo pos (starEach [] X.env) := by rfl) (hpl : (backTo pos (starEach [e] X.env)).any (·.1) = false := by rfl)
    (hall : (backToKw pos (keywordEach [⟨some (Str.ofString "default"), o, kpos⟩] X.env)).all (·.1.isSome) = true := by rfl) (hnone : (backToKw pos (keywordEach [⟨some (Str.ofString "default"), o, kpos⟩] X.env)).any (·.1.isNone) = false := by rfl) (hks : (backToKw pos (keywordEach [⟨some (Str.ofString "default"), o, kpos⟩] X.env)).filterMap (·.1) = [Str.ofString "default"] := by rfl) : PD X (.Call (.Name "min" p) [e] [⟨some (Str.ofString "default"), o, kpos⟩] pos) (eBui minDF (aCons a (aCons b aNil))) :=
  PE_imp (pe_callBK (cr_minD hc) hg hm (by decide +kernel) (pa_cons ha pa_nil h1) (pk_cons hb pk_nil) (by decide) (by decide) he hpl hall hnone hks) fun σ H Q h => ar_kw (fun x z H h => by obtain ⟨_, _, e, h⟩ := h; cases e; exact h) (bui_core (ok_bestD is_minL) h)
end
section
variable {X : Cx}
/-- a < b < c of ints -/
def tChn (p q : Int → Int → Bool) (a b c : SEnv → Option Sl) : SEnv → Option Bool := fun ρ => match a ρ, b ρ with
  | some (.pl (.int i)), some (.pl (.int j)) => if p i j then (match c ρ with | some (.pl (.int k)) => some (q j k) | _ => none) else some false
  | _, _ => none
theorem td_chain {op op2 : CmpOp} {r r2 : R2} {p q : Int → Int → Bool} {a b c : Expr} {fa fb fc : SEnv → Option Sl} {pos : Pos} (ho : OpR X (compareOp op) r) (hf : CmpOK X.K r (cF p)) (ho2 : OpR X (compareOp op2) r2) (hf2 : CmpOK X.K r2 (cF q)) (ha : PD X a fa) (hb : PD X b fb) (hc : PD X c fc)
    (hm : lastMarks [op, op2] [b, c] = false := by with_unfolding_all rfl) : TD X (.Compare a [op, op2] [b, c] pos) (tChn p q fa fb fc) :=
  PT_imp (pt_chain ho ho2 ha hb hc hm) fun σ H Q ⟨B, Z0, Z, ρ, t, x, e, k⟩ => by
    unfold tChn at e
    split at e
    · rename_i i j ea eb
      refine er2 x ea eb fun v w Z1 H1 k1 r1 r2 => ?_
      have h1 := view_ok r1 k1.zh (d := .int i) rfl
      have h2 := view_ok r2 k1.zh (d := .int j) rfl
      have h3 : ∀ H, Dp X.K H w (.int j) := by cases h2; exact fun _ => .int j
      refine hf h1 h2 rfl ⟨_, rfl, ?_⟩
      split at e
      · rename_i hp
        rw [if_pos hp]
        split at e
        · rename_i k3 ec
          cases e
          refine er1 (x.step k1) ec fun u Z2 H2 k2 r3 => ?_
          exact hf2 (h3 H2) (view_ok r3 k2.zh (d := .int k3) rfl) rfl ⟨_, rfl, k Z2 H2 (k1.trans k2)⟩
        · cases e
      · rename_i hp
        rw [if_neg hp]
        cases e
        exact ⟨_, rfl, k Z1 H1 k1⟩
    · cases e
end
end DL

set_option maxHeartbeats 4000000
namespace La
open PySem PySem.Spec PyProof.Rows L2 DL
abbrev N_least : List Str := ["ranks", "mask", "found", "world", "rank"]
abbrev P_least : List Str := ["ranks", "mask"]
abbrev N_fit_for : List Str := ["ranks", "rule", "one", "other"]
abbrev P_fit_for : List Str := ["ranks", "rule"]
abbrev N_misfit : List Str := ["frame", "ranks", "number", "rule"]
abbrev P_misfit : List Str := ["frame", "ranks"]
abbrev N__law_cell_at : List Str := ["script", "k"]
abbrev P__law_cell_at : List Str := ["script", "k"]
abbrev N__law_draw : List Str := ["cell", "k", "number"]
abbrev P__law_draw : List Str := ["cell", "k"]
abbrev N__law_mask : List Str := ["cell", "k", "size", "number"]
abbrev P__law_mask : List Str := ["cell", "k", "size"]
abbrev N__law_possible : List Str := ["cell", "size", "kind"]
abbrev P__law_possible : List Str := ["cell", "size"]
abbrev N__law_rank : List Str := ["cell", "k", "kind", "number", "j"]
abbrev P__law_rank : List Str := ["cell", "k", "kind"]
abbrev N__law_rule : List Str := ["cell", "ranks", "possible", "size", "some", "ahead", "worlds_of", "bar", "broken", "world"]
abbrev P__law_rule : List Str := ["cell", "ranks", "possible"]
abbrev N__law_low : List Str := ["ranks", "some", "found", "world"]
abbrev P__law_low : List Str := ["ranks", "some"]
abbrev N__law_due : List Str := ["rules", "ranks", "k", "met", "broken"]
abbrev P__law_due : List Str := ["rules", "ranks"]
abbrev N__law_right : List Str := ["frame", "ranks", "due", "found"]
abbrev P__law_right : List Str := ["frame", "ranks"]
abbrev N_law : List Str := ["script", "first", "size", "possible", "kind", "ranks", "world", "rules", "cell", "frame"]
abbrev P_law : List Str := ["script"]
noncomputable def B_least : SEnv → Option Out :=
  (sSeq (sAsg 2 (eC .none))
  (sSeq (sFor (enT (eVar 0)) (gTupF 2 (gsCons 3 (gsCons 4 gsNil)))
  (sWipeB [3, 4] (sIf (tAnd2 (tCmp2 notnF (eVar 4) (eC .none)) (tCmp2 eqD (eBin andD (eBin shrD (eVar 1) (eVar 3)) (eC (.int 1))) (eC (.int 1)))) (sIf (tOr2 (tCmp2 isnF (eVar 2) (eC .none)) (tCmp2 ltD (eVar 4) (eVar 2))) (sAsg 2 (eVar 4)) sNext) sNext)))
  (sRet (eVar 2))))
theorem X_least : ∃ f : Fn, f = fnD 5 2 B_least := ⟨_, rfl⟩
noncomputable def F_least : Fn := Classical.choose X_least
theorem F_least_eq : F_least = fnD 5 2 B_least := Classical.choose_spec X_least
noncomputable def B_fit_for : SEnv → Option Out :=
  (sSeq (sAsg 2 (eCall F_least (aCons (eVar 0) (aCons (eIx (eVar 1) (eC (.int 0))) aNil))))
  (sSeq (sAsg 3 (eCall F_least (aCons (eVar 0) (aCons (eIx (eVar 1) (eC (.int 1))) aNil))))
  (sRet (eAnd (eB (tCmp2 notnF (eVar 2) (eC .none))) (eOr (eB (tCmp2 isnF (eVar 3) (eC .none))) (eB (tCmp2 ltD (eVar 2) (eVar 3))))))))
theorem X_fit_for : ∃ f : Fn, f = fnD 4 2 B_fit_for := ⟨_, rfl⟩
noncomputable def F_fit_for : Fn := Classical.choose X_fit_for
theorem F_fit_for_eq : F_fit_for = fnD 4 2 B_fit_for := Classical.choose_spec X_fit_for
noncomputable def B_misfit : SEnv → Option Out :=
  (sSeq (sFor (enT (eIx (eVar 0) (eC (.int 2)))) (gTupF 2 (gsCons 2 (gsCons 3 gsNil)))
  (sWipeB [2, 3] (sIf (tNot1 (tTru (eCall F_fit_for (aCons (eVar 1) (aCons (eVar 3) aNil))))) (sRet (eVar 2)) sNext)))
  (sRet (eC .none)))
theorem X_misfit : ∃ f : Fn, f = fnD 4 2 B_misfit := ⟨_, rfl⟩
noncomputable def F_misfit : Fn := Classical.choose X_misfit
theorem F_misfit_eq : F_misfit = fnD 4 2 B_misfit := Classical.choose_spec X_misfit
noncomputable def B__law_cell_at : SEnv → Option Out :=
  (sSeq (sIf (tCmp2 ltD (eVar 1) (eBui lenF (aCons (eVar 0) aNil))) (sRet (eIx (eVar 0) (eVar 1))) sNext)
  (sRet (eC (.int 0))))
theorem X__law_cell_at : ∃ f : Fn, f = fnD 2 2 B__law_cell_at := ⟨_, rfl⟩
noncomputable def F__law_cell_at : Fn := Classical.choose X__law_cell_at
theorem F__law_cell_at_eq : F__law_cell_at = fnD 2 2 B__law_cell_at := Classical.choose_spec X__law_cell_at
noncomputable def B__law_draw : SEnv → Option Out :=
  (sSeq (sAsg 2 (eBin modD (eBin addD (eBin addD (eBin addD (eBin modD (eVar 0) (eC (.int 1999999853))) (eBin mulD (eC (.int 50000017)) (eVar 1))) (eBin mulD (eBin mulD (eC (.int 191)) (eVar 1)) (eVar 1))) (eC (.int 23))) (eC (.int 1999999853))))
  (sSeq (sAsg 2 (eBin modD (eBin mulD (eVar 2) (eVar 2)) (eC (.int 1999999829))))
  (sRet (eBin divD (eBin modD (eBin mulD (eVar 2) (eBin addD (eC (.int 32009)) (eBin mulD (eC (.int 8)) (eVar 1)))) (eC (.int 1999999819))) (eC (.int 9))))))
theorem X__law_draw : ∃ f : Fn, f = fnD 3 2 B__law_draw := ⟨_, rfl⟩
noncomputable def F__law_draw : Fn := Classical.choose X__law_draw
theorem F__law_draw_eq : F__law_draw = fnD 3 2 B__law_draw := Classical.choose_spec X__law_draw
noncomputable def B__law_mask : SEnv → Option Out :=
  (sSeq (sAsg 3 (eBin addD (eBin mulD (eBin addD (eBin mulD (eCall F__law_draw (aCons (eVar 0) (aCons (eVar 1) aNil))) (eC (.int 1000117))) (eCall F__law_draw (aCons (eVar 0) (aCons (eBin addD (eVar 1) (eC (.int 1))) aNil)))) (eC (.int 1000121))) (eCall F__law_draw (aCons (eVar 0) (aCons (eBin addD (eVar 1) (eC (.int 2))) aNil)))))
  (sRet (eBin modD (eBin mulD (eVar 3) (eC (.int 2000029))) (eBin shlD (eC (.int 1)) (eVar 2)))))
theorem X__law_mask : ∃ f : Fn, f = fnD 4 3 B__law_mask := ⟨_, rfl⟩
noncomputable def F__law_mask : Fn := Classical.choose X__law_mask
theorem F__law_mask_eq : F__law_mask = fnD 4 3 B__law_mask := Classical.choose_spec X__law_mask
noncomputable def B__law_possible : SEnv → Option Out :=
  (sSeq (sAsg 2 (eBin modD (eCall F__law_draw (aCons (eVar 0) (aCons (eC (.int 2)) aNil))) (eC (.int 6))))
  (sSeq (sIf (tCmp2 eqD (eVar 2) (eC (.int 0))) (sRet (eCall F__law_mask (aCons (eVar 0) (aCons (eC (.int 3)) (aCons (eVar 1) aNil))))) sNext)
  (sSeq (sIf (tCmp2 eqD (eVar 2) (eC (.int 1))) (sRet (eBin andD (eCall F__law_mask (aCons (eVar 0) (aCons (eC (.int 3)) (aCons (eVar 1) aNil)))) (eCall F__law_mask (aCons (eVar 0) (aCons (eC (.int 6)) (aCons (eVar 1) aNil)))))) sNext)
  (sSeq (sIf (tAnd2 (tCmp2 eqD (eVar 2) (eC (.int 2))) (tCmp2 eqD (eBin modD (eCall F__law_draw (aCons (eVar 0) (aCons (eC (.int 9)) aNil))) (eC (.int 4))) (eC (.int 0)))) (sRet (eC (.int 0))) sNext)
  (sRet (eBin subD (eBin shlD (eC (.int 1)) (eVar 1)) (eC (.int 1))))))))
theorem X__law_possible : ∃ f : Fn, f = fnD 3 2 B__law_possible := ⟨_, rfl⟩
noncomputable def F__law_possible : Fn := Classical.choose X__law_possible
theorem F__law_possible_eq : F__law_possible = fnD 3 2 B__law_possible := Classical.choose_spec X__law_possible
noncomputable def B__law_rank : SEnv → Option Out :=
  (sSeq (sIf (tCmp2 eqD (eVar 2) (eC (.int 0))) (sRet (eC (.int 0))) sNext)
  (sSeq (sIf (tOr2 (tCmp2 ltD (eVar 2) (eC (.int 3))) (tCmp2 gtD (eBin modD (eCall F__law_draw (aCons (eVar 0) (aCons (eVar 1) aNil))) (eC (.int 4))) (eC (.int 0)))) (sRet (eBin modD (eCall F__law_draw (aCons (eVar 0) (aCons (eBin addD (eVar 1) (eC (.int 1))) aNil))) (eIx (eLst (dCons (eC (.int 4)) (dCons (eC (.int 4)) (dCons (eC (.int 60)) (dCons (eC (.int 3)) dNil))))) (eVar 2)))) sNext)
  (sSeq (sAsg 3 (eC (.int 0)))
  (sSeq (sFor (rg1 (aCons (eC (.int 9)) aNil)) (gPut 4)
  (sWipeB [4] (sAsg 3 (eBin addD (eBin mulD (eVar 3) (eBin powD (eC (.int 10)) (eC (.int 9)))) (eCall F__law_draw (aCons (eVar 0) (aCons (eBin addD (eBin addD (eVar 1) (eC (.int 2))) (eVar 4)) aNil)))))))
  (sRet (eBin modD (eVar 3) (eBin mulD (eBin powD (eC (.int 10)) (eC (.int 40))) (eBin powD (eC (.int 10)) (eC (.int 40))))))))))
theorem X__law_rank : ∃ f : Fn, f = fnD 5 3 B__law_rank := ⟨_, rfl⟩
noncomputable def F__law_rank : Fn := Classical.choose X__law_rank
theorem F__law_rank_eq : F__law_rank = fnD 5 3 B__law_rank := Classical.choose_spec X__law_rank
noncomputable def B__law_rule : SEnv → Option Out :=
  (sSeq (sAsg 3 (eBui lenF (aCons (eVar 1) aNil)))
  (sSeq (sAsg 4 (eBin andD (eVar 2) (eCall F__law_mask (aCons (eVar 0) (aCons (eC (.int 1)) (aCons (eVar 3) aNil))))))
  (sSeq (sIf (tCmp2 gtD (eBin modD (eCall F__law_draw (aCons (eVar 0) (aCons (eC (.int 4)) aNil))) (eC (.int 3))) (eC (.int 0))) (sAsg 4 (eBin andD (eVar 4) (eCall F__law_mask (aCons (eVar 0) (aCons (eC (.int 5)) (aCons (eVar 3) aNil)))))) sNext)
  (sSeq (sAsg 5 (eCall F__law_mask (aCons (eVar 0) (aCons (eC (.int 8)) (aCons (eVar 3) aNil)))))
  (sSeq (sIf (tCmp2 eqD (eBin modD (eCall F__law_draw (aCons (eVar 0) (aCons (eC (.int 11)) aNil))) (eC (.int 5))) (eC (.int 2))) (sRet (eIx (eLst (dCons (eTup (dCons (eBin andD (eVar 4) (eVar 5)) (dCons (eBin andD (eVar 4) (eUn (uF Builtin.bitNot) (eVar 5))) dNil))) (dCons (eTup (dCons (eC (.int 0)) (dCons (eVar 4) dNil))) (dCons (eTup (dCons (eVar 4) (dCons (eC (.int 0)) dNil))) (dCons (eTup (dCons (eC (.int 0)) (dCons (eC (.int 0)) dNil))) dNil))))) (eBin modD (eCall F__law_draw (aCons (eVar 0) (aCons (eC (.int 12)) aNil))) (eC (.int 4))))) sNext)
  (sSeq (sAsg 6 (eLc (rg1 (aCons (eVar 3) aNil)) [9] (gPut 9) (tCmp2 eqD (eBin andD (eBin shrD (eVar 4) (eVar 9)) (eC (.int 1))) (eC (.int 1))) (eVar 9)))
  (sSeq (sIf (tCmp2 eqD (eVar 6) (eLst dNil)) (sRet (eTup (dCons (eVar 2) (dCons (eC (.int 0)) dNil)))) sNext)
  (sSeq (sAsg 7 (eIx (eVar 1) (eIx (eVar 6) (eBin modD (eCall F__law_draw (aCons (eVar 0) (aCons (eC (.int 13)) aNil))) (eBui lenF (aCons (eVar 6) aNil))))))
  (sSeq (sAsg 8 (eBui sumF (aCons (eLc (csrc (eVar 6)) [9] (gPut 9) (tCmp2 gtD (eIx (eVar 1) (eVar 9)) (eVar 7)) (eBin shlD (eC (.int 1)) (eVar 9))) aNil)))
  (sRet (eTup (dCons (eBin subD (eVar 4) (eVar 8)) (dCons (eBin andD (eVar 8) (eBin orD (eVar 5) (eCall F__law_mask (aCons (eVar 0) (aCons (eC (.int 14)) (aCons (eVar 3) aNil)))))) dNil)))))))))))))
theorem X__law_rule : ∃ f : Fn, f = fnD 10 3 B__law_rule := ⟨_, rfl⟩
noncomputable def F__law_rule : Fn := Classical.choose X__law_rule
theorem F__law_rule_eq : F__law_rule = fnD 10 3 B__law_rule := Classical.choose_spec X__law_rule
noncomputable def B__law_low : SEnv → Option Out :=
  (sSeq (sAsg 2 (eLc (rg1 (aCons (eBui lenF (aCons (eVar 0) aNil)) aNil)) [3] (gPut 3) (tCmp2 eqD (eBin andD (eBin shrD (eVar 1) (eVar 3)) (eC (.int 1))) (eC (.int 1))) (eIx (eVar 0) (eVar 3))))
  (sRet (eBui minDF (aCons (eVar 2) (aCons (eUn (uF fun i => -i) (eC (.int 1))) aNil)))))
theorem X__law_low : ∃ f : Fn, f = fnD 4 2 B__law_low := ⟨_, rfl⟩
noncomputable def F__law_low : Fn := Classical.choose X__law_low
theorem F__law_low_eq : F__law_low = fnD 4 2 B__law_low := Classical.choose_spec X__law_low
noncomputable def B__law_due : SEnv → Option Out :=
  (sSeq (sFor (rg1 (aCons (eBui lenF (aCons (eVar 0) aNil)) aNil)) (gPut 2)
  (sWipeB [2, 3, 4] (sSeq (sAsg 3 (eCall F__law_low (aCons (eVar 1) (aCons (eIx (eIx (eVar 0) (eVar 2)) (eC (.int 0))) aNil))))
  (sSeq (sAsg 4 (eCall F__law_low (aCons (eVar 1) (aCons (eIx (eIx (eVar 0) (eVar 2)) (eC (.int 1))) aNil))))
  (sIf (tOr2 (tCmp2 ltD (eVar 3) (eC (.int 0))) (tChn (fun i j => decide (i ≤ j)) (fun i j => decide (i ≤ j)) (eC (.int 0)) (eVar 4) (eVar 3))) (sRet (eVar 2)) sNext)))))
  (sRet (eUn (uF fun i => -i) (eC (.int 1)))))
theorem X__law_due : ∃ f : Fn, f = fnD 5 2 B__law_due := ⟨_, rfl⟩
noncomputable def F__law_due : Fn := Classical.choose X__law_due
theorem F__law_due_eq : F__law_due = fnD 5 2 B__law_due := Classical.choose_spec X__law_due
noncomputable def B__law_right : SEnv → Option Out :=
  (sSeq (sAsg 2 (eCall F__law_due (aCons (eIx (eVar 0) (eC (.int 2))) (aCons (eVar 1) aNil))))
  (sSeq (sAsg 3 (eCall F_misfit (aCons (eVar 0) (aCons (eBui tupleF (aCons (eVar 1) aNil)) aNil))))
  (sSeq (sIf (tCmp2 ltD (eVar 2) (eC (.int 0))) (sRet (eB (tCmp2 isnF (eVar 3) (eC .none)))) sNext)
  (sRet (eAnd (eIsi "int" (eVar 3)) (eAnd (eUn notD (eIsi "bool" (eVar 3))) (eB (tCmp2 eqD (eVar 3) (eVar 2)))))))))
theorem X__law_right : ∃ f : Fn, f = fnD 4 2 B__law_right := ⟨_, rfl⟩
noncomputable def F__law_right : Fn := Classical.choose X__law_right
theorem F__law_right_eq : F__law_right = fnD 4 2 B__law_right := Classical.choose_spec X__law_right
noncomputable def B_law : SEnv → Option Out :=
  (sSeq (sAsg 1 (eCall F__law_cell_at (aCons (eVar 0) (aCons (eC (.int 0)) aNil))))
  (sSeq (sAsg 2 (eBin addD (eC (.int 1)) (eBin modD (eCall F__law_draw (aCons (eVar 1) (aCons (eC (.int 0)) aNil))) (eC (.int 64)))))
  (sSeq (sIf (tCmp2 eqD (eBin modD (eCall F__law_draw (aCons (eVar 1) (aCons (eC (.int 1)) aNil))) (eC (.int 6))) (eC (.int 5))) (sAsg 2 (eC (.int 64))) sNext)
  (sSeq (sAsg 3 (eCall F__law_possible (aCons (eVar 1) (aCons (eVar 2) aNil))))
  (sSeq (sAsg 4 (eBin modD (eCall F__law_draw (aCons (eVar 1) (aCons (eC (.int 10)) aNil))) (eC (.int 4))))
  (sSeq (sAsg 5 (eLc (rg1 (aCons (eVar 2) aNil)) [6] (gPut 6) tYesD (eC .none)))
  (sSeq (sFor (rg1 (aCons (eVar 2) aNil)) (gPut 6)
  (sWipeB [6] (sIf (tCmp2 eqD (eBin andD (eBin shrD (eVar 3) (eVar 6)) (eC (.int 1))) (eC (.int 1))) (sSetIx 5 (eVar 6) (eCall F__law_rank (aCons (eVar 1) (aCons (eBin addD (eC (.int 20)) (eBin mulD (eC (.int 13)) (eVar 6))) (aCons (eVar 4) aNil))))) sNext)))
  (sSeq (sAsg 7 (eLst dNil))
  (sSeq (sFor (eSrc lsrc (eSl (eVar 0) (oSome (eC (.int 1))) (oSome (eC (.int 91))))) (gPut 8)
  (sWipeB [6, 8] (sSeq (sAsg 6 (eBin modD (eCall F__law_draw (aCons (eVar 8) (aCons (eC (.int 0)) aNil))) (eVar 2)))
  (sIf (tAnd2 (tCmp2 ltD (eBin modD (eVar 8) (eC (.int 4))) (eC (.int 2))) (tCmp2 ltD (eBui lenF (aCons (eVar 7) aNil)) (eC (.int 21)))) (sApp 7 (eCall F__law_rule (aCons (eVar 8) (aCons (eVar 5) (aCons (eVar 3) aNil))))) (sIf (tCmp2 ltD (eBin modD (eVar 8) (eC (.int 4))) (eC (.int 2))) (sSetIx 7 (eBin modD (eCall F__law_draw (aCons (eVar 8) (aCons (eC (.int 17)) aNil))) (eC (.int 21))) (eCall F__law_rule (aCons (eVar 8) (aCons (eVar 5) (aCons (eVar 3) aNil))))) (sIf (tAnd2 (tCmp2 eqD (eBin modD (eVar 8) (eC (.int 4))) (eC (.int 2))) (tCmp2 eqD (eBin andD (eBin shrD (eVar 3) (eVar 6)) (eC (.int 1))) (eC (.int 1)))) (sSetIx 5 (eVar 6) (eCall F__law_rank (aCons (eVar 8) (aCons (eC (.int 20)) (aCons (eBin addD (eC (.int 1)) (eBin modD (eCall F__law_draw (aCons (eVar 8) (aCons (eC (.int 15)) aNil))) (eC (.int 3)))) aNil))))) (sIf (tNot1 (tTru (eCall F__law_right (aCons (eTup (dCons (eVar 2) (dCons (eVar 3) (dCons (eBui tupleF (aCons (eVar 7) aNil)) dNil)))) (aCons (eVar 5) aNil))))) (sRet (eC (.bool false))) sNext)))))))
  (sSeq (sAsg 9 (eTup (dCons (eVar 2) (dCons (eVar 3) (dCons (eBui tupleF (aCons (eVar 7) aNil)) dNil)))))
  (sRet (eAnd (eCall F__law_right (aCons (eVar 9) (aCons (eVar 5) aNil))) (eCall F__law_right (aCons (eVar 9) (aCons (eVar 5) aNil)))))))))))))))
theorem X_law : ∃ f : Fn, f = fnD 10 1 B_law := ⟨_, rfl⟩
noncomputable def F_law : Fn := Classical.choose X_law
theorem F_law_eq : F_law = fnD 10 1 B_law := Classical.choose_spec X_law
/-- what stands at a place, and whether the set has it -/
def inB (m : Int) (k : Nat) (r : Option Int) : Bool := r.isSome && bt m k
def stepL (m : Int) (i : Nat) (r : Option Int) (acc : Option Int) : Option Int := if inB m i r then (match acc, r with
    | some y, some x => if x < y then some x else some y
    | _, r => r) else acc
theorem least_eq (rs : List (Option Int)) (m : Int) : F_least [.pl (.tuple (rs.map oD)), .pl (.int m)] = some (.ret (.pl (oD (foldI (stepL m) 0 rs none)))) := by
  rw [F_least_eq]; unfold B_least
  have key := forD_fold (g := gTupF 2 (gsCons 3 (gsCons 4 gsNil))) (b := sWipeB [3, 4] (sIf (tAnd2 (tCmp2 notnF (eVar 4) (eC .none)) (tCmp2 eqD (eBin andD (eBin shrD (eVar 1) (eVar 3)) (eC (.int 1))) (eC (.int 1)))) (sIf (tOr2 (tCmp2 isnF (eVar 2) (eC .none)) (tCmp2 ltD (eVar 4) (eVar 2))) (sAsg 2 (eVar 4)) sNext) sNext)) (fun k x => .tuple [.int (k : Nat), oD x])
    (fun acc => [.pl (.tuple (rs.map oD)), .pl (.int m), .pl (oD acc), .un, .un]) (stepL m) (fun _ _ => True) rs 0 none trivial fun k r acc _ _ => ⟨⟨_, rfl, ?_⟩, trivial⟩
  · have k1 := key.1
    rw [oD_none] at k1
    simp -implicitDefEqProofs (disch := omega) only [fnD_def, eBin_def, eUn_def, eVar_def, eC_def, tCmp2_def, eB_def, sSeq_def, sAsg_def, sRet_def, sNext_def, sIf_def, eCall_def, eBui_def, aCons_def, aNil_def, dCons_def, dNil_def, eTup_def, eLst_def, eIx_def, tAnd2_def, tOr2_def, tNot1_def, tTru_def, eAnd_def, eOr_def, eIsi_def, sWipeB_def, wipeO_nx, wipeO_rt, wipeO_bk, wipeO_ct, gPut_def, gTupF_tup, gsCons_cons, gsNil_nil, opt_map_some, get_zero, get_succ, put_zero, put_succ, borq_pl, borq_own, borq_brw, bor_pl, bor_own, bor_brw, sto_pl, sto_own, sl2_pl, sl1_pl, modD_p, addD_int, iF0_int, mulD_l, mulD_r, divD_p, powD_p, shlD_p, shrD_p, uF_int, vw2_pl, cF_int, eqD_int, neD_int, isnF_none, notnF_none, isNoneD_none, isNoneD_int, wipe1_nil, wipe1_cons, truD_bool, toD_pl, List.length_cons, List.length_nil, Nat.reduceAdd, Nat.reduceSub, if_true, List.replicate, List.cons_append, List.nil_append, Nat.zero_add, Bool.not_true, Bool.not_false, decide_true, decide_false, Nat.reduceLeDiff, Int.reduceSub, Int.reduceAdd, notD_bool, isi_int_int, isi_int_bool, opt_bind_some, sFor_def, eLc_def, csrc_def, vsrc_def, rg1_def, eSrc_def, enT_def, sFrz_def, sRetVar_def, sMov_def, enumD_eq, enumFrom_mapI, k1]
  · rw [Nat.zero_add]
    cases r with
    | none => simp -implicitDefEqProofs (disch := omega) only [fnD_def, eBin_def, eUn_def, eVar_def, eC_def, tCmp2_def, eB_def, sSeq_def, sAsg_def, sRet_def, sNext_def, sIf_def, eCall_def, eBui_def, aCons_def, aNil_def, dCons_def, dNil_def, eTup_def, eLst_def, eIx_def, tAnd2_def, tOr2_def, tNot1_def, tTru_def, eAnd_def, eOr_def, eIsi_def, sWipeB_def, wipeO_nx, wipeO_rt, wipeO_bk, wipeO_ct, gPut_def, gTupF_tup, gsCons_cons, gsNil_nil, opt_map_some, get_zero, get_succ, put_zero, put_succ, borq_pl, borq_own, borq_brw, bor_pl, bor_own, bor_brw, sto_pl, sto_own, sl2_pl, sl1_pl, modD_p, addD_int, iF0_int, mulD_l, mulD_r, divD_p, powD_p, shlD_p, shrD_p, uF_int, vw2_pl, cF_int, eqD_int, neD_int, isnF_none, notnF_none, isNoneD_none, isNoneD_int, wipe1_nil, wipe1_cons, truD_bool, toD_pl, List.length_cons, List.length_nil, Nat.reduceAdd, Nat.reduceSub, if_true, List.replicate, List.cons_append, List.nil_append, Nat.zero_add, Bool.not_true, Bool.not_false, decide_true, decide_false, Nat.reduceLeDiff, Int.reduceSub, Int.reduceAdd, notD_bool, isi_int_int, isi_int_bool, opt_bind_some, sFor_def, eLc_def, csrc_def, vsrc_def, rg1_def, eSrc_def, enT_def, sFrz_def, sRetVar_def, sMov_def, oD_none]; rfl
    | some x =>
      by_cases c : bt m k = true
      · cases acc with
        | none => simp -implicitDefEqProofs (disch := omega) only [fnD_def, eBin_def, eUn_def, eVar_def, eC_def, tCmp2_def, eB_def, sSeq_def, sAsg_def, sRet_def, sNext_def, sIf_def, eCall_def, eBui_def, aCons_def, aNil_def, dCons_def, dNil_def, eTup_def, eLst_def, eIx_def, tAnd2_def, tOr2_def, tNot1_def, tTru_def, eAnd_def, eOr_def, eIsi_def, sWipeB_def, wipeO_nx, wipeO_rt, wipeO_bk, wipeO_ct, gPut_def, gTupF_tup, gsCons_cons, gsNil_nil, opt_map_some, get_zero, get_succ, put_zero, put_succ, borq_pl, borq_own, borq_brw, bor_pl, bor_own, bor_brw, sto_pl, sto_own, sl2_pl, sl1_pl, modD_p, addD_int, iF0_int, mulD_l, mulD_r, divD_p, powD_p, shlD_p, shrD_p, uF_int, vw2_pl, cF_int, eqD_int, neD_int, isnF_none, notnF_none, isNoneD_none, isNoneD_int, wipe1_nil, wipe1_cons, truD_bool, toD_pl, List.length_cons, List.length_nil, Nat.reduceAdd, Nat.reduceSub, if_true, List.replicate, List.cons_append, List.nil_append, Nat.zero_add, Bool.not_true, Bool.not_false, decide_true, decide_false, Nat.reduceLeDiff, Int.reduceSub, Int.reduceAdd, notD_bool, isi_int_int, isi_int_bool, opt_bind_some, sFor_def, eLc_def, csrc_def, vsrc_def, rg1_def, eSrc_def, enT_def, sFrz_def, sRetVar_def, sMov_def, oD_none, oD_some, Int.toNat_natCast, bit_test1, stepL, inB, c, Option.isSome, Bool.and_true]
        | some y =>
          by_cases c2 : x < y
          · simp -implicitDefEqProofs (disch := omega) only [fnD_def, eBin_def, eUn_def, eVar_def, eC_def, tCmp2_def, eB_def, sSeq_def, sAsg_def, sRet_def, sNext_def, sIf_def, eCall_def, eBui_def, aCons_def, aNil_def, dCons_def, dNil_def, eTup_def, eLst_def, eIx_def, tAnd2_def, tOr2_def, tNot1_def, tTru_def, eAnd_def, eOr_def, eIsi_def, sWipeB_def, wipeO_nx, wipeO_rt, wipeO_bk, wipeO_ct, gPut_def, gTupF_tup, gsCons_cons, gsNil_nil, opt_map_some, get_zero, get_succ, put_zero, put_succ, borq_pl, borq_own, borq_brw, bor_pl, bor_own, bor_brw, sto_pl, sto_own, sl2_pl, sl1_pl, modD_p, addD_int, iF0_int, mulD_l, mulD_r, divD_p, powD_p, shlD_p, shrD_p, uF_int, vw2_pl, cF_int, eqD_int, neD_int, isnF_none, notnF_none, isNoneD_none, isNoneD_int, wipe1_nil, wipe1_cons, truD_bool, toD_pl, List.length_cons, List.length_nil, Nat.reduceAdd, Nat.reduceSub, if_true, List.replicate, List.cons_append, List.nil_append, Nat.zero_add, Bool.not_true, Bool.not_false, decide_true, decide_false, Nat.reduceLeDiff, Int.reduceSub, Int.reduceAdd, notD_bool, isi_int_int, isi_int_bool, opt_bind_some, sFor_def, eLc_def, csrc_def, vsrc_def, rg1_def, eSrc_def, enT_def, sFrz_def, sRetVar_def, sMov_def, oD_none, oD_some, Int.toNat_natCast, bit_test1, stepL, inB, c, c2, Option.isSome, Bool.and_true]
          · simp -implicitDefEqProofs (disch := omega) only [fnD_def, eBin_def, eUn_def, eVar_def, eC_def, tCmp2_def, eB_def, sSeq_def, sAsg_def, sRet_def, sNext_def, sIf_def, eCall_def, eBui_def, aCons_def, aNil_def, dCons_def, dNil_def, eTup_def, eLst_def, eIx_def, tAnd2_def, tOr2_def, tNot1_def, tTru_def, eAnd_def, eOr_def, eIsi_def, sWipeB_def, wipeO_nx, wipeO_rt, wipeO_bk, wipeO_ct, gPut_def, gTupF_tup, gsCons_cons, gsNil_nil, opt_map_some, get_zero, get_succ, put_zero, put_succ, borq_pl, borq_own, borq_brw, bor_pl, bor_own, bor_brw, sto_pl, sto_own, sl2_pl, sl1_pl, modD_p, addD_int, iF0_int, mulD_l, mulD_r, divD_p, powD_p, shlD_p, shrD_p, uF_int, vw2_pl, cF_int, eqD_int, neD_int, isnF_none, notnF_none, isNoneD_none, isNoneD_int, wipe1_nil, wipe1_cons, truD_bool, toD_pl, List.length_cons, List.length_nil, Nat.reduceAdd, Nat.reduceSub, if_true, List.replicate, List.cons_append, List.nil_append, Nat.zero_add, Bool.not_true, Bool.not_false, decide_true, decide_false, Nat.reduceLeDiff, Int.reduceSub, Int.reduceAdd, notD_bool, isi_int_int, isi_int_bool, opt_bind_some, sFor_def, eLc_def, csrc_def, vsrc_def, rg1_def, eSrc_def, enT_def, sFrz_def, sRetVar_def, sMov_def, oD_none, oD_some, Int.toNat_natCast, bit_test1, stepL, inB, c, c2, if_false, Option.isSome, Bool.and_true]
      · have c' : bt m k = false := by simpa using c
        simp -implicitDefEqProofs (disch := omega) only [fnD_def, eBin_def, eUn_def, eVar_def, eC_def, tCmp2_def, eB_def, sSeq_def, sAsg_def, sRet_def, sNext_def, sIf_def, eCall_def, eBui_def, aCons_def, aNil_def, dCons_def, dNil_def, eTup_def, eLst_def, eIx_def, tAnd2_def, tOr2_def, tNot1_def, tTru_def, eAnd_def, eOr_def, eIsi_def, sWipeB_def, wipeO_nx, wipeO_rt, wipeO_bk, wipeO_ct, gPut_def, gTupF_tup, gsCons_cons, gsNil_nil, opt_map_some, get_zero, get_succ, put_zero, put_succ, borq_pl, borq_own, borq_brw, bor_pl, bor_own, bor_brw, sto_pl, sto_own, sl2_pl, sl1_pl, modD_p, addD_int, iF0_int, mulD_l, mulD_r, divD_p, powD_p, shlD_p, shrD_p, uF_int, vw2_pl, cF_int, eqD_int, neD_int, isnF_none, notnF_none, isNoneD_none, isNoneD_int, wipe1_nil, wipe1_cons, truD_bool, toD_pl, List.length_cons, List.length_nil, Nat.reduceAdd, Nat.reduceSub, if_true, List.replicate, List.cons_append, List.nil_append, Nat.zero_add, Bool.not_true, Bool.not_false, decide_true, decide_false, Nat.reduceLeDiff, Int.reduceSub, Int.reduceAdd, notD_bool, isi_int_int, isi_int_bool, opt_bind_some, sFor_def, eLc_def, csrc_def, vsrc_def, rg1_def, eSrc_def, enT_def, sFrz_def, sRetVar_def, sMov_def, oD_none, oD_some, Int.toNat_natCast, bit_test1, stepL, inB, c', Bool.false_eq_true, if_false, Option.isSome, Bool.and_false]
/-- the ranks of the set -/
def InS (m : Int) (rs : List (Option Int)) (x : Int) : Prop := ∃ k : Nat, rs[k]? = some (some x) ∧ bt m k = true
theorem fold_least (m : Int) : ∀ (rs : List (Option Int)) (i : Nat) (P : Int → Prop) (acc : Option Int), IsLeast P acc → IsLeast (fun x => P x ∨ ∃ k : Nat, rs[k]? = some (some x) ∧ bt m (i + k) = true) (foldI (stepL m) i rs acc)
  | [], i, P, acc, h => h.imp fun x => ⟨.inl, fun q => by rcases q with q | ⟨k, q, _⟩; exact q; simp at q⟩
  | r :: rs, i, P, acc, h => by
    have h1 : IsLeast (fun x => P x ∨ (r = some x ∧ bt m i = true)) (stepL m i r acc) := by
      unfold stepL inB
      cases r with
      | none => exact h.imp fun x => ⟨.inl, fun q => by rcases q with q | ⟨q, _⟩; exact q; cases q⟩
      | some x =>
        cases c : bt m i with
        | false => exact h.imp fun x => ⟨.inl, fun q => by rcases q with q | ⟨_, q⟩; exact q; cases q⟩
        | true =>
          cases acc with
          | none => exact ⟨.inr ⟨rfl, rfl⟩, fun y q => by rcases q with q | ⟨q, _⟩; exact absurd q (h y); cases q; exact Int.le_refl _⟩
          | some y =>
            show IsLeast _ (if x < y then some x else some y)
            by_cases c2 : x < y
            · rw [if_pos c2]
              exact ⟨.inr ⟨rfl, rfl⟩, fun z q => by
                rcases q with q | ⟨q, _⟩
                · have := h.2 z q; omega
                · cases q; exact Int.le_refl _⟩
            · rw [if_neg c2]
              exact ⟨.inl h.1, fun z q => by
                rcases q with q | ⟨q, _⟩
                · exact h.2 z q
                · cases q; omega⟩
    have h2 := fold_least m rs (i + 1) _ _ h1
    refine h2.imp fun x => ?_
    constructor
    · rintro ((q | ⟨q1, q2⟩) | ⟨k, q1, q2⟩)
      · exact .inl q
      · exact .inr ⟨0, by rw [q1]; rfl, q2⟩
      · exact .inr ⟨k + 1, by simpa using q1, by rw [show i + (k + 1) = i + 1 + k by omega]; exact q2⟩
    · rintro (q | ⟨k, q1, q2⟩)
      · exact .inl (.inl q)
      · cases k with
        | zero => exact .inl (.inr ⟨by simpa using q1, q2⟩)
        | succ k => exact .inr ⟨k, by simpa using q1, by rw [show i + 1 + k = i + (k + 1) by omega]; exact q2⟩
theorem least_ok (rs : List (Option Int)) (m : Int) : ∃ o, F_least [.pl (.tuple (rs.map oD)), .pl (.int m)] = some (.ret (.pl (oD o))) ∧ IsLeast (InS m rs) o := by
  refine ⟨_, least_eq rs m, ?_⟩
  refine (fold_least m rs 0 (fun _ => False) none fun x h => h).imp fun x => ?_
  constructor
  · rintro (q | ⟨k, q1, q2⟩)
    · exact q.elim
    · exact ⟨k, q1, by rwa [Nat.zero_add] at q2⟩
  · rintro ⟨k, q1, q2⟩
    exact .inr ⟨k, q1, by rwa [Nat.zero_add]⟩
theorem at_k {rs : List (Option Int)} {k : Nat} {r : Option Int} (h : rs[k]? = some r) : atI (rs.map oD) (k : Int) = some (oD r) := by
  have hl := (List.getElem?_eq_some_iff.mp h).1
  rw [atI_map, atI_lt (by omega) (by omega), Int.toNat_natCast, h]
  rfl

theorem eOr_def' (a b : SEnv → Option Sl) (ρ : SEnv) : eOr a b ρ = match a ρ with | some (.pl (.bool true)) => some (.pl (.bool true)) | some (.pl (.bool false)) => b ρ | _ => none := rfl
def lo (rs : List (Option Int)) (m : Int) : Option Int := foldI (stepL m) 0 rs none
theorem lo_ok (rs : List (Option Int)) (m : Int) : IsLeast (InS m rs) (lo rs m) := by
  obtain ⟨o, e, h⟩ := least_ok rs m
  rw [least_eq] at e
  have : oD (lo rs m) = oD o := by
    have := Option.some.inj e
    injection this with this
    injection this
  have e2 : lo rs m = o := by
    cases q : lo rs m with
    | none => rw [q] at this; cases o with
      | none => rfl
      | some y => cases this
    | some x => rw [q] at this; cases o with
      | none => cases this
      | some y => cases this; rfl
  rw [e2]; exact h
def rD : Int × Int → D := fun r => .tuple [.int r.1, .int r.2]
def fitB (rs : List (Option Int)) (r : Int × Int) : Bool := match lo rs r.1, lo rs r.2 with
  | some x, some y => decide (x < y)
  | some _, none => true
  | none, _ => false
theorem at2_0 (a b : D) : atI [a, b] 0 = some a := rfl
theorem at2_1 (a b : D) : atI [a, b] 1 = some b := rfl
theorem at3_2 (a b c : D) : atI [a, b, c] 2 = some c := rfl
theorem fit_ok (rs : List (Option Int)) (r : Int × Int) : F_fit_for [.pl (.tuple (rs.map oD)), .pl (rD r)] = some (.ret (.pl (.bool (fitB rs r)))) := by
  have e1 := least_eq rs r.1
  have e2 := least_eq rs r.2
  rw [F_fit_for_eq]; unfold B_fit_for rD
  cases c1 : lo rs r.1 with
  | none =>
    unfold lo at c1
    rw [c1] at e1
    simp -implicitDefEqProofs (disch := omega) only [fnD_def, eBin_def, eUn_def, eVar_def, eC_def, tCmp2_def, eB_def, sSeq_def, sAsg_def, sRet_def, sNext_def, sIf_def, eCall_def, eBui_def, aCons_def, aNil_def, dCons_def, dNil_def, eTup_def, eLst_def, eIx_def, tAnd2_def, tOr2_def, tNot1_def, tTru_def, eAnd_def, eOr_def, eIsi_def, sWipeB_def, wipeO_nx, wipeO_rt, wipeO_bk, wipeO_ct, gPut_def, gTupF_tup, gsCons_cons, gsNil_nil, opt_map_some, get_zero, get_succ, put_zero, put_succ, borq_pl, borq_own, borq_brw, bor_pl, bor_own, bor_brw, sto_pl, sto_own, sl2_pl, sl1_pl, modD_p, addD_int, iF0_int, mulD_l, mulD_r, divD_p, powD_p, shlD_p, shrD_p, uF_int, vw2_pl, cF_int, eqD_int, neD_int, isnF_none, notnF_none, isNoneD_none, isNoneD_int, wipe1_nil, wipe1_cons, truD_bool, toD_pl, List.length_cons, List.length_nil, Nat.reduceAdd, Nat.reduceSub, if_true, List.replicate, List.cons_append, List.nil_append, Nat.zero_add, Bool.not_true, Bool.not_false, decide_true, decide_false, Nat.reduceLeDiff, Int.reduceSub, Int.reduceAdd, notD_bool, isi_int_int, isi_int_bool, opt_bind_some, sFor_def, eLc_def, csrc_def, vsrc_def, rg1_def, eSrc_def, enT_def, sFrz_def, sRetVar_def, sMov_def, ixD_tuple, at2_0, at2_1, e1, e2, oD_none, fitB, lo, c1]
  | some x =>
    unfold lo at c1
    rw [c1] at e1
    cases c2 : lo rs r.2 with
    | none =>
      unfold lo at c2
      rw [c2] at e2
      simp -implicitDefEqProofs (disch := omega) only [fnD_def, eBin_def, eUn_def, eVar_def, eC_def, tCmp2_def, eB_def, sSeq_def, sAsg_def, sRet_def, sNext_def, sIf_def, eCall_def, eBui_def, aCons_def, aNil_def, dCons_def, dNil_def, eTup_def, eLst_def, eIx_def, tAnd2_def, tOr2_def, tNot1_def, tTru_def, eAnd_def, eOr_def, eIsi_def, sWipeB_def, wipeO_nx, wipeO_rt, wipeO_bk, wipeO_ct, gPut_def, gTupF_tup, gsCons_cons, gsNil_nil, opt_map_some, get_zero, get_succ, put_zero, put_succ, borq_pl, borq_own, borq_brw, bor_pl, bor_own, bor_brw, sto_pl, sto_own, sl2_pl, sl1_pl, modD_p, addD_int, iF0_int, mulD_l, mulD_r, divD_p, powD_p, shlD_p, shrD_p, uF_int, vw2_pl, cF_int, eqD_int, neD_int, isnF_none, notnF_none, isNoneD_none, isNoneD_int, wipe1_nil, wipe1_cons, truD_bool, toD_pl, List.length_cons, List.length_nil, Nat.reduceAdd, Nat.reduceSub, if_true, List.replicate, List.cons_append, List.nil_append, Nat.zero_add, Bool.not_true, Bool.not_false, decide_true, decide_false, Nat.reduceLeDiff, Int.reduceSub, Int.reduceAdd, notD_bool, isi_int_int, isi_int_bool, opt_bind_some, sFor_def, eLc_def, csrc_def, vsrc_def, rg1_def, eSrc_def, enT_def, sFrz_def, sRetVar_def, sMov_def, ixD_tuple, at2_0, at2_1, e1, e2, oD_none, oD_some, fitB, lo, c1, c2]
    | some y =>
      unfold lo at c2
      rw [c2] at e2
      simp -implicitDefEqProofs (disch := omega) only [fnD_def, eBin_def, eUn_def, eVar_def, eC_def, tCmp2_def, eB_def, sSeq_def, sAsg_def, sRet_def, sNext_def, sIf_def, eCall_def, eBui_def, aCons_def, aNil_def, dCons_def, dNil_def, eTup_def, eLst_def, eIx_def, tAnd2_def, tOr2_def, tNot1_def, tTru_def, eAnd_def, eOr_def, eIsi_def, sWipeB_def, wipeO_nx, wipeO_rt, wipeO_bk, wipeO_ct, gPut_def, gTupF_tup, gsCons_cons, gsNil_nil, opt_map_some, get_zero, get_succ, put_zero, put_succ, borq_pl, borq_own, borq_brw, bor_pl, bor_own, bor_brw, sto_pl, sto_own, sl2_pl, sl1_pl, modD_p, addD_int, iF0_int, mulD_l, mulD_r, divD_p, powD_p, shlD_p, shrD_p, uF_int, vw2_pl, cF_int, eqD_int, neD_int, isnF_none, notnF_none, isNoneD_none, isNoneD_int, wipe1_nil, wipe1_cons, truD_bool, toD_pl, List.length_cons, List.length_nil, Nat.reduceAdd, Nat.reduceSub, if_true, List.replicate, List.cons_append, List.nil_append, Nat.zero_add, Bool.not_true, Bool.not_false, decide_true, decide_false, Nat.reduceLeDiff, Int.reduceSub, Int.reduceAdd, notD_bool, isi_int_int, isi_int_bool, opt_bind_some, sFor_def, eLc_def, csrc_def, vsrc_def, rg1_def, eSrc_def, enT_def, sFrz_def, sRetVar_def, sMov_def, ixD_tuple, at2_0, at2_1, e1, e2, oD_none, oD_some, fitB, lo, c1, c2]
/-- the first place of the kind -/
def firstI {α : Type} (p : α → Bool) : Nat → List α → Option Nat
  | _, [] => none
  | i, x :: xs => if p x then some i else firstI p (i + 1) xs
theorem forD_first {α : Type} {g : GF} {b : SEnv → Option Out} (f : Nat → α → D) (p : α → Bool) (o : Nat → Sl) (ρ : SEnv) : ∀ (xs : List α) (i : Nat), (∀ k x, xs[k]? = some x → ∃ ρ1, g (f (i + k) x) ρ = some ρ1 ∧ b ρ1 = if p x then some (.rt (o (i + k))) else some (.nx ρ)) →
    forD g b (mapI f i xs) ρ = match firstI p i xs with | some k => some (.rt (o k)) | none => some (.nx ρ)
  | [], i, _ => rfl
  | x :: xs, i, h => by
    obtain ⟨ρ1, h1, h2⟩ := h 0 x rfl
    rw [Nat.add_zero] at h1 h2
    rw [mapI, firstI, forD, h1]
    have ih := forD_first (g := g) (b := b) f p o ρ xs (i + 1) fun k y e => by
      have := h (k + 1) y (by simpa using e)
      rw [show i + (k + 1) = i + 1 + k by omega] at this
      exact this
    cases c : p x with
    | true =>
      rw [c] at h2
      simp only [h2, if_true]
    | false =>
      rw [c] at h2
      simp only [h2, Bool.false_eq_true, if_false]
      exact ih
def frD (size possible : Int) (rules : List (Int × Int)) : D := .tuple [.int size, .int possible, .tuple (rules.map rD)]
def oNat : Option Nat → D
  | none => .none
  | some k => .int (k : Nat)
theorem misfit_ok (size possible : Int) (rules : List (Int × Int)) (rs : List (Option Int)) : F_misfit [.pl (frD size possible rules), .pl (.tuple (rs.map oD))] = some (.ret (.pl (oNat (firstI (fun r => !fitB rs r) 0 rules)))) := by
  have key := forD_first (g := gTupF 2 (gsCons 2 (gsCons 3 gsNil))) (b := sWipeB [2, 3] (sIf (tNot1 (tTru (eCall F_fit_for (aCons (eVar 1) (aCons (eVar 3) aNil))))) (sRet (eVar 2)) sNext)) (fun k x => .tuple [.int (k : Nat), rD x]) (fun r => !fitB rs r) (fun k => .pl (.int (k : Nat)))
    [.pl (frD size possible rules), .pl (.tuple (rs.map oD)), .un, .un] rules 0 fun k r _ => ⟨_, rfl, ?_⟩
  · rw [← enumFrom_mapI] at key
    rw [F_misfit_eq]; unfold B_misfit
    unfold frD at key ⊢
    cases c : firstI (fun r => !fitB rs r) 0 rules with
    | none => rw [c] at key; simp -implicitDefEqProofs (disch := omega) only [fnD_def, eBin_def, eUn_def, eVar_def, eC_def, tCmp2_def, eB_def, sSeq_def, sAsg_def, sRet_def, sNext_def, sIf_def, eCall_def, eBui_def, aCons_def, aNil_def, dCons_def, dNil_def, eTup_def, eLst_def, eIx_def, tAnd2_def, tOr2_def, tNot1_def, tTru_def, eAnd_def, eOr_def, eIsi_def, sWipeB_def, wipeO_nx, wipeO_rt, wipeO_bk, wipeO_ct, gPut_def, gTupF_tup, gsCons_cons, gsNil_nil, opt_map_some, get_zero, get_succ, put_zero, put_succ, borq_pl, borq_own, borq_brw, bor_pl, bor_own, bor_brw, sto_pl, sto_own, sl2_pl, sl1_pl, modD_p, addD_int, iF0_int, mulD_l, mulD_r, divD_p, powD_p, shlD_p, shrD_p, uF_int, vw2_pl, cF_int, eqD_int, neD_int, isnF_none, notnF_none, isNoneD_none, isNoneD_int, wipe1_nil, wipe1_cons, truD_bool, toD_pl, List.length_cons, List.length_nil, Nat.reduceAdd, Nat.reduceSub, if_true, List.replicate, List.cons_append, List.nil_append, Nat.zero_add, Bool.not_true, Bool.not_false, decide_true, decide_false, Nat.reduceLeDiff, Int.reduceSub, Int.reduceAdd, notD_bool, isi_int_int, isi_int_bool, opt_bind_some, sFor_def, eLc_def, csrc_def, vsrc_def, rg1_def, eSrc_def, enT_def, sFrz_def, sRetVar_def, sMov_def, ixD_tuple, at3_2, enumD_eq, key, oNat]
    | some j => rw [c] at key; simp -implicitDefEqProofs (disch := omega) only [fnD_def, eBin_def, eUn_def, eVar_def, eC_def, tCmp2_def, eB_def, sSeq_def, sAsg_def, sRet_def, sNext_def, sIf_def, eCall_def, eBui_def, aCons_def, aNil_def, dCons_def, dNil_def, eTup_def, eLst_def, eIx_def, tAnd2_def, tOr2_def, tNot1_def, tTru_def, eAnd_def, eOr_def, eIsi_def, sWipeB_def, wipeO_nx, wipeO_rt, wipeO_bk, wipeO_ct, gPut_def, gTupF_tup, gsCons_cons, gsNil_nil, opt_map_some, get_zero, get_succ, put_zero, put_succ, borq_pl, borq_own, borq_brw, bor_pl, bor_own, bor_brw, sto_pl, sto_own, sl2_pl, sl1_pl, modD_p, addD_int, iF0_int, mulD_l, mulD_r, divD_p, powD_p, shlD_p, shrD_p, uF_int, vw2_pl, cF_int, eqD_int, neD_int, isnF_none, notnF_none, isNoneD_none, isNoneD_int, wipe1_nil, wipe1_cons, truD_bool, toD_pl, List.length_cons, List.length_nil, Nat.reduceAdd, Nat.reduceSub, if_true, List.replicate, List.cons_append, List.nil_append, Nat.zero_add, Bool.not_true, Bool.not_false, decide_true, decide_false, Nat.reduceLeDiff, Int.reduceSub, Int.reduceAdd, notD_bool, isi_int_int, isi_int_bool, opt_bind_some, sFor_def, eLc_def, csrc_def, vsrc_def, rg1_def, eSrc_def, enT_def, sFrz_def, sRetVar_def, sMov_def, ixD_tuple, at3_2, enumD_eq, key, oNat]
  · rw [Nat.zero_add]
    cases c : fitB rs r with
    | true => simp -implicitDefEqProofs (disch := omega) only [fnD_def, eBin_def, eUn_def, eVar_def, eC_def, tCmp2_def, eB_def, sSeq_def, sAsg_def, sRet_def, sNext_def, sIf_def, eCall_def, eBui_def, aCons_def, aNil_def, dCons_def, dNil_def, eTup_def, eLst_def, eIx_def, tAnd2_def, tOr2_def, tNot1_def, tTru_def, eAnd_def, eOr_def, eIsi_def, sWipeB_def, wipeO_nx, wipeO_rt, wipeO_bk, wipeO_ct, gPut_def, gTupF_tup, gsCons_cons, gsNil_nil, opt_map_some, get_zero, get_succ, put_zero, put_succ, borq_pl, borq_own, borq_brw, bor_pl, bor_own, bor_brw, sto_pl, sto_own, sl2_pl, sl1_pl, modD_p, addD_int, iF0_int, mulD_l, mulD_r, divD_p, powD_p, shlD_p, shrD_p, uF_int, vw2_pl, cF_int, eqD_int, neD_int, isnF_none, notnF_none, isNoneD_none, isNoneD_int, wipe1_nil, wipe1_cons, truD_bool, toD_pl, List.length_cons, List.length_nil, Nat.reduceAdd, Nat.reduceSub, if_true, List.replicate, List.cons_append, List.nil_append, Nat.zero_add, Bool.not_true, Bool.not_false, decide_true, decide_false, Nat.reduceLeDiff, Int.reduceSub, Int.reduceAdd, notD_bool, isi_int_int, isi_int_bool, opt_bind_some, sFor_def, eLc_def, csrc_def, vsrc_def, rg1_def, eSrc_def, enT_def, sFrz_def, sRetVar_def, sMov_def, fit_ok, c, Bool.false_eq_true, if_false]
    | false => simp -implicitDefEqProofs (disch := omega) only [fnD_def, eBin_def, eUn_def, eVar_def, eC_def, tCmp2_def, eB_def, sSeq_def, sAsg_def, sRet_def, sNext_def, sIf_def, eCall_def, eBui_def, aCons_def, aNil_def, dCons_def, dNil_def, eTup_def, eLst_def, eIx_def, tAnd2_def, tOr2_def, tNot1_def, tTru_def, eAnd_def, eOr_def, eIsi_def, sWipeB_def, wipeO_nx, wipeO_rt, wipeO_bk, wipeO_ct, gPut_def, gTupF_tup, gsCons_cons, gsNil_nil, opt_map_some, get_zero, get_succ, put_zero, put_succ, borq_pl, borq_own, borq_brw, bor_pl, bor_own, bor_brw, sto_pl, sto_own, sl2_pl, sl1_pl, modD_p, addD_int, iF0_int, mulD_l, mulD_r, divD_p, powD_p, shlD_p, shrD_p, uF_int, vw2_pl, cF_int, eqD_int, neD_int, isnF_none, notnF_none, isNoneD_none, isNoneD_int, wipe1_nil, wipe1_cons, truD_bool, toD_pl, List.length_cons, List.length_nil, Nat.reduceAdd, Nat.reduceSub, if_true, List.replicate, List.cons_append, List.nil_append, Nat.zero_add, Bool.not_true, Bool.not_false, decide_true, decide_false, Nat.reduceLeDiff, Int.reduceSub, Int.reduceAdd, notD_bool, isi_int_int, isi_int_bool, opt_bind_some, sFor_def, eLc_def, csrc_def, vsrc_def, rg1_def, eSrc_def, enT_def, sFrz_def, sRetVar_def, sMov_def, fit_ok, c]
theorem litems_brw (ds : List D) : litems (.brw ds) = some ds := rfl
def loV (o : Option Int) : Int := match o with | none => -1 | some x => x
/-- all that the set has is ranked -/
def Cov (m : Int) (rs : List (Option Int)) : Prop := ∀ k r, rs[k]? = some r → bt m k = true → ∃ x, r = some x
theorem low_ok (rs : List (Option Int)) (m : Int) (h : rs.length ≤ 64) (hc : Cov m rs) : F__law_low [.brw (rs.map oD), .pl (.int m)] = some (.ret (.pl (.int (loV (lo rs m))))) := by
  rw [F__law_low_eq]; unfold B__law_low
  have e4 : (-(2 ^ 62 : Int) ≤ (rs.length : Int) ∧ (rs.length : Int) < 2 ^ 62) = True := eq_true ⟨by omega, by omega⟩
  have e5 : ((rgD 0 rs.length).length ≤ 100000) = True := eq_true (by rw [rgD_length]; omega)
  have key := lcD_coll (g := gPut 3) (t := tCmp2 eqD (eBin andD (eBin shrD (eVar 1) (eVar 3)) (eC (.int 1))) (eC (.int 1))) (e := eIx (eVar 0) (eVar 3)) (fun k (_ : Option Int) => .int (k : Nat)) (fun k (_ : Option Int) => bt m k) (fun _ r => .int (r.getD 0))
    [.brw (rs.map oD), .pl (.int m), .un, .un] rs 0 fun k r hr => ⟨_, rfl, ?_, fun hp => ?_⟩
  · rw [← rgD0_mapI, collI_map] at key
    have hl : minO (collI (fun k (_ : Option Int) => bt m k) (fun _ r => r.getD 0) 0 rs) = lo rs m := by
      refine ((minO_least _).imp fun x => ?_).uniq (lo_ok rs m)
      rw [collI_mem]
      constructor
      · rintro ⟨k, r, h1, h2, h3⟩
        rw [Nat.zero_add] at h2
        obtain ⟨y, rfl⟩ := hc k r h1 h2
        exact ⟨k, by rw [h1, h3]; rfl, h2⟩
      · rintro ⟨k, h1, h2⟩
        exact ⟨k, some x, h1, by rw [Nat.zero_add]; exact h2, rfl⟩
    have em : ∀ l : List Int, minDF [.brw (l.map PyData.int), .pl (.int (-1))] = some (.pl (.int (loV (minO l)))) := fun l => by
      show bestDS minL _ _ = _
      unfold bestDS
      rw [litems_brw, opt_bind_some, intsD_map]
      cases l <;> rfl
    have em2 := em (collI (fun k (_ : Option Int) => bt m k) (fun _ r => r.getD 0) 0 rs)
    rw [hl] at em2
    simp -implicitDefEqProofs (disch := omega) only [fnD_def, eBin_def, eUn_def, eVar_def, eC_def, tCmp2_def, eB_def, sSeq_def, sAsg_def, sRet_def, sNext_def, sIf_def, eCall_def, eBui_def, aCons_def, aNil_def, dCons_def, dNil_def, eTup_def, eLst_def, eIx_def, tAnd2_def, tOr2_def, tNot1_def, tTru_def, eAnd_def, eOr_def, eIsi_def, sWipeB_def, wipeO_nx, wipeO_rt, wipeO_bk, wipeO_ct, gPut_def, gTupF_tup, gsCons_cons, gsNil_nil, opt_map_some, get_zero, get_succ, put_zero, put_succ, borq_pl, borq_own, borq_brw, bor_pl, bor_own, bor_brw, sto_pl, sto_own, sl2_pl, sl1_pl, modD_p, addD_int, iF0_int, mulD_l, mulD_r, divD_p, powD_p, shlD_p, shrD_p, uF_int, vw2_pl, cF_int, eqD_int, neD_int, isnF_none, notnF_none, isNoneD_none, isNoneD_int, wipe1_nil, wipe1_cons, truD_bool, toD_pl, List.length_cons, List.length_nil, Nat.reduceAdd, Nat.reduceSub, if_true, List.replicate, List.cons_append, List.nil_append, Nat.zero_add, Bool.not_true, Bool.not_false, decide_true, decide_false, Nat.reduceLeDiff, Int.reduceSub, Int.reduceAdd, notD_bool, isi_int_int, isi_int_bool, opt_bind_some, sFor_def, eLc_def, csrc_def, vsrc_def, rg1_def, eSrc_def, enT_def, sFrz_def, sRetVar_def, sMov_def, lenF_brw, List.length_map, e4, Int.toNat_natCast, e5, key, eUn_def, em2]
  · rw [Nat.zero_add]
    simp -implicitDefEqProofs (disch := omega) only [fnD_def, eBin_def, eUn_def, eVar_def, eC_def, tCmp2_def, eB_def, sSeq_def, sAsg_def, sRet_def, sNext_def, sIf_def, eCall_def, eBui_def, aCons_def, aNil_def, dCons_def, dNil_def, eTup_def, eLst_def, eIx_def, tAnd2_def, tOr2_def, tNot1_def, tTru_def, eAnd_def, eOr_def, eIsi_def, sWipeB_def, wipeO_nx, wipeO_rt, wipeO_bk, wipeO_ct, gPut_def, gTupF_tup, gsCons_cons, gsNil_nil, opt_map_some, get_zero, get_succ, put_zero, put_succ, borq_pl, borq_own, borq_brw, bor_pl, bor_own, bor_brw, sto_pl, sto_own, sl2_pl, sl1_pl, modD_p, addD_int, iF0_int, mulD_l, mulD_r, divD_p, powD_p, shlD_p, shrD_p, uF_int, vw2_pl, cF_int, eqD_int, neD_int, isnF_none, notnF_none, isNoneD_none, isNoneD_int, wipe1_nil, wipe1_cons, truD_bool, toD_pl, List.length_cons, List.length_nil, Nat.reduceAdd, Nat.reduceSub, if_true, List.replicate, List.cons_append, List.nil_append, Nat.zero_add, Bool.not_true, Bool.not_false, decide_true, decide_false, Nat.reduceLeDiff, Int.reduceSub, Int.reduceAdd, notD_bool, isi_int_int, isi_int_bool, opt_bind_some, sFor_def, eLc_def, csrc_def, vsrc_def, rg1_def, eSrc_def, enT_def, sFrz_def, sRetVar_def, sMov_def, bit_test1, Int.toNat_natCast]
  · rw [Nat.zero_add] at hp ⊢
    obtain ⟨x, rfl⟩ := hc k r hr hp
    have hx := at_k hr
    rw [oD_some] at hx
    exact ⟨.pl (.int x), by simp -implicitDefEqProofs (disch := omega) only [fnD_def, eBin_def, eUn_def, eVar_def, eC_def, tCmp2_def, eB_def, sSeq_def, sAsg_def, sRet_def, sNext_def, sIf_def, eCall_def, eBui_def, aCons_def, aNil_def, dCons_def, dNil_def, eTup_def, eLst_def, eIx_def, tAnd2_def, tOr2_def, tNot1_def, tTru_def, eAnd_def, eOr_def, eIsi_def, sWipeB_def, wipeO_nx, wipeO_rt, wipeO_bk, wipeO_ct, gPut_def, gTupF_tup, gsCons_cons, gsNil_nil, opt_map_some, get_zero, get_succ, put_zero, put_succ, borq_pl, borq_own, borq_brw, bor_pl, bor_own, bor_brw, sto_pl, sto_own, sl2_pl, sl1_pl, modD_p, addD_int, iF0_int, mulD_l, mulD_r, divD_p, powD_p, shlD_p, shrD_p, uF_int, vw2_pl, cF_int, eqD_int, neD_int, isnF_none, notnF_none, isNoneD_none, isNoneD_int, wipe1_nil, wipe1_cons, truD_bool, toD_pl, List.length_cons, List.length_nil, Nat.reduceAdd, Nat.reduceSub, if_true, List.replicate, List.cons_append, List.nil_append, Nat.zero_add, Bool.not_true, Bool.not_false, decide_true, decide_false, Nat.reduceLeDiff, Int.reduceSub, Int.reduceAdd, notD_bool, isi_int_int, isi_int_bool, opt_bind_some, sFor_def, eLc_def, csrc_def, vsrc_def, rg1_def, eSrc_def, enT_def, sFrz_def, sRetVar_def, sMov_def, ixD_brw, hx], rfl⟩
def Nn (rs : List (Option Int)) : Prop := ∀ (k : Nat) (x : Int), rs[k]? = some (some x) → 0 ≤ x
theorem lo_nn {rs : List (Option Int)} {m x : Int} (h : Nn rs) (e : lo rs m = some x) : 0 ≤ x := by
  have := lo_ok rs m
  rw [e] at this
  obtain ⟨⟨k, h1, _⟩, _⟩ := this
  exact h k x h1
theorem rat_k {rs : List (Int × Int)} {k : Nat} {r : Int × Int} (h : rs[k]? = some r) : atI (rs.map rD) (k : Int) = some (rD r) := by
  have hk := (List.getElem?_eq_some_iff.mp h).1
  rw [atI_map, atI_lt (by omega) (by omega), Int.toNat_natCast, h]
  rfl
def dueV (o : Option Nat) : Int := match o with | none => -1 | some k => (k : Nat)
theorem due_ok (rules : List (Int × Int)) (rs : List (Option Int)) (h : rs.length ≤ 64) (hr : rules.length ≤ 21) (hn : Nn rs) (hc : ∀ r ∈ rules, Cov r.1 rs ∧ Cov r.2 rs) : F__law_due [.pl (.tuple (rules.map rD)), .brw (rs.map oD)] = some (.ret (.pl (.int (dueV (firstI (fun r => !fitB rs r) 0 rules))))) := by
  have key := forD_first (g := gPut 2) (b := sWipeB [2, 3, 4] (sSeq (sAsg 3 (eCall F__law_low (aCons (eVar 1) (aCons (eIx (eIx (eVar 0) (eVar 2)) (eC (.int 0))) aNil))))
  (sSeq (sAsg 4 (eCall F__law_low (aCons (eVar 1) (aCons (eIx (eIx (eVar 0) (eVar 2)) (eC (.int 1))) aNil))))
  (sIf (tOr2 (tCmp2 ltD (eVar 3) (eC (.int 0))) (tChn (fun i j => decide (i ≤ j)) (fun i j => decide (i ≤ j)) (eC (.int 0)) (eVar 4) (eVar 3))) (sRet (eVar 2)) sNext)))) (fun k (_ : Int × Int) => .int (k : Nat)) (fun r => !fitB rs r) (fun k => .pl (.int (k : Nat)))
    [.pl (.tuple (rules.map rD)), .brw (rs.map oD), .un, .un, .un] rules 0 fun k r hk => ⟨_, rfl, ?_⟩
  · rw [← rgD0_mapI] at key
    have e4 : (-(2 ^ 62 : Int) ≤ (rules.length : Int) ∧ (rules.length : Int) < 2 ^ 62) = True := eq_true ⟨by omega, by omega⟩
    rw [F__law_due_eq]; unfold B__law_due
    cases c : firstI (fun r => !fitB rs r) 0 rules with
    | none => rw [c] at key; simp -implicitDefEqProofs (disch := omega) only [fnD_def, eBin_def, eUn_def, eVar_def, eC_def, tCmp2_def, eB_def, sSeq_def, sAsg_def, sRet_def, sNext_def, sIf_def, eCall_def, eBui_def, aCons_def, aNil_def, dCons_def, dNil_def, eTup_def, eLst_def, eIx_def, tAnd2_def, tOr2_def, tNot1_def, tTru_def, eAnd_def, eOr_def, eIsi_def, sWipeB_def, wipeO_nx, wipeO_rt, wipeO_bk, wipeO_ct, gPut_def, gTupF_tup, gsCons_cons, gsNil_nil, opt_map_some, get_zero, get_succ, put_zero, put_succ, borq_pl, borq_own, borq_brw, bor_pl, bor_own, bor_brw, sto_pl, sto_own, sl2_pl, sl1_pl, modD_p, addD_int, iF0_int, mulD_l, mulD_r, divD_p, powD_p, shlD_p, shrD_p, uF_int, vw2_pl, cF_int, eqD_int, neD_int, isnF_none, notnF_none, isNoneD_none, isNoneD_int, wipe1_nil, wipe1_cons, truD_bool, toD_pl, List.length_cons, List.length_nil, Nat.reduceAdd, Nat.reduceSub, if_true, List.replicate, List.cons_append, List.nil_append, Nat.zero_add, Bool.not_true, Bool.not_false, decide_true, decide_false, Nat.reduceLeDiff, Int.reduceSub, Int.reduceAdd, notD_bool, isi_int_int, isi_int_bool, opt_bind_some, sFor_def, eLc_def, csrc_def, vsrc_def, rg1_def, eSrc_def, enT_def, sFrz_def, sRetVar_def, sMov_def, lenF_tuple, List.length_map, e4, Int.toNat_natCast, key, dueV, eUn_def]
    | some j => rw [c] at key; simp -implicitDefEqProofs (disch := omega) only [fnD_def, eBin_def, eUn_def, eVar_def, eC_def, tCmp2_def, eB_def, sSeq_def, sAsg_def, sRet_def, sNext_def, sIf_def, eCall_def, eBui_def, aCons_def, aNil_def, dCons_def, dNil_def, eTup_def, eLst_def, eIx_def, tAnd2_def, tOr2_def, tNot1_def, tTru_def, eAnd_def, eOr_def, eIsi_def, sWipeB_def, wipeO_nx, wipeO_rt, wipeO_bk, wipeO_ct, gPut_def, gTupF_tup, gsCons_cons, gsNil_nil, opt_map_some, get_zero, get_succ, put_zero, put_succ, borq_pl, borq_own, borq_brw, bor_pl, bor_own, bor_brw, sto_pl, sto_own, sl2_pl, sl1_pl, modD_p, addD_int, iF0_int, mulD_l, mulD_r, divD_p, powD_p, shlD_p, shrD_p, uF_int, vw2_pl, cF_int, eqD_int, neD_int, isnF_none, notnF_none, isNoneD_none, isNoneD_int, wipe1_nil, wipe1_cons, truD_bool, toD_pl, List.length_cons, List.length_nil, Nat.reduceAdd, Nat.reduceSub, if_true, List.replicate, List.cons_append, List.nil_append, Nat.zero_add, Bool.not_true, Bool.not_false, decide_true, decide_false, Nat.reduceLeDiff, Int.reduceSub, Int.reduceAdd, notD_bool, isi_int_int, isi_int_bool, opt_bind_some, sFor_def, eLc_def, csrc_def, vsrc_def, rg1_def, eSrc_def, enT_def, sFrz_def, sRetVar_def, sMov_def, lenF_tuple, List.length_map, e4, Int.toNat_natCast, key, dueV, eUn_def]
  · rw [Nat.zero_add]
    have hm : r ∈ rules := List.mem_of_getElem? hk
    have e1 := low_ok rs r.1 h (hc r hm).1
    have e2 := low_ok rs r.2 h (hc r hm).2
    have hx : atI (rules.map rD) (k : Int) = some (.tuple [.int r.1, .int r.2]) := rat_k hk
    unfold fitB
    cases c1 : lo rs r.1 with
    | none => rw [c1] at e1; simp -implicitDefEqProofs (disch := omega) only [fnD_def, eBin_def, eUn_def, eVar_def, eC_def, tCmp2_def, eB_def, sSeq_def, sAsg_def, sRet_def, sNext_def, sIf_def, eCall_def, eBui_def, aCons_def, aNil_def, dCons_def, dNil_def, eTup_def, eLst_def, eIx_def, tAnd2_def, tOr2_def, tNot1_def, tTru_def, eAnd_def, eOr_def, eIsi_def, sWipeB_def, wipeO_nx, wipeO_rt, wipeO_bk, wipeO_ct, gPut_def, gTupF_tup, gsCons_cons, gsNil_nil, opt_map_some, get_zero, get_succ, put_zero, put_succ, borq_pl, borq_own, borq_brw, bor_pl, bor_own, bor_brw, sto_pl, sto_own, sl2_pl, sl1_pl, modD_p, addD_int, iF0_int, mulD_l, mulD_r, divD_p, powD_p, shlD_p, shrD_p, uF_int, vw2_pl, cF_int, eqD_int, neD_int, isnF_none, notnF_none, isNoneD_none, isNoneD_int, wipe1_nil, wipe1_cons, truD_bool, toD_pl, List.length_cons, List.length_nil, Nat.reduceAdd, Nat.reduceSub, if_true, List.replicate, List.cons_append, List.nil_append, Nat.zero_add, Bool.not_true, Bool.not_false, decide_true, decide_false, Nat.reduceLeDiff, Int.reduceSub, Int.reduceAdd, notD_bool, isi_int_int, isi_int_bool, opt_bind_some, sFor_def, eLc_def, csrc_def, vsrc_def, rg1_def, eSrc_def, enT_def, sFrz_def, sRetVar_def, sMov_def, ixD_tuple, hx, at2_0, at2_1, e1, e2, loV, show ((-1 : Int) < 0) = True from eq_true (by decide)]
    | some x =>
      rw [c1] at e1
      have n1 := lo_nn hn c1
      have g1 : (x < 0) = False := eq_false (by omega)
      cases c2 : lo rs r.2 with
      | none => rw [c2] at e2; simp -implicitDefEqProofs (disch := omega) only [fnD_def, eBin_def, eUn_def, eVar_def, eC_def, tCmp2_def, eB_def, sSeq_def, sAsg_def, sRet_def, sNext_def, sIf_def, eCall_def, eBui_def, aCons_def, aNil_def, dCons_def, dNil_def, eTup_def, eLst_def, eIx_def, tAnd2_def, tOr2_def, tNot1_def, tTru_def, eAnd_def, eOr_def, eIsi_def, sWipeB_def, wipeO_nx, wipeO_rt, wipeO_bk, wipeO_ct, gPut_def, gTupF_tup, gsCons_cons, gsNil_nil, opt_map_some, get_zero, get_succ, put_zero, put_succ, borq_pl, borq_own, borq_brw, bor_pl, bor_own, bor_brw, sto_pl, sto_own, sl2_pl, sl1_pl, modD_p, addD_int, iF0_int, mulD_l, mulD_r, divD_p, powD_p, shlD_p, shrD_p, uF_int, vw2_pl, cF_int, eqD_int, neD_int, isnF_none, notnF_none, isNoneD_none, isNoneD_int, wipe1_nil, wipe1_cons, truD_bool, toD_pl, List.length_cons, List.length_nil, Nat.reduceAdd, Nat.reduceSub, if_true, List.replicate, List.cons_append, List.nil_append, Nat.zero_add, Bool.not_true, Bool.not_false, decide_true, decide_false, Nat.reduceLeDiff, Int.reduceSub, Int.reduceAdd, notD_bool, isi_int_int, isi_int_bool, opt_bind_some, sFor_def, eLc_def, csrc_def, vsrc_def, rg1_def, eSrc_def, enT_def, sFrz_def, sRetVar_def, sMov_def, ixD_tuple, hx, at2_0, at2_1, e1, e2, loV, g1, tChn, show ((0 : Int) ≤ -1) = False from eq_false (by decide), Bool.false_eq_true, if_false]
      | some y =>
        rw [c2] at e2
        have n2 := lo_nn hn c2
        have g2 : (0 ≤ y) = True := eq_true n2
        by_cases q : x < y
        · have g3 : (y ≤ x) = False := eq_false (by omega)
          simp -implicitDefEqProofs (disch := omega) only [fnD_def, eBin_def, eUn_def, eVar_def, eC_def, tCmp2_def, eB_def, sSeq_def, sAsg_def, sRet_def, sNext_def, sIf_def, eCall_def, eBui_def, aCons_def, aNil_def, dCons_def, dNil_def, eTup_def, eLst_def, eIx_def, tAnd2_def, tOr2_def, tNot1_def, tTru_def, eAnd_def, eOr_def, eIsi_def, sWipeB_def, wipeO_nx, wipeO_rt, wipeO_bk, wipeO_ct, gPut_def, gTupF_tup, gsCons_cons, gsNil_nil, opt_map_some, get_zero, get_succ, put_zero, put_succ, borq_pl, borq_own, borq_brw, bor_pl, bor_own, bor_brw, sto_pl, sto_own, sl2_pl, sl1_pl, modD_p, addD_int, iF0_int, mulD_l, mulD_r, divD_p, powD_p, shlD_p, shrD_p, uF_int, vw2_pl, cF_int, eqD_int, neD_int, isnF_none, notnF_none, isNoneD_none, isNoneD_int, wipe1_nil, wipe1_cons, truD_bool, toD_pl, List.length_cons, List.length_nil, Nat.reduceAdd, Nat.reduceSub, if_true, List.replicate, List.cons_append, List.nil_append, Nat.zero_add, Bool.not_true, Bool.not_false, decide_true, decide_false, Nat.reduceLeDiff, Int.reduceSub, Int.reduceAdd, notD_bool, isi_int_int, isi_int_bool, opt_bind_some, sFor_def, eLc_def, csrc_def, vsrc_def, rg1_def, eSrc_def, enT_def, sFrz_def, sRetVar_def, sMov_def, ixD_tuple, hx, at2_0, at2_1, e1, e2, loV, g1, tChn, g2, g3, q, Bool.false_eq_true, if_false]
        · have g3 : (y ≤ x) = True := eq_true (by omega)
          simp -implicitDefEqProofs (disch := omega) only [fnD_def, eBin_def, eUn_def, eVar_def, eC_def, tCmp2_def, eB_def, sSeq_def, sAsg_def, sRet_def, sNext_def, sIf_def, eCall_def, eBui_def, aCons_def, aNil_def, dCons_def, dNil_def, eTup_def, eLst_def, eIx_def, tAnd2_def, tOr2_def, tNot1_def, tTru_def, eAnd_def, eOr_def, eIsi_def, sWipeB_def, wipeO_nx, wipeO_rt, wipeO_bk, wipeO_ct, gPut_def, gTupF_tup, gsCons_cons, gsNil_nil, opt_map_some, get_zero, get_succ, put_zero, put_succ, borq_pl, borq_own, borq_brw, bor_pl, bor_own, bor_brw, sto_pl, sto_own, sl2_pl, sl1_pl, modD_p, addD_int, iF0_int, mulD_l, mulD_r, divD_p, powD_p, shlD_p, shrD_p, uF_int, vw2_pl, cF_int, eqD_int, neD_int, isnF_none, notnF_none, isNoneD_none, isNoneD_int, wipe1_nil, wipe1_cons, truD_bool, toD_pl, List.length_cons, List.length_nil, Nat.reduceAdd, Nat.reduceSub, if_true, List.replicate, List.cons_append, List.nil_append, Nat.zero_add, Bool.not_true, Bool.not_false, decide_true, decide_false, Nat.reduceLeDiff, Int.reduceSub, Int.reduceAdd, notD_bool, isi_int_int, isi_int_bool, opt_bind_some, sFor_def, eLc_def, csrc_def, vsrc_def, rg1_def, eSrc_def, enT_def, sFrz_def, sRetVar_def, sMov_def, ixD_tuple, hx, at2_0, at2_1, e1, e2, loV, g1, tChn, g2, g3, q, Bool.false_eq_true, if_false]
theorem right_ok (size possible : Int) (rules : List (Int × Int)) (rs : List (Option Int)) (h : rs.length ≤ 64) (hr : rules.length ≤ 21) (hn : Nn rs) (hc : ∀ r ∈ rules, Cov r.1 rs ∧ Cov r.2 rs) : F__law_right [.pl (frD size possible rules), .brw (rs.map oD)] = some (.ret (.pl (.bool true))) := by
  have e1 := due_ok rules rs h hr hn hc
  have e2 := misfit_ok size possible rules rs
  have e3 : (rs.length ≤ 1000) = True := eq_true (by omega)
  rw [F__law_right_eq]; unfold B__law_right
  cases c : firstI (fun r => !fitB rs r) 0 rules with
  | none => rw [c] at e1 e2; unfold frD at e2 ⊢; simp -implicitDefEqProofs (disch := omega) only [fnD_def, eBin_def, eUn_def, eVar_def, eC_def, tCmp2_def, eB_def, sSeq_def, sAsg_def, sRet_def, sNext_def, sIf_def, eCall_def, eBui_def, aCons_def, aNil_def, dCons_def, dNil_def, eTup_def, eLst_def, eIx_def, tAnd2_def, tOr2_def, tNot1_def, tTru_def, eAnd_def, eOr_def, eIsi_def, sWipeB_def, wipeO_nx, wipeO_rt, wipeO_bk, wipeO_ct, gPut_def, gTupF_tup, gsCons_cons, gsNil_nil, opt_map_some, get_zero, get_succ, put_zero, put_succ, borq_pl, borq_own, borq_brw, bor_pl, bor_own, bor_brw, sto_pl, sto_own, sl2_pl, sl1_pl, modD_p, addD_int, iF0_int, mulD_l, mulD_r, divD_p, powD_p, shlD_p, shrD_p, uF_int, vw2_pl, cF_int, eqD_int, neD_int, isnF_none, notnF_none, isNoneD_none, isNoneD_int, wipe1_nil, wipe1_cons, truD_bool, toD_pl, List.length_cons, List.length_nil, Nat.reduceAdd, Nat.reduceSub, if_true, List.replicate, List.cons_append, List.nil_append, Nat.zero_add, Bool.not_true, Bool.not_false, decide_true, decide_false, Nat.reduceLeDiff, Int.reduceSub, Int.reduceAdd, notD_bool, isi_int_int, isi_int_bool, opt_bind_some, sFor_def, eLc_def, csrc_def, vsrc_def, rg1_def, eSrc_def, enT_def, sFrz_def, sRetVar_def, sMov_def, ixD_tuple, at3_2, e1, tupleF, tupleS, items, List.length_map, e3, e2, dueV, oNat, show ((-1 : Int) < 0) = True from eq_true (by decide)]
  | some k =>
    rw [c] at e1 e2; unfold frD at e2 ⊢
    have g1 : (((k : Nat) : Int) < 0) = False := eq_false (by omega)
    simp -implicitDefEqProofs (disch := omega) only [fnD_def, eBin_def, eUn_def, eVar_def, eC_def, tCmp2_def, eB_def, sSeq_def, sAsg_def, sRet_def, sNext_def, sIf_def, eCall_def, eBui_def, aCons_def, aNil_def, dCons_def, dNil_def, eTup_def, eLst_def, eIx_def, tAnd2_def, tOr2_def, tNot1_def, tTru_def, eAnd_def, eOr_def, eIsi_def, sWipeB_def, wipeO_nx, wipeO_rt, wipeO_bk, wipeO_ct, gPut_def, gTupF_tup, gsCons_cons, gsNil_nil, opt_map_some, get_zero, get_succ, put_zero, put_succ, borq_pl, borq_own, borq_brw, bor_pl, bor_own, bor_brw, sto_pl, sto_own, sl2_pl, sl1_pl, modD_p, addD_int, iF0_int, mulD_l, mulD_r, divD_p, powD_p, shlD_p, shrD_p, uF_int, vw2_pl, cF_int, eqD_int, neD_int, isnF_none, notnF_none, isNoneD_none, isNoneD_int, wipe1_nil, wipe1_cons, truD_bool, toD_pl, List.length_cons, List.length_nil, Nat.reduceAdd, Nat.reduceSub, if_true, List.replicate, List.cons_append, List.nil_append, Nat.zero_add, Bool.not_true, Bool.not_false, decide_true, decide_false, Nat.reduceLeDiff, Int.reduceSub, Int.reduceAdd, notD_bool, isi_int_int, isi_int_bool, opt_bind_some, sFor_def, eLc_def, csrc_def, vsrc_def, rg1_def, eSrc_def, enT_def, sFrz_def, sRetVar_def, sMov_def, ixD_tuple, at3_2, e1, tupleF, tupleS, items, List.length_map, e3, e2, dueV, oNat, g1, beq_self_eq_true]
def drawV (c k : Int) : Int := (c % 1999999853 + 50000017 * k + 191 * k * k + 23) % 1999999853 * ((c % 1999999853 + 50000017 * k + 191 * k * k + 23) % 1999999853) % 1999999829 * (32009 + 8 * k) % 1999999819 / 9
theorem draw_eq (c k : Int) (h0 : 0 ≤ k) (h1 : k ≤ 1000000) : F__law_draw [.pl (.int c), .pl (.int k)] = some (.ret (.pl (.int (drawV c k)))) := by
  rw [F__law_draw_eq]; unfold B__law_draw drawV
  simp -implicitDefEqProofs (disch := omega) only [fnD_def, eBin_def, eUn_def, eVar_def, eC_def, tCmp2_def, eB_def, sSeq_def, sAsg_def, sRet_def, sNext_def, sIf_def, eCall_def, eBui_def, aCons_def, aNil_def, dCons_def, dNil_def, eTup_def, eLst_def, eIx_def, tAnd2_def, tOr2_def, tNot1_def, tTru_def, eAnd_def, eOr_def, eIsi_def, sWipeB_def, wipeO_nx, wipeO_rt, wipeO_bk, wipeO_ct, gPut_def, gTupF_tup, gsCons_cons, gsNil_nil, opt_map_some, get_zero, get_succ, put_zero, put_succ, borq_pl, borq_own, borq_brw, bor_pl, bor_own, bor_brw, sto_pl, sto_own, sl2_pl, sl1_pl, modD_p, addD_int, iF0_int, mulD_l, mulD_r, divD_p, powD_p, shlD_p, shrD_p, uF_int, vw2_pl, cF_int, eqD_int, neD_int, isnF_none, notnF_none, isNoneD_none, isNoneD_int, wipe1_nil, wipe1_cons, truD_bool, toD_pl, List.length_cons, List.length_nil, Nat.reduceAdd, Nat.reduceSub, if_true, List.replicate, List.cons_append, List.nil_append, Nat.zero_add, Bool.not_true, Bool.not_false, decide_true, decide_false, Nat.reduceLeDiff, Int.reduceSub, Int.reduceAdd, notD_bool, isi_int_int, isi_int_bool, opt_bind_some, sFor_def, eLc_def, csrc_def, vsrc_def, rg1_def, eSrc_def, enT_def, sFrz_def, sRetVar_def, sMov_def]
theorem draw_lo (c k : Int) : 0 ≤ drawV c k := by unfold drawV; omega
theorem draw_hi (c k : Int) : drawV c k < 222222203 := by unfold drawV; omega
theorem mask_ok (c k s : Int) (h0 : 0 ≤ k) (h1 : k ≤ 100000) (h2 : 1 ≤ s) (h3 : s ≤ 64) : ∃ m : Int, 0 ≤ m ∧ m < 2 ^ s.toNat ∧ F__law_mask [.pl (.int c), .pl (.int k), .pl (.int s)] = some (.ret (.pl (.int m))) := by
  have a1 := draw_lo c k
  have a2 := draw_hi c k
  have a3 := draw_lo c (k + 1)
  have a4 := draw_hi c (k + 1)
  have a5 := draw_lo c (k + 2)
  have a6 := draw_hi c (k + 2)
  have h4 : 0 < 1 * (2 : Int) ^ s.toNat := by have : (0:Int) < 2 ^ s.toNat := Int.pow_pos (by decide); omega
  refine ⟨((drawV c k * 1000117 + drawV c (k + 1)) * 1000121 + drawV c (k + 2)) * 2000029 % (1 * 2 ^ s.toNat), Int.emod_nonneg _ (by omega), by have := Int.emod_lt_of_pos (((drawV c k * 1000117 + drawV c (k + 1)) * 1000121 + drawV c (k + 2)) * 2000029) h4; omega, ?_⟩
  rw [F__law_mask_eq]; unfold B__law_mask
  simp -implicitDefEqProofs (disch := omega) only [fnD_def, eBin_def, eUn_def, eVar_def, eC_def, tCmp2_def, eB_def, sSeq_def, sAsg_def, sRet_def, sNext_def, sIf_def, eCall_def, eBui_def, aCons_def, aNil_def, dCons_def, dNil_def, eTup_def, eLst_def, eIx_def, tAnd2_def, tOr2_def, tNot1_def, tTru_def, eAnd_def, eOr_def, eIsi_def, sWipeB_def, wipeO_nx, wipeO_rt, wipeO_bk, wipeO_ct, gPut_def, gTupF_tup, gsCons_cons, gsNil_nil, opt_map_some, get_zero, get_succ, put_zero, put_succ, borq_pl, borq_own, borq_brw, bor_pl, bor_own, bor_brw, sto_pl, sto_own, sl2_pl, sl1_pl, modD_p, addD_int, iF0_int, mulD_l, mulD_r, divD_p, powD_p, shlD_p, shrD_p, uF_int, vw2_pl, cF_int, eqD_int, neD_int, isnF_none, notnF_none, isNoneD_none, isNoneD_int, wipe1_nil, wipe1_cons, truD_bool, toD_pl, List.length_cons, List.length_nil, Nat.reduceAdd, Nat.reduceSub, if_true, List.replicate, List.cons_append, List.nil_append, Nat.zero_add, Bool.not_true, Bool.not_false, decide_true, decide_false, Nat.reduceLeDiff, Int.reduceSub, Int.reduceAdd, notD_bool, isi_int_int, isi_int_bool, opt_bind_some, sFor_def, eLc_def, csrc_def, vsrc_def, rg1_def, eSrc_def, enT_def, sFrz_def, sRetVar_def, sMov_def, draw_eq, modD_p h4]
def Sub (a p : Int) : Prop := ∀ k, bt a k = true → bt p k = true
theorem Sub.refl (a : Int) : Sub a a := fun _ h => h
theorem Sub.and_l {a b p : Int} (h : Sub a p) : Sub (Builtin.bitAnd a b) p := fun k hk => by
  rw [bt_and, Bool.and_eq_true] at hk
  exact h k hk.1
theorem Sub.zero (p : Int) : Sub 0 p := fun k hk => by rw [bt_zero] at hk; cases hk
theorem and_lt {a b : Int} {n : Nat} (h0 : 0 ≤ a) (h : a < 2 ^ n) : Builtin.bitAnd a b < 2 ^ n := bt_lt (and_nonneg (.inl h0)) fun k hk => by rw [bt_and, bt_of_lt h0 h hk, Bool.false_and]
theorem possible_ok (c s : Int) (h2 : 1 ≤ s) (h3 : s ≤ 64) : ∃ p : Int, 0 ≤ p ∧ p < 2 ^ s.toNat ∧ F__law_possible [.pl (.int c), .pl (.int s)] = some (.ret (.pl (.int p))) := by
  obtain ⟨m1, b1, l1, e1⟩ := mask_ok c 3 s (by decide) (by decide) h2 h3
  obtain ⟨m2, b2, l2, e2⟩ := mask_ok c 6 s (by decide) (by decide) h2 h3
  have hp : (0 : Int) < 2 ^ s.toNat := Int.pow_pos (by decide)
  rw [F__law_possible_eq]; unfold B__law_possible
  by_cases c0 : drawV c 2 % 6 = 0
  · refine ⟨m1, b1, l1, ?_⟩
    simp -implicitDefEqProofs (disch := omega) only [fnD_def, eBin_def, eUn_def, eVar_def, eC_def, tCmp2_def, eB_def, sSeq_def, sAsg_def, sRet_def, sNext_def, sIf_def, eCall_def, eBui_def, aCons_def, aNil_def, dCons_def, dNil_def, eTup_def, eLst_def, eIx_def, tAnd2_def, tOr2_def, tNot1_def, tTru_def, eAnd_def, eOr_def, eIsi_def, sWipeB_def, wipeO_nx, wipeO_rt, wipeO_bk, wipeO_ct, gPut_def, gTupF_tup, gsCons_cons, gsNil_nil, opt_map_some, get_zero, get_succ, put_zero, put_succ, borq_pl, borq_own, borq_brw, bor_pl, bor_own, bor_brw, sto_pl, sto_own, sl2_pl, sl1_pl, modD_p, addD_int, iF0_int, mulD_l, mulD_r, divD_p, powD_p, shlD_p, shrD_p, uF_int, vw2_pl, cF_int, eqD_int, neD_int, isnF_none, notnF_none, isNoneD_none, isNoneD_int, wipe1_nil, wipe1_cons, truD_bool, toD_pl, List.length_cons, List.length_nil, Nat.reduceAdd, Nat.reduceSub, if_true, List.replicate, List.cons_append, List.nil_append, Nat.zero_add, Bool.not_true, Bool.not_false, decide_true, decide_false, Nat.reduceLeDiff, Int.reduceSub, Int.reduceAdd, notD_bool, isi_int_int, isi_int_bool, opt_bind_some, sFor_def, eLc_def, csrc_def, vsrc_def, rg1_def, eSrc_def, enT_def, sFrz_def, sRetVar_def, sMov_def, draw_eq, c0, beq_self_eq_true, e1]
  by_cases c1 : drawV c 2 % 6 = 1
  · refine ⟨Builtin.bitAnd m1 m2, and_nonneg (.inl b1), and_lt b1 l1, ?_⟩
    simp -implicitDefEqProofs (disch := omega) only [fnD_def, eBin_def, eUn_def, eVar_def, eC_def, tCmp2_def, eB_def, sSeq_def, sAsg_def, sRet_def, sNext_def, sIf_def, eCall_def, eBui_def, aCons_def, aNil_def, dCons_def, dNil_def, eTup_def, eLst_def, eIx_def, tAnd2_def, tOr2_def, tNot1_def, tTru_def, eAnd_def, eOr_def, eIsi_def, sWipeB_def, wipeO_nx, wipeO_rt, wipeO_bk, wipeO_ct, gPut_def, gTupF_tup, gsCons_cons, gsNil_nil, opt_map_some, get_zero, get_succ, put_zero, put_succ, borq_pl, borq_own, borq_brw, bor_pl, bor_own, bor_brw, sto_pl, sto_own, sl2_pl, sl1_pl, modD_p, addD_int, iF0_int, mulD_l, mulD_r, divD_p, powD_p, shlD_p, shrD_p, uF_int, vw2_pl, cF_int, eqD_int, neD_int, isnF_none, notnF_none, isNoneD_none, isNoneD_int, wipe1_nil, wipe1_cons, truD_bool, toD_pl, List.length_cons, List.length_nil, Nat.reduceAdd, Nat.reduceSub, if_true, List.replicate, List.cons_append, List.nil_append, Nat.zero_add, Bool.not_true, Bool.not_false, decide_true, decide_false, Nat.reduceLeDiff, Int.reduceSub, Int.reduceAdd, notD_bool, isi_int_int, isi_int_bool, opt_bind_some, sFor_def, eLc_def, csrc_def, vsrc_def, rg1_def, eSrc_def, enT_def, sFrz_def, sRetVar_def, sMov_def, draw_eq, c1, beq_self_eq_true, Int.reduceBEq, e1, e2]
  by_cases c2 : drawV c 2 % 6 = 2
  · by_cases c3 : drawV c 9 % 4 = 0
    · refine ⟨0, Int.le_refl 0, hp, ?_⟩
      simp -implicitDefEqProofs (disch := omega) only [fnD_def, eBin_def, eUn_def, eVar_def, eC_def, tCmp2_def, eB_def, sSeq_def, sAsg_def, sRet_def, sNext_def, sIf_def, eCall_def, eBui_def, aCons_def, aNil_def, dCons_def, dNil_def, eTup_def, eLst_def, eIx_def, tAnd2_def, tOr2_def, tNot1_def, tTru_def, eAnd_def, eOr_def, eIsi_def, sWipeB_def, wipeO_nx, wipeO_rt, wipeO_bk, wipeO_ct, gPut_def, gTupF_tup, gsCons_cons, gsNil_nil, opt_map_some, get_zero, get_succ, put_zero, put_succ, borq_pl, borq_own, borq_brw, bor_pl, bor_own, bor_brw, sto_pl, sto_own, sl2_pl, sl1_pl, modD_p, addD_int, iF0_int, mulD_l, mulD_r, divD_p, powD_p, shlD_p, shrD_p, uF_int, vw2_pl, cF_int, eqD_int, neD_int, isnF_none, notnF_none, isNoneD_none, isNoneD_int, wipe1_nil, wipe1_cons, truD_bool, toD_pl, List.length_cons, List.length_nil, Nat.reduceAdd, Nat.reduceSub, if_true, List.replicate, List.cons_append, List.nil_append, Nat.zero_add, Bool.not_true, Bool.not_false, decide_true, decide_false, Nat.reduceLeDiff, Int.reduceSub, Int.reduceAdd, notD_bool, isi_int_int, isi_int_bool, opt_bind_some, sFor_def, eLc_def, csrc_def, vsrc_def, rg1_def, eSrc_def, enT_def, sFrz_def, sRetVar_def, sMov_def, draw_eq, c2, c3, beq_self_eq_true, Int.reduceBEq]
    · refine ⟨1 * 2 ^ s.toNat - 1, by omega, by omega, ?_⟩
      simp -implicitDefEqProofs (disch := omega) only [fnD_def, eBin_def, eUn_def, eVar_def, eC_def, tCmp2_def, eB_def, sSeq_def, sAsg_def, sRet_def, sNext_def, sIf_def, eCall_def, eBui_def, aCons_def, aNil_def, dCons_def, dNil_def, eTup_def, eLst_def, eIx_def, tAnd2_def, tOr2_def, tNot1_def, tTru_def, eAnd_def, eOr_def, eIsi_def, sWipeB_def, wipeO_nx, wipeO_rt, wipeO_bk, wipeO_ct, gPut_def, gTupF_tup, gsCons_cons, gsNil_nil, opt_map_some, get_zero, get_succ, put_zero, put_succ, borq_pl, borq_own, borq_brw, bor_pl, bor_own, bor_brw, sto_pl, sto_own, sl2_pl, sl1_pl, modD_p, addD_int, iF0_int, mulD_l, mulD_r, divD_p, powD_p, shlD_p, shrD_p, uF_int, vw2_pl, cF_int, eqD_int, neD_int, isnF_none, notnF_none, isNoneD_none, isNoneD_int, wipe1_nil, wipe1_cons, truD_bool, toD_pl, List.length_cons, List.length_nil, Nat.reduceAdd, Nat.reduceSub, if_true, List.replicate, List.cons_append, List.nil_append, Nat.zero_add, Bool.not_true, Bool.not_false, decide_true, decide_false, Nat.reduceLeDiff, Int.reduceSub, Int.reduceAdd, notD_bool, isi_int_int, isi_int_bool, opt_bind_some, sFor_def, eLc_def, csrc_def, vsrc_def, rg1_def, eSrc_def, enT_def, sFrz_def, sRetVar_def, sMov_def, draw_eq, c2, beq_eq_false_iff_ne.mpr c3, beq_self_eq_true, Int.reduceBEq]
  · refine ⟨1 * 2 ^ s.toNat - 1, by omega, by omega, ?_⟩
    simp -implicitDefEqProofs (disch := omega) only [fnD_def, eBin_def, eUn_def, eVar_def, eC_def, tCmp2_def, eB_def, sSeq_def, sAsg_def, sRet_def, sNext_def, sIf_def, eCall_def, eBui_def, aCons_def, aNil_def, dCons_def, dNil_def, eTup_def, eLst_def, eIx_def, tAnd2_def, tOr2_def, tNot1_def, tTru_def, eAnd_def, eOr_def, eIsi_def, sWipeB_def, wipeO_nx, wipeO_rt, wipeO_bk, wipeO_ct, gPut_def, gTupF_tup, gsCons_cons, gsNil_nil, opt_map_some, get_zero, get_succ, put_zero, put_succ, borq_pl, borq_own, borq_brw, bor_pl, bor_own, bor_brw, sto_pl, sto_own, sl2_pl, sl1_pl, modD_p, addD_int, iF0_int, mulD_l, mulD_r, divD_p, powD_p, shlD_p, shrD_p, uF_int, vw2_pl, cF_int, eqD_int, neD_int, isnF_none, notnF_none, isNoneD_none, isNoneD_int, wipe1_nil, wipe1_cons, truD_bool, toD_pl, List.length_cons, List.length_nil, Nat.reduceAdd, Nat.reduceSub, if_true, List.replicate, List.cons_append, List.nil_append, Nat.zero_add, Bool.not_true, Bool.not_false, decide_true, decide_false, Nat.reduceLeDiff, Int.reduceSub, Int.reduceAdd, notD_bool, isi_int_int, isi_int_bool, opt_bind_some, sFor_def, eLc_def, csrc_def, vsrc_def, rg1_def, eSrc_def, enT_def, sFrz_def, sRetVar_def, sMov_def, draw_eq, beq_eq_false_iff_ne.mpr c0, beq_eq_false_iff_ne.mpr c1, beq_eq_false_iff_ne.mpr c2]
theorem rank_loop (c k : Int) (h0 : 0 ≤ k) (h1 : k ≤ 900000) : ∀ (n : Nat) (j : Int) (a : Int) (kd : Int), 0 ≤ j → j + n ≤ 100 → ∃ b : Int, forD (gPut 4) (sWipeB [4] (sAsg 3 (eBin addD (eBin mulD (eVar 3) (eBin powD (eC (.int 10)) (eC (.int 9)))) (eCall F__law_draw (aCons (eVar 0) (aCons (eBin addD (eBin addD (eVar 1) (eC (.int 2))) (eVar 4)) aNil)))))) (rgD j n) [.pl (.int c), .pl (.int k), .pl (.int kd), .pl (.int a), .un] = some (.nx [.pl (.int c), .pl (.int k), .pl (.int kd), .pl (.int b), .un])
  | 0, j, a, kd, _, _ => ⟨a, rfl⟩
  | n + 1, j, a, kd, hj, hn => by
    obtain ⟨b, e⟩ := rank_loop c k h0 h1 n (j + 1) (a * 10 ^ 9 + drawV c (k + 2 + j)) kd (by omega) (by omega)
    refine ⟨b, ?_⟩
    rw [rgD_succ, forD_nx rfl]
    · exact e
    · have e9 : ((9 : Int).toNat) = 9 := rfl
      simp -implicitDefEqProofs (disch := omega) only [fnD_def, eBin_def, eUn_def, eVar_def, eC_def, tCmp2_def, eB_def, sSeq_def, sAsg_def, sRet_def, sNext_def, sIf_def, eCall_def, eBui_def, aCons_def, aNil_def, dCons_def, dNil_def, eTup_def, eLst_def, eIx_def, tAnd2_def, tOr2_def, tNot1_def, tTru_def, eAnd_def, eOr_def, eIsi_def, sWipeB_def, wipeO_nx, wipeO_rt, wipeO_bk, wipeO_ct, gPut_def, gTupF_tup, gsCons_cons, gsNil_nil, opt_map_some, get_zero, get_succ, put_zero, put_succ, borq_pl, borq_own, borq_brw, bor_pl, bor_own, bor_brw, sto_pl, sto_own, sl2_pl, sl1_pl, modD_p, addD_int, iF0_int, mulD_l, mulD_r, divD_p, powD_p, shlD_p, shrD_p, uF_int, vw2_pl, cF_int, eqD_int, neD_int, isnF_none, notnF_none, isNoneD_none, isNoneD_int, wipe1_nil, wipe1_cons, truD_bool, toD_pl, List.length_cons, List.length_nil, Nat.reduceAdd, Nat.reduceSub, if_true, List.replicate, List.cons_append, List.nil_append, Nat.zero_add, Bool.not_true, Bool.not_false, decide_true, decide_false, Nat.reduceLeDiff, Int.reduceSub, Int.reduceAdd, notD_bool, isi_int_int, isi_int_bool, opt_bind_some, sFor_def, eLc_def, csrc_def, vsrc_def, rg1_def, eSrc_def, enT_def, sFrz_def, sRetVar_def, sMov_def, draw_eq, e9, mulD_r (i := a) (j := 10 ^ 9) (by decide) (by decide)]
theorem rank_ok (c k kd : Int) (h0 : 0 ≤ k) (h1 : k ≤ 900000) (h2 : 0 ≤ kd) (h3 : kd ≤ 3) : ∃ x : Int, 0 ≤ x ∧ F__law_rank [.pl (.int c), .pl (.int k), .pl (.int kd)] = some (.ret (.pl (.int x))) := by
  have a2 := draw_lo c (k + 1)
  have e4 : mulD (.int (10 ^ 40)) (.int (10 ^ 40)) = some (.int (10 ^ 80)) := by
    rw [mulD_w (a := 133) (b := 133) (by decide) (by decide) (by decide) (by decide) (by decide)]
    rfl
  have e9 : ((9 : Int).toNat) = 9 := rfl
  have e40 : ((40 : Int).toNat) = 40 := rfl
  have i0 : atI [PyData.int 4, .int 4, .int 60, .int 3] 0 = some (.int 4) := rfl
  have i1 : atI [PyData.int 4, .int 4, .int 60, .int 3] 1 = some (.int 4) := rfl
  have i2 : atI [PyData.int 4, .int 4, .int 60, .int 3] 2 = some (.int 60) := rfl
  have i3 : atI [PyData.int 4, .int 4, .int 60, .int 3] 3 = some (.int 3) := rfl
  rw [F__law_rank_eq]; unfold B__law_rank
  have : kd = 0 ∨ kd = 1 ∨ kd = 2 ∨ kd = 3 := by omega
  rcases this with q | q | q | q
  · subst q
    exact ⟨0, Int.le_refl 0, by simp -implicitDefEqProofs (disch := omega) only [fnD_def, eBin_def, eUn_def, eVar_def, eC_def, tCmp2_def, eB_def, sSeq_def, sAsg_def, sRet_def, sNext_def, sIf_def, eCall_def, eBui_def, aCons_def, aNil_def, dCons_def, dNil_def, eTup_def, eLst_def, eIx_def, tAnd2_def, tOr2_def, tNot1_def, tTru_def, eAnd_def, eOr_def, eIsi_def, sWipeB_def, wipeO_nx, wipeO_rt, wipeO_bk, wipeO_ct, gPut_def, gTupF_tup, gsCons_cons, gsNil_nil, opt_map_some, get_zero, get_succ, put_zero, put_succ, borq_pl, borq_own, borq_brw, bor_pl, bor_own, bor_brw, sto_pl, sto_own, sl2_pl, sl1_pl, modD_p, addD_int, iF0_int, mulD_l, mulD_r, divD_p, powD_p, shlD_p, shrD_p, uF_int, vw2_pl, cF_int, eqD_int, neD_int, isnF_none, notnF_none, isNoneD_none, isNoneD_int, wipe1_nil, wipe1_cons, truD_bool, toD_pl, List.length_cons, List.length_nil, Nat.reduceAdd, Nat.reduceSub, if_true, List.replicate, List.cons_append, List.nil_append, Nat.zero_add, Bool.not_true, Bool.not_false, decide_true, decide_false, Nat.reduceLeDiff, Int.reduceSub, Int.reduceAdd, notD_bool, isi_int_int, isi_int_bool, opt_bind_some, sFor_def, eLc_def, csrc_def, vsrc_def, rg1_def, eSrc_def, enT_def, sFrz_def, sRetVar_def, sMov_def, beq_self_eq_true]⟩
  · subst q
    exact ⟨drawV c (k + 1) % 4, by omega, by simp -implicitDefEqProofs (disch := omega) only [fnD_def, eBin_def, eUn_def, eVar_def, eC_def, tCmp2_def, eB_def, sSeq_def, sAsg_def, sRet_def, sNext_def, sIf_def, eCall_def, eBui_def, aCons_def, aNil_def, dCons_def, dNil_def, eTup_def, eLst_def, eIx_def, tAnd2_def, tOr2_def, tNot1_def, tTru_def, eAnd_def, eOr_def, eIsi_def, sWipeB_def, wipeO_nx, wipeO_rt, wipeO_bk, wipeO_ct, gPut_def, gTupF_tup, gsCons_cons, gsNil_nil, opt_map_some, get_zero, get_succ, put_zero, put_succ, borq_pl, borq_own, borq_brw, bor_pl, bor_own, bor_brw, sto_pl, sto_own, sl2_pl, sl1_pl, modD_p, addD_int, iF0_int, mulD_l, mulD_r, divD_p, powD_p, shlD_p, shrD_p, uF_int, vw2_pl, cF_int, eqD_int, neD_int, isnF_none, notnF_none, isNoneD_none, isNoneD_int, wipe1_nil, wipe1_cons, truD_bool, toD_pl, List.length_cons, List.length_nil, Nat.reduceAdd, Nat.reduceSub, if_true, List.replicate, List.cons_append, List.nil_append, Nat.zero_add, Bool.not_true, Bool.not_false, decide_true, decide_false, Nat.reduceLeDiff, Int.reduceSub, Int.reduceAdd, notD_bool, isi_int_int, isi_int_bool, opt_bind_some, sFor_def, eLc_def, csrc_def, vsrc_def, rg1_def, eSrc_def, enT_def, sFrz_def, sRetVar_def, sMov_def, draw_eq, Int.reduceBEq, Int.reduceLT, ixD_own, i1]⟩
  · subst q
    exact ⟨drawV c (k + 1) % 60, by omega, by simp -implicitDefEqProofs (disch := omega) only [fnD_def, eBin_def, eUn_def, eVar_def, eC_def, tCmp2_def, eB_def, sSeq_def, sAsg_def, sRet_def, sNext_def, sIf_def, eCall_def, eBui_def, aCons_def, aNil_def, dCons_def, dNil_def, eTup_def, eLst_def, eIx_def, tAnd2_def, tOr2_def, tNot1_def, tTru_def, eAnd_def, eOr_def, eIsi_def, sWipeB_def, wipeO_nx, wipeO_rt, wipeO_bk, wipeO_ct, gPut_def, gTupF_tup, gsCons_cons, gsNil_nil, opt_map_some, get_zero, get_succ, put_zero, put_succ, borq_pl, borq_own, borq_brw, bor_pl, bor_own, bor_brw, sto_pl, sto_own, sl2_pl, sl1_pl, modD_p, addD_int, iF0_int, mulD_l, mulD_r, divD_p, powD_p, shlD_p, shrD_p, uF_int, vw2_pl, cF_int, eqD_int, neD_int, isnF_none, notnF_none, isNoneD_none, isNoneD_int, wipe1_nil, wipe1_cons, truD_bool, toD_pl, List.length_cons, List.length_nil, Nat.reduceAdd, Nat.reduceSub, if_true, List.replicate, List.cons_append, List.nil_append, Nat.zero_add, Bool.not_true, Bool.not_false, decide_true, decide_false, Nat.reduceLeDiff, Int.reduceSub, Int.reduceAdd, notD_bool, isi_int_int, isi_int_bool, opt_bind_some, sFor_def, eLc_def, csrc_def, vsrc_def, rg1_def, eSrc_def, enT_def, sFrz_def, sRetVar_def, sMov_def, draw_eq, Int.reduceBEq, Int.reduceLT, ixD_own, i2]⟩
  · subst q
    by_cases c1 : 0 < drawV c k % 4
    · exact ⟨drawV c (k + 1) % 3, by omega, by simp -implicitDefEqProofs (disch := omega) only [fnD_def, eBin_def, eUn_def, eVar_def, eC_def, tCmp2_def, eB_def, sSeq_def, sAsg_def, sRet_def, sNext_def, sIf_def, eCall_def, eBui_def, aCons_def, aNil_def, dCons_def, dNil_def, eTup_def, eLst_def, eIx_def, tAnd2_def, tOr2_def, tNot1_def, tTru_def, eAnd_def, eOr_def, eIsi_def, sWipeB_def, wipeO_nx, wipeO_rt, wipeO_bk, wipeO_ct, gPut_def, gTupF_tup, gsCons_cons, gsNil_nil, opt_map_some, get_zero, get_succ, put_zero, put_succ, borq_pl, borq_own, borq_brw, bor_pl, bor_own, bor_brw, sto_pl, sto_own, sl2_pl, sl1_pl, modD_p, addD_int, iF0_int, mulD_l, mulD_r, divD_p, powD_p, shlD_p, shrD_p, uF_int, vw2_pl, cF_int, eqD_int, neD_int, isnF_none, notnF_none, isNoneD_none, isNoneD_int, wipe1_nil, wipe1_cons, truD_bool, toD_pl, List.length_cons, List.length_nil, Nat.reduceAdd, Nat.reduceSub, if_true, List.replicate, List.cons_append, List.nil_append, Nat.zero_add, Bool.not_true, Bool.not_false, decide_true, decide_false, Nat.reduceLeDiff, Int.reduceSub, Int.reduceAdd, notD_bool, isi_int_int, isi_int_bool, opt_bind_some, sFor_def, eLc_def, csrc_def, vsrc_def, rg1_def, eSrc_def, enT_def, sFrz_def, sRetVar_def, sMov_def, draw_eq, c1, Int.reduceBEq, Int.reduceLT, ixD_own, i3]⟩
    · obtain ⟨b, e⟩ := rank_loop c k h0 h1 9 0 0 3 (by decide) (by decide)
      have hp : (0 : Int) < 10 ^ 80 := Int.pow_pos (by decide)
      have e5 : modD (.int b) (.int (10 ^ 80)) = some (.int (b % 10 ^ 80)) := modD_p hp
      refine ⟨b % 10 ^ 80, Int.emod_nonneg _ (by omega), ?_⟩
      simp -implicitDefEqProofs (disch := omega) only [fnD_def, eBin_def, eUn_def, eVar_def, eC_def, tCmp2_def, eB_def, sSeq_def, sAsg_def, sRet_def, sNext_def, sIf_def, eCall_def, eBui_def, aCons_def, aNil_def, dCons_def, dNil_def, eTup_def, eLst_def, eIx_def, tAnd2_def, tOr2_def, tNot1_def, tTru_def, eAnd_def, eOr_def, eIsi_def, sWipeB_def, wipeO_nx, wipeO_rt, wipeO_bk, wipeO_ct, gPut_def, gTupF_tup, gsCons_cons, gsNil_nil, opt_map_some, get_zero, get_succ, put_zero, put_succ, borq_pl, borq_own, borq_brw, bor_pl, bor_own, bor_brw, sto_pl, sto_own, sl2_pl, sl1_pl, modD_p, addD_int, iF0_int, mulD_l, mulD_r, divD_p, powD_p, shlD_p, shrD_p, uF_int, vw2_pl, cF_int, eqD_int, neD_int, isnF_none, notnF_none, isNoneD_none, isNoneD_int, wipe1_nil, wipe1_cons, truD_bool, toD_pl, List.length_cons, List.length_nil, Nat.reduceAdd, Nat.reduceSub, if_true, List.replicate, List.cons_append, List.nil_append, Nat.zero_add, Bool.not_true, Bool.not_false, decide_true, decide_false, Nat.reduceLeDiff, Int.reduceSub, Int.reduceAdd, notD_bool, isi_int_int, isi_int_bool, opt_bind_some, sFor_def, eLc_def, csrc_def, vsrc_def, rg1_def, eSrc_def, enT_def, sFrz_def, sRetVar_def, sMov_def, draw_eq, c1, Int.reduceBEq, Int.reduceLT, e9, e, e40, e4, e5, show (-(2 ^ 62 : Int) ≤ 9 ∧ (9 : Int) < 2 ^ 62) = True from eq_true (by decide)]
theorem sub_bits {x y : Int} (hx : 0 ≤ x) (hy : 0 ≤ y) (h : Sub y x) (k : Nat) : bt (x - y) k = (bt x k && !bt y k) := by
  obtain ⟨a, rfl⟩ := Int.eq_ofNat_of_zero_le hx
  obtain ⟨b, rfl⟩ := Int.eq_ofNat_of_zero_le hy
  have e : a &&& b = b := by
    apply Nat.eq_of_testBit_eq
    intro i
    have := h i
    rw [bt_nat, bt_nat] at this
    rw [Nat.testBit_and]
    cases q : b.testBit i with
    | false => rw [Bool.and_false]
    | true => rw [this q, Bool.and_true]
  have hle : b ≤ a := by rw [← e]; exact Nat.and_le_left
  rw [show (a : Int) - (b : Int) = ((a - (a &&& b) : Nat) : Int) by rw [e]; omega, bt_nat, bt_nat, bt_nat]
  exact sub_and_test a b k
theorem eqD_ints_nil (l : List Int) : eqD (.list (l.map PyData.int)) (.list []) = some l.isEmpty := by
  have := eqD_list_nil (n := 0) (ds := l.map PyData.int) (fun d hd => by
    obtain ⟨i, _, rfl⟩ := List.mem_map.mp hd
    exact shD_int i) (by decide)
  rw [List.isEmpty_map] at this
  exact this
theorem sumF_ints (l : List Int) : sumF [.brw (l.map PyData.int)] = some (.pl (.int l.sum)) := by
  show sumS _ = _
  unfold sumS
  show ((some (l.map PyData.int)).bind intsD).map _ = _
  rw [opt_bind_some, intsD_map]
  rfl
theorem coll_const {α β : Type} (p : α → Bool) (v : α → β) : ∀ (i : Nat) (xs : List α), collI (fun _ x => p x) (fun _ x => v x) i xs = (xs.filter p).map v
  | _, [] => rfl
  | i, x :: xs => by
    unfold collI
    rw [coll_const p v (i + 1) xs, List.filter_cons]
    cases p x <;> rfl
theorem coll_idx {α : Type} (p : Nat → Bool) : ∀ (i : Nat) (xs : List α), collI (fun k _ => p k) (fun k _ => (k : Int)) i xs = ((List.range' i xs.length).filter p).map (fun k : Nat => (k : Int))
  | _, [] => rfl
  | i, x :: xs => by
    unfold collI
    rw [coll_idx p (i + 1) xs, List.length_cons, List.range'_succ, List.filter_cons]
    cases p i <;> rfl
/-- the powers of some of the places -/
theorem pick_bits (n : Nat) (p : Nat → Bool) (q : Int → Bool) (hn : ((List.range n).filter p).map (fun k : Nat => (k : Int)) = L) : 0 ≤ ((L.filter q).map fun w => (1 : Int) * 2 ^ w.toNat).sum ∧ ∀ k, bt ((L.filter q).map fun w => (1 : Int) * 2 ^ w.toNat).sum k = (decide (k < n) && (p k && q (k : Int))) := by
  have e : ((L.filter q).map fun w => (1 : Int) * 2 ^ w.toNat).sum = setOf ((List.range n).filter fun k => p k && q (k : Int)) := by
    rw [← hn, List.filter_map, List.map_map, List.filter_filter]
    unfold setOf
    congr 1
    rw [show ((fun a => (q ∘ fun k : Nat => (k : Int)) a && p a)) = (fun k => p k && q (k : Int)) from funext fun k => Bool.and_comm _ _]
    apply List.map_congr_left
    intro k _
    show (1 : Int) * 2 ^ ((k : Int).toNat) = 2 ^ k
    rw [Int.one_mul, Int.toNat_natCast]
  rw [e]
  obtain ⟨h1, _, h3⟩ := setOf_filter_range (fun k => p k && q (k : Int)) n
  exact ⟨h1, h3⟩
/-- just the possible ones are ranked -/
def Pos (p : Int) (rs : List (Option Int)) : Prop := ∀ k : Nat, bt p k = true ↔ ∃ x : Int, rs[k]? = some (some x)
theorem cov_of {a p : Int} {rs : List (Option Int)} (h : Sub a p) (hp : Pos p rs) : Cov a rs := fun k r hr hk => by
  obtain ⟨x, hx⟩ := (hp k).mp (h k hk)
  rw [hr] at hx
  exact ⟨x, Option.some.inj hx⟩
theorem some_ok (c s possible : Int) (R : Sl) (h2 : 1 ≤ s) (h3 : s ≤ 64) (hp : 0 ≤ possible) : ∃ so so0 : Int, 0 ≤ so ∧ Sub so possible ∧
    sAsg 4 (eBin andD (eVar 2) (eCall F__law_mask (aCons (eVar 0) (aCons (eC (.int 1)) (aCons (eVar 3) aNil))))) [.pl (.int c), R, .pl (.int possible), .pl (.int s), .un, .un, .un, .un, .un, .un] = some (.nx [.pl (.int c), R, .pl (.int possible), .pl (.int s), .pl (.int so0), .un, .un, .un, .un, .un]) ∧
    sIf (tCmp2 gtD (eBin modD (eCall F__law_draw (aCons (eVar 0) (aCons (eC (.int 4)) aNil))) (eC (.int 3))) (eC (.int 0))) (sAsg 4 (eBin andD (eVar 4) (eCall F__law_mask (aCons (eVar 0) (aCons (eC (.int 5)) (aCons (eVar 3) aNil)))))) sNext [.pl (.int c), R, .pl (.int possible), .pl (.int s), .pl (.int so0), .un, .un, .un, .un, .un] = some (.nx [.pl (.int c), R, .pl (.int possible), .pl (.int s), .pl (.int so), .un, .un, .un, .un, .un]) := by
  obtain ⟨m1, b1, _, e1⟩ := mask_ok c 1 s (by decide) (by decide) h2 h3
  obtain ⟨m5, b5, _, e5⟩ := mask_ok c 5 s (by decide) (by decide) h2 h3
  by_cases c4 : 0 < drawV c 4 % 3
  · refine ⟨Builtin.bitAnd (Builtin.bitAnd possible m1) m5, Builtin.bitAnd possible m1, and_nonneg (.inl (and_nonneg (.inl hp))), ((Sub.refl possible).and_l).and_l, ?_, ?_⟩
    · simp -implicitDefEqProofs (disch := omega) only [fnD_def, eBin_def, eUn_def, eVar_def, eC_def, tCmp2_def, eB_def, sSeq_def, sAsg_def, sRet_def, sNext_def, sIf_def, eCall_def, eBui_def, aCons_def, aNil_def, dCons_def, dNil_def, eTup_def, eLst_def, eIx_def, tAnd2_def, tOr2_def, tNot1_def, tTru_def, eAnd_def, eOr_def, eIsi_def, sWipeB_def, wipeO_nx, wipeO_rt, wipeO_bk, wipeO_ct, gPut_def, gTupF_tup, gsCons_cons, gsNil_nil, opt_map_some, get_zero, get_succ, put_zero, put_succ, borq_pl, borq_own, borq_brw, bor_pl, bor_own, bor_brw, sto_pl, sto_own, sl2_pl, sl1_pl, modD_p, addD_int, iF0_int, mulD_l, mulD_r, divD_p, powD_p, shlD_p, shrD_p, uF_int, vw2_pl, cF_int, eqD_int, neD_int, isnF_none, notnF_none, isNoneD_none, isNoneD_int, wipe1_nil, wipe1_cons, truD_bool, toD_pl, List.length_cons, List.length_nil, Nat.reduceAdd, Nat.reduceSub, if_true, List.replicate, List.cons_append, List.nil_append, Nat.zero_add, Bool.not_true, Bool.not_false, decide_true, decide_false, Nat.reduceLeDiff, Int.reduceSub, Int.reduceAdd, notD_bool, isi_int_int, isi_int_bool, opt_bind_some, sFor_def, eLc_def, csrc_def, vsrc_def, rg1_def, eSrc_def, enT_def, sFrz_def, sRetVar_def, sMov_def, e1]
    · simp -implicitDefEqProofs (disch := omega) only [fnD_def, eBin_def, eUn_def, eVar_def, eC_def, tCmp2_def, eB_def, sSeq_def, sAsg_def, sRet_def, sNext_def, sIf_def, eCall_def, eBui_def, aCons_def, aNil_def, dCons_def, dNil_def, eTup_def, eLst_def, eIx_def, tAnd2_def, tOr2_def, tNot1_def, tTru_def, eAnd_def, eOr_def, eIsi_def, sWipeB_def, wipeO_nx, wipeO_rt, wipeO_bk, wipeO_ct, gPut_def, gTupF_tup, gsCons_cons, gsNil_nil, opt_map_some, get_zero, get_succ, put_zero, put_succ, borq_pl, borq_own, borq_brw, bor_pl, bor_own, bor_brw, sto_pl, sto_own, sl2_pl, sl1_pl, modD_p, addD_int, iF0_int, mulD_l, mulD_r, divD_p, powD_p, shlD_p, shrD_p, uF_int, vw2_pl, cF_int, eqD_int, neD_int, isnF_none, notnF_none, isNoneD_none, isNoneD_int, wipe1_nil, wipe1_cons, truD_bool, toD_pl, List.length_cons, List.length_nil, Nat.reduceAdd, Nat.reduceSub, if_true, List.replicate, List.cons_append, List.nil_append, Nat.zero_add, Bool.not_true, Bool.not_false, decide_true, decide_false, Nat.reduceLeDiff, Int.reduceSub, Int.reduceAdd, notD_bool, isi_int_int, isi_int_bool, opt_bind_some, sFor_def, eLc_def, csrc_def, vsrc_def, rg1_def, eSrc_def, enT_def, sFrz_def, sRetVar_def, sMov_def, draw_eq, c4, e5]
  · refine ⟨Builtin.bitAnd possible m1, Builtin.bitAnd possible m1, and_nonneg (.inl hp), (Sub.refl possible).and_l, ?_, ?_⟩
    · simp -implicitDefEqProofs (disch := omega) only [fnD_def, eBin_def, eUn_def, eVar_def, eC_def, tCmp2_def, eB_def, sSeq_def, sAsg_def, sRet_def, sNext_def, sIf_def, eCall_def, eBui_def, aCons_def, aNil_def, dCons_def, dNil_def, eTup_def, eLst_def, eIx_def, tAnd2_def, tOr2_def, tNot1_def, tTru_def, eAnd_def, eOr_def, eIsi_def, sWipeB_def, wipeO_nx, wipeO_rt, wipeO_bk, wipeO_ct, gPut_def, gTupF_tup, gsCons_cons, gsNil_nil, opt_map_some, get_zero, get_succ, put_zero, put_succ, borq_pl, borq_own, borq_brw, bor_pl, bor_own, bor_brw, sto_pl, sto_own, sl2_pl, sl1_pl, modD_p, addD_int, iF0_int, mulD_l, mulD_r, divD_p, powD_p, shlD_p, shrD_p, uF_int, vw2_pl, cF_int, eqD_int, neD_int, isnF_none, notnF_none, isNoneD_none, isNoneD_int, wipe1_nil, wipe1_cons, truD_bool, toD_pl, List.length_cons, List.length_nil, Nat.reduceAdd, Nat.reduceSub, if_true, List.replicate, List.cons_append, List.nil_append, Nat.zero_add, Bool.not_true, Bool.not_false, decide_true, decide_false, Nat.reduceLeDiff, Int.reduceSub, Int.reduceAdd, notD_bool, isi_int_int, isi_int_bool, opt_bind_some, sFor_def, eLc_def, csrc_def, vsrc_def, rg1_def, eSrc_def, enT_def, sFrz_def, sRetVar_def, sMov_def, e1]
    · simp -implicitDefEqProofs (disch := omega) only [fnD_def, eBin_def, eUn_def, eVar_def, eC_def, tCmp2_def, eB_def, sSeq_def, sAsg_def, sRet_def, sNext_def, sIf_def, eCall_def, eBui_def, aCons_def, aNil_def, dCons_def, dNil_def, eTup_def, eLst_def, eIx_def, tAnd2_def, tOr2_def, tNot1_def, tTru_def, eAnd_def, eOr_def, eIsi_def, sWipeB_def, wipeO_nx, wipeO_rt, wipeO_bk, wipeO_ct, gPut_def, gTupF_tup, gsCons_cons, gsNil_nil, opt_map_some, get_zero, get_succ, put_zero, put_succ, borq_pl, borq_own, borq_brw, bor_pl, bor_own, bor_brw, sto_pl, sto_own, sl2_pl, sl1_pl, modD_p, addD_int, iF0_int, mulD_l, mulD_r, divD_p, powD_p, shlD_p, shrD_p, uF_int, vw2_pl, cF_int, eqD_int, neD_int, isnF_none, notnF_none, isNoneD_none, isNoneD_int, wipe1_nil, wipe1_cons, truD_bool, toD_pl, List.length_cons, List.length_nil, Nat.reduceAdd, Nat.reduceSub, if_true, List.replicate, List.cons_append, List.nil_append, Nat.zero_add, Bool.not_true, Bool.not_false, decide_true, decide_false, Nat.reduceLeDiff, Int.reduceSub, Int.reduceAdd, notD_bool, isi_int_int, isi_int_bool, opt_bind_some, sFor_def, eLc_def, csrc_def, vsrc_def, rg1_def, eSrc_def, enT_def, sFrz_def, sRetVar_def, sMov_def, draw_eq, c4]
theorem csrc_brw (f : SEnv → Option Sl) (ρ : SEnv) (ds : List D) (h : f ρ = some (.brw ds)) : csrc f ρ = some ds := by
  unfold csrc
  rw [h]
  rfl
theorem fnD_rt {n m : Nat} {g : SEnv → Option Out} {ss : List Sl} {s : Sl} (hl : ss.length = m) (h : g (ss ++ List.replicate (n - ss.length) .un) = some (.rt s)) : fnD n m g ss = some (.ret s) := by
  rw [fnD_def, if_pos hl, h]
theorem rule_start {c possible so so0 : Int} {rs : List (Option Int)} {r : Int × Int}
    (es1 : sAsg 4 (eBin andD (eVar 2) (eCall F__law_mask (aCons (eVar 0) (aCons (eC (.int 1)) (aCons (eVar 3) aNil))))) [.pl (.int c), .brw (rs.map oD), .pl (.int possible), .pl (.int rs.length), .un, .un, .un, .un, .un, .un] = some (.nx [.pl (.int c), .brw (rs.map oD), .pl (.int possible), .pl (.int rs.length), .pl (.int so0), .un, .un, .un, .un, .un]))
    (es2 : sIf (tCmp2 gtD (eBin modD (eCall F__law_draw (aCons (eVar 0) (aCons (eC (.int 4)) aNil))) (eC (.int 3))) (eC (.int 0))) (sAsg 4 (eBin andD (eVar 4) (eCall F__law_mask (aCons (eVar 0) (aCons (eC (.int 5)) (aCons (eVar 3) aNil)))))) sNext [.pl (.int c), .brw (rs.map oD), .pl (.int possible), .pl (.int rs.length), .pl (.int so0), .un, .un, .un, .un, .un] = some (.nx [.pl (.int c), .brw (rs.map oD), .pl (.int possible), .pl (.int rs.length), .pl (.int so), .un, .un, .un, .un, .un]))
    (hr : (sSeq (sAsg 5 (eCall F__law_mask (aCons (eVar 0) (aCons (eC (.int 8)) (aCons (eVar 3) aNil)))))
  (sSeq (sIf (tCmp2 eqD (eBin modD (eCall F__law_draw (aCons (eVar 0) (aCons (eC (.int 11)) aNil))) (eC (.int 5))) (eC (.int 2))) (sRet (eIx (eLst (dCons (eTup (dCons (eBin andD (eVar 4) (eVar 5)) (dCons (eBin andD (eVar 4) (eUn (uF Builtin.bitNot) (eVar 5))) dNil))) (dCons (eTup (dCons (eC (.int 0)) (dCons (eVar 4) dNil))) (dCons (eTup (dCons (eVar 4) (dCons (eC (.int 0)) dNil))) (dCons (eTup (dCons (eC (.int 0)) (dCons (eC (.int 0)) dNil))) dNil))))) (eBin modD (eCall F__law_draw (aCons (eVar 0) (aCons (eC (.int 12)) aNil))) (eC (.int 4))))) sNext)
  (sSeq (sAsg 6 (eLc (rg1 (aCons (eVar 3) aNil)) [9] (gPut 9) (tCmp2 eqD (eBin andD (eBin shrD (eVar 4) (eVar 9)) (eC (.int 1))) (eC (.int 1))) (eVar 9)))
  (sSeq (sIf (tCmp2 eqD (eVar 6) (eLst dNil)) (sRet (eTup (dCons (eVar 2) (dCons (eC (.int 0)) dNil)))) sNext)
  (sSeq (sAsg 7 (eIx (eVar 1) (eIx (eVar 6) (eBin modD (eCall F__law_draw (aCons (eVar 0) (aCons (eC (.int 13)) aNil))) (eBui lenF (aCons (eVar 6) aNil))))))
  (sSeq (sAsg 8 (eBui sumF (aCons (eLc (csrc (eVar 6)) [9] (gPut 9) (tCmp2 gtD (eIx (eVar 1) (eVar 9)) (eVar 7)) (eBin shlD (eC (.int 1)) (eVar 9))) aNil)))
  (sRet (eTup (dCons (eBin subD (eVar 4) (eVar 8)) (dCons (eBin andD (eVar 8) (eBin orD (eVar 5) (eCall F__law_mask (aCons (eVar 0) (aCons (eC (.int 14)) (aCons (eVar 3) aNil)))))) dNil)))))))))) [.pl (.int c), .brw (rs.map oD), .pl (.int possible), .pl (.int rs.length), .pl (.int so), .un, .un, .un, .un, .un] = some (.rt (.pl (rD r)))) : F__law_rule [.pl (.int c), .brw (rs.map oD), .pl (.int possible)] = some (.ret (.pl (rD r))) := by
  have e3 : sAsg 3 (eBui lenF (aCons (eVar 1) aNil)) [.pl (.int c), .brw (rs.map oD), .pl (.int possible), .un, .un, .un, .un, .un, .un, .un] = some (.nx [.pl (.int c), .brw (rs.map oD), .pl (.int possible), .pl (.int rs.length), .un, .un, .un, .un, .un, .un]) := by simp -implicitDefEqProofs (disch := omega) only [fnD_def, eBin_def, eUn_def, eVar_def, eC_def, tCmp2_def, eB_def, sSeq_def, sAsg_def, sRet_def, sNext_def, sIf_def, eCall_def, eBui_def, aCons_def, aNil_def, dCons_def, dNil_def, eTup_def, eLst_def, eIx_def, tAnd2_def, tOr2_def, tNot1_def, tTru_def, eAnd_def, eOr_def, eIsi_def, sWipeB_def, wipeO_nx, wipeO_rt, wipeO_bk, wipeO_ct, gPut_def, gTupF_tup, gsCons_cons, gsNil_nil, opt_map_some, get_zero, get_succ, put_zero, put_succ, borq_pl, borq_own, borq_brw, bor_pl, bor_own, bor_brw, sto_pl, sto_own, sl2_pl, sl1_pl, modD_p, addD_int, iF0_int, mulD_l, mulD_r, divD_p, powD_p, shlD_p, shrD_p, uF_int, vw2_pl, cF_int, eqD_int, neD_int, isnF_none, notnF_none, isNoneD_none, isNoneD_int, wipe1_nil, wipe1_cons, truD_bool, toD_pl, List.length_cons, List.length_nil, Nat.reduceAdd, Nat.reduceSub, if_true, List.replicate, List.cons_append, List.nil_append, Nat.zero_add, Bool.not_true, Bool.not_false, decide_true, decide_false, Nat.reduceLeDiff, Int.reduceSub, Int.reduceAdd, notD_bool, isi_int_int, isi_int_bool, opt_bind_some, sFor_def, eLc_def, csrc_def, vsrc_def, rg1_def, eSrc_def, enT_def, sFrz_def, sRetVar_def, sMov_def, lenF_brw, List.length_map]
  rw [F__law_rule_eq]; unfold B__law_rule
  refine fnD_rt rfl ?_
  refine (sSeq_nx e3).trans ?_
  refine (sSeq_nx es1).trans ?_
  exact (sSeq_nx es2).trans hr
theorem rule_ok (c possible : Int) (rs : List (Option Int)) (h1 : 1 ≤ rs.length) (h : rs.length ≤ 64) (hp : 0 ≤ possible) (hP : Pos possible rs) : ∃ r : Int × Int, Sub r.1 possible ∧ Sub r.2 possible ∧ F__law_rule [.pl (.int c), .brw (rs.map oD), .pl (.int possible)] = some (.ret (.pl (rD r))) := by
  obtain ⟨so, so0, hs0, hsub, es1, es2⟩ := some_ok c (rs.length : Int) possible (.brw (rs.map oD)) (by omega) (by omega) hp
  obtain ⟨m8, b8, _, e8⟩ := mask_ok c 8 (rs.length : Int) (by decide) (by decide) (by omega) (by omega)
  obtain ⟨m14, b14, _, e14⟩ := mask_ok c 14 (rs.length : Int) (by decide) (by decide) (by omega) (by omega)
  have n1000 : ∀ n : Nat, n ≤ 4 → (n ≤ 1000) = True := fun n hn => eq_true (by omega)
  by_cases c11 : drawV c 11 % 5 = 2
  · have a2 := draw_lo c 12
    have : drawV c 12 % 4 = 0 ∨ drawV c 12 % 4 = 1 ∨ drawV c 12 % 4 = 2 ∨ drawV c 12 % 4 = 3 := by omega
    have i0 : ∀ a b c d : D, atI [a, b, c, d] 0 = some a := fun _ _ _ _ => rfl
    have i1 : ∀ a b c d : D, atI [a, b, c, d] 1 = some b := fun _ _ _ _ => rfl
    have i2 : ∀ a b c d : D, atI [a, b, c, d] 2 = some c := fun _ _ _ _ => rfl
    have i3 : ∀ a b c d : D, atI [a, b, c, d] 3 = some d := fun _ _ _ _ => rfl
    rcases this with q | q | q | q
    · exact ⟨(Builtin.bitAnd so m8, Builtin.bitAnd so (Builtin.bitNot m8)), hsub.and_l, hsub.and_l, by refine rule_start es1 es2 ?_; simp -implicitDefEqProofs (disch := omega) only [fnD_def, eBin_def, eUn_def, eVar_def, eC_def, tCmp2_def, eB_def, sSeq_def, sAsg_def, sRet_def, sNext_def, sIf_def, eCall_def, eBui_def, aCons_def, aNil_def, dCons_def, dNil_def, eTup_def, eLst_def, eIx_def, tAnd2_def, tOr2_def, tNot1_def, tTru_def, eAnd_def, eOr_def, eIsi_def, sWipeB_def, wipeO_nx, wipeO_rt, wipeO_bk, wipeO_ct, gPut_def, gTupF_tup, gsCons_cons, gsNil_nil, opt_map_some, get_zero, get_succ, put_zero, put_succ, borq_pl, borq_own, borq_brw, bor_pl, bor_own, bor_brw, sto_pl, sto_own, sl2_pl, sl1_pl, modD_p, addD_int, iF0_int, mulD_l, mulD_r, divD_p, powD_p, shlD_p, shrD_p, uF_int, vw2_pl, cF_int, eqD_int, neD_int, isnF_none, notnF_none, isNoneD_none, isNoneD_int, wipe1_nil, wipe1_cons, truD_bool, toD_pl, List.length_cons, List.length_nil, Nat.reduceAdd, Nat.reduceSub, if_true, List.replicate, List.cons_append, List.nil_append, Nat.zero_add, Bool.not_true, Bool.not_false, decide_true, decide_false, Nat.reduceLeDiff, Int.reduceSub, Int.reduceAdd, notD_bool, isi_int_int, isi_int_bool, opt_bind_some, sFor_def, eLc_def, csrc_def, vsrc_def, rg1_def, eSrc_def, enT_def, sFrz_def, sRetVar_def, sMov_def, e8, draw_eq, c11, beq_self_eq_true, n1000, q, ixD_own, i0, rD]⟩
    · exact ⟨(0, so), Sub.zero _, hsub, by refine rule_start es1 es2 ?_; simp -implicitDefEqProofs (disch := omega) only [fnD_def, eBin_def, eUn_def, eVar_def, eC_def, tCmp2_def, eB_def, sSeq_def, sAsg_def, sRet_def, sNext_def, sIf_def, eCall_def, eBui_def, aCons_def, aNil_def, dCons_def, dNil_def, eTup_def, eLst_def, eIx_def, tAnd2_def, tOr2_def, tNot1_def, tTru_def, eAnd_def, eOr_def, eIsi_def, sWipeB_def, wipeO_nx, wipeO_rt, wipeO_bk, wipeO_ct, gPut_def, gTupF_tup, gsCons_cons, gsNil_nil, opt_map_some, get_zero, get_succ, put_zero, put_succ, borq_pl, borq_own, borq_brw, bor_pl, bor_own, bor_brw, sto_pl, sto_own, sl2_pl, sl1_pl, modD_p, addD_int, iF0_int, mulD_l, mulD_r, divD_p, powD_p, shlD_p, shrD_p, uF_int, vw2_pl, cF_int, eqD_int, neD_int, isnF_none, notnF_none, isNoneD_none, isNoneD_int, wipe1_nil, wipe1_cons, truD_bool, toD_pl, List.length_cons, List.length_nil, Nat.reduceAdd, Nat.reduceSub, if_true, List.replicate, List.cons_append, List.nil_append, Nat.zero_add, Bool.not_true, Bool.not_false, decide_true, decide_false, Nat.reduceLeDiff, Int.reduceSub, Int.reduceAdd, notD_bool, isi_int_int, isi_int_bool, opt_bind_some, sFor_def, eLc_def, csrc_def, vsrc_def, rg1_def, eSrc_def, enT_def, sFrz_def, sRetVar_def, sMov_def, e8, draw_eq, c11, beq_self_eq_true, n1000, q, ixD_own, i1, rD]⟩
    · exact ⟨(so, 0), hsub, Sub.zero _, by refine rule_start es1 es2 ?_; simp -implicitDefEqProofs (disch := omega) only [fnD_def, eBin_def, eUn_def, eVar_def, eC_def, tCmp2_def, eB_def, sSeq_def, sAsg_def, sRet_def, sNext_def, sIf_def, eCall_def, eBui_def, aCons_def, aNil_def, dCons_def, dNil_def, eTup_def, eLst_def, eIx_def, tAnd2_def, tOr2_def, tNot1_def, tTru_def, eAnd_def, eOr_def, eIsi_def, sWipeB_def, wipeO_nx, wipeO_rt, wipeO_bk, wipeO_ct, gPut_def, gTupF_tup, gsCons_cons, gsNil_nil, opt_map_some, get_zero, get_succ, put_zero, put_succ, borq_pl, borq_own, borq_brw, bor_pl, bor_own, bor_brw, sto_pl, sto_own, sl2_pl, sl1_pl, modD_p, addD_int, iF0_int, mulD_l, mulD_r, divD_p, powD_p, shlD_p, shrD_p, uF_int, vw2_pl, cF_int, eqD_int, neD_int, isnF_none, notnF_none, isNoneD_none, isNoneD_int, wipe1_nil, wipe1_cons, truD_bool, toD_pl, List.length_cons, List.length_nil, Nat.reduceAdd, Nat.reduceSub, if_true, List.replicate, List.cons_append, List.nil_append, Nat.zero_add, Bool.not_true, Bool.not_false, decide_true, decide_false, Nat.reduceLeDiff, Int.reduceSub, Int.reduceAdd, notD_bool, isi_int_int, isi_int_bool, opt_bind_some, sFor_def, eLc_def, csrc_def, vsrc_def, rg1_def, eSrc_def, enT_def, sFrz_def, sRetVar_def, sMov_def, e8, draw_eq, c11, beq_self_eq_true, n1000, q, ixD_own, i2, rD]⟩
    · exact ⟨(0, 0), Sub.zero _, Sub.zero _, by refine rule_start es1 es2 ?_; simp -implicitDefEqProofs (disch := omega) only [fnD_def, eBin_def, eUn_def, eVar_def, eC_def, tCmp2_def, eB_def, sSeq_def, sAsg_def, sRet_def, sNext_def, sIf_def, eCall_def, eBui_def, aCons_def, aNil_def, dCons_def, dNil_def, eTup_def, eLst_def, eIx_def, tAnd2_def, tOr2_def, tNot1_def, tTru_def, eAnd_def, eOr_def, eIsi_def, sWipeB_def, wipeO_nx, wipeO_rt, wipeO_bk, wipeO_ct, gPut_def, gTupF_tup, gsCons_cons, gsNil_nil, opt_map_some, get_zero, get_succ, put_zero, put_succ, borq_pl, borq_own, borq_brw, bor_pl, bor_own, bor_brw, sto_pl, sto_own, sl2_pl, sl1_pl, modD_p, addD_int, iF0_int, mulD_l, mulD_r, divD_p, powD_p, shlD_p, shrD_p, uF_int, vw2_pl, cF_int, eqD_int, neD_int, isnF_none, notnF_none, isNoneD_none, isNoneD_int, wipe1_nil, wipe1_cons, truD_bool, toD_pl, List.length_cons, List.length_nil, Nat.reduceAdd, Nat.reduceSub, if_true, List.replicate, List.cons_append, List.nil_append, Nat.zero_add, Bool.not_true, Bool.not_false, decide_true, decide_false, Nat.reduceLeDiff, Int.reduceSub, Int.reduceAdd, notD_bool, isi_int_int, isi_int_bool, opt_bind_some, sFor_def, eLc_def, csrc_def, vsrc_def, rg1_def, eSrc_def, enT_def, sFrz_def, sRetVar_def, sMov_def, e8, draw_eq, c11, beq_self_eq_true, n1000, q, ixD_own, i3, rD]⟩
  have e4 : (-(2 ^ 62 : Int) ≤ (rs.length : Int) ∧ (rs.length : Int) < 2 ^ 62) = True := eq_true ⟨by omega, by omega⟩
  have e5 : ((rgD 0 rs.length).length ≤ 100000) = True := eq_true (by rw [rgD_length]; omega)
  have key := lcD_coll (g := gPut 9) (t := tCmp2 eqD (eBin andD (eBin shrD (eVar 4) (eVar 9)) (eC (.int 1))) (eC (.int 1))) (e := eVar 9) (fun k (_ : Option Int) => .int (k : Nat)) (fun k (_ : Option Int) => bt so k) (fun k _ => .int (k : Nat))
    [.pl (.int c), .brw (rs.map oD), .pl (.int possible), .pl (.int rs.length), .pl (.int so), .pl (.int m8), .un, .un, .un, .un] rs 0 fun k r hr => ⟨_, rfl, by rw [Nat.zero_add]; simp -implicitDefEqProofs (disch := omega) only [fnD_def, eBin_def, eUn_def, eVar_def, eC_def, tCmp2_def, eB_def, sSeq_def, sAsg_def, sRet_def, sNext_def, sIf_def, eCall_def, eBui_def, aCons_def, aNil_def, dCons_def, dNil_def, eTup_def, eLst_def, eIx_def, tAnd2_def, tOr2_def, tNot1_def, tTru_def, eAnd_def, eOr_def, eIsi_def, sWipeB_def, wipeO_nx, wipeO_rt, wipeO_bk, wipeO_ct, gPut_def, gTupF_tup, gsCons_cons, gsNil_nil, opt_map_some, get_zero, get_succ, put_zero, put_succ, borq_pl, borq_own, borq_brw, bor_pl, bor_own, bor_brw, sto_pl, sto_own, sl2_pl, sl1_pl, modD_p, addD_int, iF0_int, mulD_l, mulD_r, divD_p, powD_p, shlD_p, shrD_p, uF_int, vw2_pl, cF_int, eqD_int, neD_int, isnF_none, notnF_none, isNoneD_none, isNoneD_int, wipe1_nil, wipe1_cons, truD_bool, toD_pl, List.length_cons, List.length_nil, Nat.reduceAdd, Nat.reduceSub, if_true, List.replicate, List.cons_append, List.nil_append, Nat.zero_add, Bool.not_true, Bool.not_false, decide_true, decide_false, Nat.reduceLeDiff, Int.reduceSub, Int.reduceAdd, notD_bool, isi_int_int, isi_int_bool, opt_bind_some, sFor_def, eLc_def, csrc_def, vsrc_def, rg1_def, eSrc_def, enT_def, sFrz_def, sRetVar_def, sMov_def, bit_test1, Int.toNat_natCast], fun _ => ⟨.pl (.int ((0 + k : Nat) : Int)), by simp -implicitDefEqProofs (disch := omega) only [fnD_def, eBin_def, eUn_def, eVar_def, eC_def, tCmp2_def, eB_def, sSeq_def, sAsg_def, sRet_def, sNext_def, sIf_def, eCall_def, eBui_def, aCons_def, aNil_def, dCons_def, dNil_def, eTup_def, eLst_def, eIx_def, tAnd2_def, tOr2_def, tNot1_def, tTru_def, eAnd_def, eOr_def, eIsi_def, sWipeB_def, wipeO_nx, wipeO_rt, wipeO_bk, wipeO_ct, gPut_def, gTupF_tup, gsCons_cons, gsNil_nil, opt_map_some, get_zero, get_succ, put_zero, put_succ, borq_pl, borq_own, borq_brw, bor_pl, bor_own, bor_brw, sto_pl, sto_own, sl2_pl, sl1_pl, modD_p, addD_int, iF0_int, mulD_l, mulD_r, divD_p, powD_p, shlD_p, shrD_p, uF_int, vw2_pl, cF_int, eqD_int, neD_int, isnF_none, notnF_none, isNoneD_none, isNoneD_int, wipe1_nil, wipe1_cons, truD_bool, toD_pl, List.length_cons, List.length_nil, Nat.reduceAdd, Nat.reduceSub, if_true, List.replicate, List.cons_append, List.nil_append, Nat.zero_add, Bool.not_true, Bool.not_false, decide_true, decide_false, Nat.reduceLeDiff, Int.reduceSub, Int.reduceAdd, notD_bool, isi_int_int, isi_int_bool, opt_bind_some, sFor_def, eLc_def, csrc_def, vsrc_def, rg1_def, eSrc_def, enT_def, sFrz_def, sRetVar_def, sMov_def], rfl⟩⟩
  rw [← rgD0_mapI, collI_map, coll_idx (fun k => bt so k) 0 rs, ← List.range_eq_range'] at key
  generalize hL : ((List.range rs.length).filter fun k => bt so k).map (fun k : Nat => (k : Int)) = L at key
  have nil0 := eqD_ints_nil L
  cases cL : L.isEmpty with
  | true =>
    rw [cL] at nil0
    exact ⟨(possible, 0), Sub.refl _, Sub.zero _, by refine rule_start es1 es2 ?_; simp -implicitDefEqProofs (disch := omega) only [fnD_def, eBin_def, eUn_def, eVar_def, eC_def, tCmp2_def, eB_def, sSeq_def, sAsg_def, sRet_def, sNext_def, sIf_def, eCall_def, eBui_def, aCons_def, aNil_def, dCons_def, dNil_def, eTup_def, eLst_def, eIx_def, tAnd2_def, tOr2_def, tNot1_def, tTru_def, eAnd_def, eOr_def, eIsi_def, sWipeB_def, wipeO_nx, wipeO_rt, wipeO_bk, wipeO_ct, gPut_def, gTupF_tup, gsCons_cons, gsNil_nil, opt_map_some, get_zero, get_succ, put_zero, put_succ, borq_pl, borq_own, borq_brw, bor_pl, bor_own, bor_brw, sto_pl, sto_own, sl2_pl, sl1_pl, modD_p, addD_int, iF0_int, mulD_l, mulD_r, divD_p, powD_p, shlD_p, shrD_p, uF_int, vw2_pl, cF_int, eqD_int, neD_int, isnF_none, notnF_none, isNoneD_none, isNoneD_int, wipe1_nil, wipe1_cons, truD_bool, toD_pl, List.length_cons, List.length_nil, Nat.reduceAdd, Nat.reduceSub, if_true, List.replicate, List.cons_append, List.nil_append, Nat.zero_add, Bool.not_true, Bool.not_false, decide_true, decide_false, Nat.reduceLeDiff, Int.reduceSub, Int.reduceAdd, notD_bool, isi_int_int, isi_int_bool, opt_bind_some, sFor_def, eLc_def, csrc_def, vsrc_def, rg1_def, eSrc_def, enT_def, sFrz_def, sRetVar_def, sMov_def, e8, draw_eq, beq_eq_false_iff_ne.mpr c11, n1000, e4, Int.toNat_natCast, e5, key, vw2_bo, nil0, rD]⟩
  | false =>
    rw [cL] at nil0
    have hlen : 0 < L.length := by
      cases L with
      | nil => cases cL
      | cons a l => exact Nat.succ_pos _
    have hlen2 : L.length ≤ 64 := by
      rw [← hL, List.length_map]
      exact Nat.le_trans (List.length_filter_le _ _) (by rw [List.length_range]; exact h)
    have hval : ∀ w ∈ L, ∃ x, atI (rs.map oD) w = some (.int x) := fun w hw => by
      rw [← hL] at hw
      obtain ⟨k, hk, rfl⟩ := List.mem_map.mp hw
      have hb := (List.mem_filter.mp hk).2
      obtain ⟨x, hx⟩ := (hP k).mp (hsub k hb)
      exact ⟨x, by rw [at_k hx]; rfl⟩
    have a1 := Int.emod_nonneg (drawV c 13) (show (L.length : Int) ≠ 0 by omega)
    have a2 := Int.emod_lt_of_pos (drawV c 13) (show (0 : Int) < (L.length : Int) by omega)
    have hj : (drawV c 13 % (L.length : Int)).toNat < L.length := by omega
    have ew : atI (L.map PyData.int) (drawV c 13 % (L.length : Int)) = some (.int L[(drawV c 13 % (L.length : Int)).toNat]) := by
      rw [atI_map, atI_lt a1 (by omega), List.getElem?_eq_getElem hj]
      rfl
    obtain ⟨bar, ebar⟩ := hval _ (List.getElem_mem hj)
    let rv : Int → Int := fun w => match atI (rs.map oD) w with | some (.int x) => x | _ => 0
    have hrv : ∀ w ∈ L, atI (rs.map oD) w = some (.int (rv w)) := fun w hw => by
      obtain ⟨x, hx⟩ := hval w hw
      show _ = some (PyData.int (match atI (rs.map oD) w with | some (.int x) => x | _ => 0))
      rw [hx]
    have hnn : ∀ w ∈ L, 0 ≤ w ∧ w ≤ 64 := fun w hw => by
      rw [← hL] at hw
      obtain ⟨k, hk, rfl⟩ := List.mem_map.mp hw
      have := List.mem_range.mp (List.mem_filter.mp hk).1
      omega
    have key2 := lcD_coll (g := gPut 9) (t := tCmp2 gtD (eIx (eVar 1) (eVar 9)) (eVar 7)) (e := eBin shlD (eC (.int 1)) (eVar 9)) (fun _ (w : Int) => .int w) (fun _ w => decide (bar < rv w)) (fun _ w => .int (1 * 2 ^ w.toNat))
      [.pl (.int c), .brw (rs.map oD), .pl (.int possible), .pl (.int rs.length), .pl (.int so), .pl (.int m8), .own (L.map PyData.int), .pl (.int bar), .un, .un] L 0 fun k w hw => by
        have hm := List.mem_of_getElem? hw
        have hx := hrv w hm
        have hb := hnn w hm
        exact ⟨_, rfl, by simp -implicitDefEqProofs (disch := omega) only [fnD_def, eBin_def, eUn_def, eVar_def, eC_def, tCmp2_def, eB_def, sSeq_def, sAsg_def, sRet_def, sNext_def, sIf_def, eCall_def, eBui_def, aCons_def, aNil_def, dCons_def, dNil_def, eTup_def, eLst_def, eIx_def, tAnd2_def, tOr2_def, tNot1_def, tTru_def, eAnd_def, eOr_def, eIsi_def, sWipeB_def, wipeO_nx, wipeO_rt, wipeO_bk, wipeO_ct, gPut_def, gTupF_tup, gsCons_cons, gsNil_nil, opt_map_some, get_zero, get_succ, put_zero, put_succ, borq_pl, borq_own, borq_brw, bor_pl, bor_own, bor_brw, sto_pl, sto_own, sl2_pl, sl1_pl, modD_p, addD_int, iF0_int, mulD_l, mulD_r, divD_p, powD_p, shlD_p, shrD_p, uF_int, vw2_pl, cF_int, eqD_int, neD_int, isnF_none, notnF_none, isNoneD_none, isNoneD_int, wipe1_nil, wipe1_cons, truD_bool, toD_pl, List.length_cons, List.length_nil, Nat.reduceAdd, Nat.reduceSub, if_true, List.replicate, List.cons_append, List.nil_append, Nat.zero_add, Bool.not_true, Bool.not_false, decide_true, decide_false, Nat.reduceLeDiff, Int.reduceSub, Int.reduceAdd, notD_bool, isi_int_int, isi_int_bool, opt_bind_some, sFor_def, eLc_def, csrc_def, vsrc_def, rg1_def, eSrc_def, enT_def, sFrz_def, sRetVar_def, sMov_def, ixD_brw, hx], fun _ => ⟨.pl (.int (1 * 2 ^ w.toNat)), by simp -implicitDefEqProofs (disch := omega) only [fnD_def, eBin_def, eUn_def, eVar_def, eC_def, tCmp2_def, eB_def, sSeq_def, sAsg_def, sRet_def, sNext_def, sIf_def, eCall_def, eBui_def, aCons_def, aNil_def, dCons_def, dNil_def, eTup_def, eLst_def, eIx_def, tAnd2_def, tOr2_def, tNot1_def, tTru_def, eAnd_def, eOr_def, eIsi_def, sWipeB_def, wipeO_nx, wipeO_rt, wipeO_bk, wipeO_ct, gPut_def, gTupF_tup, gsCons_cons, gsNil_nil, opt_map_some, get_zero, get_succ, put_zero, put_succ, borq_pl, borq_own, borq_brw, bor_pl, bor_own, bor_brw, sto_pl, sto_own, sl2_pl, sl1_pl, modD_p, addD_int, iF0_int, mulD_l, mulD_r, divD_p, powD_p, shlD_p, shrD_p, uF_int, vw2_pl, cF_int, eqD_int, neD_int, isnF_none, notnF_none, isNoneD_none, isNoneD_int, wipe1_nil, wipe1_cons, truD_bool, toD_pl, List.length_cons, List.length_nil, Nat.reduceAdd, Nat.reduceSub, if_true, List.replicate, List.cons_append, List.nil_append, Nat.zero_add, Bool.not_true, Bool.not_false, decide_true, decide_false, Nat.reduceLeDiff, Int.reduceSub, Int.reduceAdd, notD_bool, isi_int_int, isi_int_bool, opt_bind_some, sFor_def, eLc_def, csrc_def, vsrc_def, rg1_def, eSrc_def, enT_def, sFrz_def, sRetVar_def, sMov_def], rfl⟩⟩
    rw [← map_mapI, collI_map, coll_const (fun w => decide (bar < rv w)) (fun w => (1 : Int) * 2 ^ w.toNat)] at key2
    obtain ⟨p1, p2⟩ := pick_bits (L := L) rs.length (fun k => bt so k) (fun w => decide (bar < rv w)) hL
    generalize ((L.filter fun w => decide (bar < rv w)).map fun w => (1 : Int) * 2 ^ w.toNat) = B at key2 p1 p2
    have hB : Sub B.sum so := fun k hk => by
      rw [p2, Bool.and_eq_true, Bool.and_eq_true] at hk
      exact hk.2.1
    have e6 : (L.length ≤ 100000) = True := eq_true (by omega)
    have hLp : (0 : Int) < (L.length : Int) := by omega
    refine ⟨(so - B.sum, Builtin.bitAnd B.sum (Builtin.bitOr m8 m14)), fun k hk => ?_, fun k hk => ?_, ?_⟩
    · rw [sub_bits hs0 p1 hB, Bool.and_eq_true] at hk
      exact hsub k hk.1
    · exact (Sub.and_l (fun k hk => hsub k (hB k hk))) k hk
    · refine rule_start es1 es2 ?_
      simp -implicitDefEqProofs (disch := omega) only [fnD_def, eBin_def, eUn_def, eVar_def, eC_def, tCmp2_def, eB_def, sSeq_def, sAsg_def, sRet_def, sNext_def, sIf_def, eCall_def, eBui_def, aCons_def, aNil_def, dCons_def, dNil_def, eTup_def, eLst_def, eIx_def, tAnd2_def, tOr2_def, tNot1_def, tTru_def, eAnd_def, eOr_def, eIsi_def, sWipeB_def, wipeO_nx, wipeO_rt, wipeO_bk, wipeO_ct, gPut_def, gTupF_tup, gsCons_cons, gsNil_nil, opt_map_some, get_zero, get_succ, put_zero, put_succ, borq_pl, borq_own, borq_brw, bor_pl, bor_own, bor_brw, sto_pl, sto_own, sl2_pl, sl1_pl, modD_p, addD_int, iF0_int, mulD_l, mulD_r, divD_p, powD_p, shlD_p, shrD_p, uF_int, vw2_pl, cF_int, eqD_int, neD_int, isnF_none, notnF_none, isNoneD_none, isNoneD_int, wipe1_nil, wipe1_cons, truD_bool, toD_pl, List.length_cons, List.length_nil, Nat.reduceAdd, Nat.reduceSub, if_true, List.replicate, List.cons_append, List.nil_append, Nat.zero_add, Bool.not_true, Bool.not_false, decide_true, decide_false, Nat.reduceLeDiff, Int.reduceSub, Int.reduceAdd, notD_bool, isi_int_int, isi_int_bool, opt_bind_some, sFor_def, eLc_def, csrc_def, vsrc_def, rg1_def, eSrc_def, enT_def, sFrz_def, sRetVar_def, sMov_def, e8, e14, draw_eq, beq_eq_false_iff_ne.mpr c11, n1000, e4, Int.toNat_natCast, e5, key, vw2_bo, nil0, lenF_brw, List.length_map, modD_p hLp, ixD_brw, ew, ebar, litems_brw, litems, e6, key2, sumF_ints, rD]
theorem cell_eq (ns : List Int) (k : Int) (h0 : 0 ≤ k) : ∃ c : Int, F__law_cell_at [.pl (.list (ns.map PyData.int)), .pl (.int k)] = some (.ret (.pl (.int c))) := by
  rw [F__law_cell_at_eq]; unfold B__law_cell_at
  by_cases c : k < (ns.length : Int)
  · have hx : atI (ns.map PyData.int) k = some (.int (ns.getD k.toNat 0)) := by
      rw [atI_map, atI_lt h0 c, List.getElem?_eq_getElem (by omega)]
      simp [List.getD, List.getElem?_eq_getElem (show k.toNat < ns.length by omega)]
    simp -implicitDefEqProofs (disch := omega) only [fnD_def, eBin_def, eUn_def, eVar_def, eC_def, tCmp2_def, eB_def, sSeq_def, sAsg_def, sRet_def, sNext_def, sIf_def, eCall_def, eBui_def, aCons_def, aNil_def, dCons_def, dNil_def, eTup_def, eLst_def, eIx_def, tAnd2_def, tOr2_def, tNot1_def, tTru_def, eAnd_def, eOr_def, eIsi_def, sWipeB_def, wipeO_nx, wipeO_rt, wipeO_bk, wipeO_ct, gPut_def, gTupF_tup, gsCons_cons, gsNil_nil, opt_map_some, get_zero, get_succ, put_zero, put_succ, borq_pl, borq_own, borq_brw, bor_pl, bor_own, bor_brw, sto_pl, sto_own, sl2_pl, sl1_pl, modD_p, addD_int, iF0_int, mulD_l, mulD_r, divD_p, powD_p, shlD_p, shrD_p, uF_int, vw2_pl, cF_int, eqD_int, neD_int, isnF_none, notnF_none, isNoneD_none, isNoneD_int, wipe1_nil, wipe1_cons, truD_bool, toD_pl, List.length_cons, List.length_nil, Nat.reduceAdd, Nat.reduceSub, if_true, List.replicate, List.cons_append, List.nil_append, Nat.zero_add, Bool.not_true, Bool.not_false, decide_true, decide_false, Nat.reduceLeDiff, Int.reduceSub, Int.reduceAdd, notD_bool, isi_int_int, isi_int_bool, opt_bind_some, sFor_def, eLc_def, csrc_def, vsrc_def, rg1_def, eSrc_def, enT_def, sFrz_def, sRetVar_def, sMov_def, lenF_list, List.length_map, c, ixD_list, hx]
    exact ⟨_, rfl⟩
  · simp -implicitDefEqProofs (disch := omega) only [fnD_def, eBin_def, eUn_def, eVar_def, eC_def, tCmp2_def, eB_def, sSeq_def, sAsg_def, sRet_def, sNext_def, sIf_def, eCall_def, eBui_def, aCons_def, aNil_def, dCons_def, dNil_def, eTup_def, eLst_def, eIx_def, tAnd2_def, tOr2_def, tNot1_def, tTru_def, eAnd_def, eOr_def, eIsi_def, sWipeB_def, wipeO_nx, wipeO_rt, wipeO_bk, wipeO_ct, gPut_def, gTupF_tup, gsCons_cons, gsNil_nil, opt_map_some, get_zero, get_succ, put_zero, put_succ, borq_pl, borq_own, borq_brw, bor_pl, bor_own, bor_brw, sto_pl, sto_own, sl2_pl, sl1_pl, modD_p, addD_int, iF0_int, mulD_l, mulD_r, divD_p, powD_p, shlD_p, shrD_p, uF_int, vw2_pl, cF_int, eqD_int, neD_int, isnF_none, notnF_none, isNoneD_none, isNoneD_int, wipe1_nil, wipe1_cons, truD_bool, toD_pl, List.length_cons, List.length_nil, Nat.reduceAdd, Nat.reduceSub, if_true, List.replicate, List.cons_append, List.nil_append, Nat.zero_add, Bool.not_true, Bool.not_false, decide_true, decide_false, Nat.reduceLeDiff, Int.reduceSub, Int.reduceAdd, notD_bool, isi_int_int, isi_int_bool, opt_bind_some, sFor_def, eLc_def, csrc_def, vsrc_def, rg1_def, eSrc_def, enT_def, sFrz_def, sRetVar_def, sMov_def, lenF_list, List.length_map, c]
    exact ⟨_, rfl⟩

theorem ixN_ok {n : Nat} {i : Int} (h0 : 0 ≤ i) (h : i < n) : ixN n i = some i.toNat := by
  unfold ixN
  rw [if_pos h0]
  have : i.toNat < n := by omega
  simp [this, h]
def Ini (p : Int) (s k : Nat) (st : List (Option Int)) : Prop := st.length = s ∧ ∀ j : Nat, (∀ x : Int, st[j]? = some (some x) → 0 ≤ x ∧ j < k ∧ bt p j = true) ∧ (j < k → bt p j = true → ∃ x : Int, st[j]? = some (some x))
theorem init_ok (S : D) (f p kd : Int) (s : Nat) (h1 : s ≤ 64) (hk0 : 0 ≤ kd) (hk1 : kd ≤ 3) (hp0 : 0 ≤ p) (hp : p < 2 ^ s) : ∃ rs : List (Option Int), rs.length = s ∧ Pos p rs ∧ Nn rs ∧
    sFor (rg1 (aCons (eVar 2) aNil)) (gPut 6)
  (sWipeB [6] (sIf (tCmp2 eqD (eBin andD (eBin shrD (eVar 3) (eVar 6)) (eC (.int 1))) (eC (.int 1))) (sSetIx 5 (eVar 6) (eCall F__law_rank (aCons (eVar 1) (aCons (eBin addD (eC (.int 20)) (eBin mulD (eC (.int 13)) (eVar 6))) (aCons (eVar 4) aNil))))) sNext)) [.pl S, .pl (.int f), .pl (.int (s : Nat)), .pl (.int p), .pl (.int kd), .own ((List.replicate s (none : Option Int)).map oD), .un, .un, .un, .un] = some (.nx [.pl S, .pl (.int f), .pl (.int (s : Nat)), .pl (.int p), .pl (.int kd), .own (rs.map oD), .un, .un, .un, .un]) := by
  have hini : Ini p s 0 (List.replicate s none) := by
    refine ⟨List.length_replicate, fun j => ⟨fun x hx => ?_, fun hj => by omega⟩⟩
    rw [List.getElem?_replicate] at hx
    split at hx <;> cases hx
  have key := forD_ex (g := gPut 6) (b := sWipeB [6] (sIf (tCmp2 eqD (eBin andD (eBin shrD (eVar 3) (eVar 6)) (eC (.int 1))) (eC (.int 1))) (sSetIx 5 (eVar 6) (eCall F__law_rank (aCons (eVar 1) (aCons (eBin addD (eC (.int 20)) (eBin mulD (eC (.int 13)) (eVar 6))) (aCons (eVar 4) aNil))))) sNext)) (fun k (_ : Unit) => .int (k : Nat)) (fun rs : List (Option Int) => [.pl S, .pl (.int f), .pl (.int (s : Nat)), .pl (.int p), .pl (.int kd), .own (rs.map oD), .un, .un, .un, .un]) (Ini p s) (List.replicate s ()) 0 (List.replicate s none) hini fun k _ st hk hI => ?_
  · obtain ⟨rs, e, hl, hI⟩ := key
    rw [List.length_replicate, Nat.zero_add] at hI
    refine ⟨rs, hl, fun k => ⟨fun hb => ?_, fun ⟨x, hx⟩ => ((hI k).1 x hx).2.2⟩, fun k x hx => ((hI k).1 x hx).1, ?_⟩
    · by_cases c : k < s
      · exact (hI k).2 c hb
      · rw [bt_of_lt hp0 hp (by omega)] at hb
        cases hb
    · rw [← rgD0_range] at e
      have e4 : (-(2 ^ 62 : Int) ≤ (s : Int) ∧ (s : Int) < 2 ^ 62) = True := eq_true ⟨by omega, by omega⟩
      simp -implicitDefEqProofs (disch := omega) only [fnD_def, eBin_def, eUn_def, eVar_def, eC_def, tCmp2_def, eB_def, sSeq_def, sAsg_def, sRet_def, sNext_def, sIf_def, eCall_def, eBui_def, aCons_def, aNil_def, dCons_def, dNil_def, eTup_def, eLst_def, eIx_def, tAnd2_def, tOr2_def, tNot1_def, tTru_def, eAnd_def, eOr_def, eIsi_def, sWipeB_def, wipeO_nx, wipeO_rt, wipeO_bk, wipeO_ct, gPut_def, gTupF_tup, gsCons_cons, gsNil_nil, opt_map_some, get_zero, get_succ, put_zero, put_succ, borq_pl, borq_own, borq_brw, bor_pl, bor_own, bor_brw, sto_pl, sto_own, sl2_pl, sl1_pl, modD_p, addD_int, iF0_int, mulD_l, mulD_r, divD_p, powD_p, shlD_p, shrD_p, uF_int, vw2_pl, cF_int, eqD_int, neD_int, isnF_none, notnF_none, isNoneD_none, isNoneD_int, wipe1_nil, wipe1_cons, truD_bool, toD_pl, List.length_cons, List.length_nil, Nat.reduceAdd, Nat.reduceSub, if_true, List.replicate, List.cons_append, List.nil_append, Nat.zero_add, Bool.not_true, Bool.not_false, decide_true, decide_false, Nat.reduceLeDiff, Int.reduceSub, Int.reduceAdd, notD_bool, isi_int_int, isi_int_bool, opt_bind_some, sFor_def, eLc_def, csrc_def, vsrc_def, rg1_def, eSrc_def, enT_def, sFrz_def, sRetVar_def, sMov_def, e4, Int.toNat_natCast, e]
  · rw [Nat.zero_add] at hI ⊢
    have hks : k < s := by
      have := (List.getElem?_eq_some_iff.mp hk).1
      rw [List.length_replicate] at this
      exact this
    obtain ⟨hl, hI⟩ := hI
    obtain ⟨x, hx0, ex⟩ := rank_ok f (20 + 13 * (k : Int)) kd (by omega) (by omega) hk0 hk1
    cases c : bt p k with
    | false =>
      refine ⟨st, ⟨_, rfl, .inl ?_⟩, hl, fun j => ⟨fun x hx => ?_, fun hj hb => ?_⟩⟩
      · simp -implicitDefEqProofs (disch := omega) only [fnD_def, eBin_def, eUn_def, eVar_def, eC_def, tCmp2_def, eB_def, sSeq_def, sAsg_def, sRet_def, sNext_def, sIf_def, eCall_def, eBui_def, aCons_def, aNil_def, dCons_def, dNil_def, eTup_def, eLst_def, eIx_def, tAnd2_def, tOr2_def, tNot1_def, tTru_def, eAnd_def, eOr_def, eIsi_def, sWipeB_def, wipeO_nx, wipeO_rt, wipeO_bk, wipeO_ct, gPut_def, gTupF_tup, gsCons_cons, gsNil_nil, opt_map_some, get_zero, get_succ, put_zero, put_succ, borq_pl, borq_own, borq_brw, bor_pl, bor_own, bor_brw, sto_pl, sto_own, sl2_pl, sl1_pl, modD_p, addD_int, iF0_int, mulD_l, mulD_r, divD_p, powD_p, shlD_p, shrD_p, uF_int, vw2_pl, cF_int, eqD_int, neD_int, isnF_none, notnF_none, isNoneD_none, isNoneD_int, wipe1_nil, wipe1_cons, truD_bool, toD_pl, List.length_cons, List.length_nil, Nat.reduceAdd, Nat.reduceSub, if_true, List.replicate, List.cons_append, List.nil_append, Nat.zero_add, Bool.not_true, Bool.not_false, decide_true, decide_false, Nat.reduceLeDiff, Int.reduceSub, Int.reduceAdd, notD_bool, isi_int_int, isi_int_bool, opt_bind_some, sFor_def, eLc_def, csrc_def, vsrc_def, rg1_def, eSrc_def, enT_def, sFrz_def, sRetVar_def, sMov_def, bit_test1, Int.toNat_natCast, c]
      · obtain ⟨q1, q2, q3⟩ := (hI j).1 x hx
        exact ⟨q1, by omega, q3⟩
      · by_cases cj : j = k
        · subst cj; rw [c] at hb; cases hb
        · exact (hI j).2 (by omega) hb
    | true =>
      have ix := ixN_ok (n := st.length) (i := (k : Int)) (by omega) (by omega)
      rw [Int.toNat_natCast] at ix
      refine ⟨st.set k (some x), ⟨_, rfl, .inl ?_⟩, by rw [List.length_set]; exact hl, fun j => ⟨fun y hy => ?_, fun hj hb => ?_⟩⟩
      · simp -implicitDefEqProofs (disch := omega) only [fnD_def, eBin_def, eUn_def, eVar_def, eC_def, tCmp2_def, eB_def, sSeq_def, sAsg_def, sRet_def, sNext_def, sIf_def, eCall_def, eBui_def, aCons_def, aNil_def, dCons_def, dNil_def, eTup_def, eLst_def, eIx_def, tAnd2_def, tOr2_def, tNot1_def, tTru_def, eAnd_def, eOr_def, eIsi_def, sWipeB_def, wipeO_nx, wipeO_rt, wipeO_bk, wipeO_ct, gPut_def, gTupF_tup, gsCons_cons, gsNil_nil, opt_map_some, get_zero, get_succ, put_zero, put_succ, borq_pl, borq_own, borq_brw, bor_pl, bor_own, bor_brw, sto_pl, sto_own, sl2_pl, sl1_pl, modD_p, addD_int, iF0_int, mulD_l, mulD_r, divD_p, powD_p, shlD_p, shrD_p, uF_int, vw2_pl, cF_int, eqD_int, neD_int, isnF_none, notnF_none, isNoneD_none, isNoneD_int, wipe1_nil, wipe1_cons, truD_bool, toD_pl, List.length_cons, List.length_nil, Nat.reduceAdd, Nat.reduceSub, if_true, List.replicate, List.cons_append, List.nil_append, Nat.zero_add, Bool.not_true, Bool.not_false, decide_true, decide_false, Nat.reduceLeDiff, Int.reduceSub, Int.reduceAdd, notD_bool, isi_int_int, isi_int_bool, opt_bind_some, sFor_def, eLc_def, csrc_def, vsrc_def, rg1_def, eSrc_def, enT_def, sFrz_def, sRetVar_def, sMov_def, bit_test1, Int.toNat_natCast, c, ex, sSetIx, List.length_map, ix, List.map_set, oD_some]
      · rw [List.getElem?_set] at hy
        by_cases cj : k = j
        · subst cj
          rw [if_pos rfl, if_pos (by omega)] at hy
          cases hy
          exact ⟨hx0, by omega, c⟩
        · rw [if_neg cj] at hy
          obtain ⟨q1, q2, q3⟩ := (hI j).1 y hy
          exact ⟨q1, by omega, q3⟩
      · rw [List.getElem?_set]
        by_cases cj : k = j
        · subst cj
          rw [if_pos rfl, if_pos (by omega)]
          exact ⟨x, rfl⟩
        · rw [if_neg cj]
          exact (hI j).2 (by omega) hb
structure Inv (p : Int) (s : Nat) (st : List (Int × Int) × List (Option Int)) : Prop where
  rl : st.1.length ≤ 21
  rs : ∀ r ∈ st.1, Sub r.1 p ∧ Sub r.2 p
  len : st.2.length = s
  pos : Pos p st.2
  nn : Nn st.2
theorem turn_ok (S : D) (f p kd c : Int) (s : Nat) (h0 : 1 ≤ s) (h1 : s ≤ 64) (hp0 : 0 ≤ p) (st : List (Int × Int) × List (Option Int)) (hI : Inv p s st) : ∃ st' : List (Int × Int) × List (Option Int), Inv p s st' ∧
  (sWipeB [6, 8] (sSeq (sAsg 6 (eBin modD (eCall F__law_draw (aCons (eVar 8) (aCons (eC (.int 0)) aNil))) (eVar 2)))
  (sIf (tAnd2 (tCmp2 ltD (eBin modD (eVar 8) (eC (.int 4))) (eC (.int 2))) (tCmp2 ltD (eBui lenF (aCons (eVar 7) aNil)) (eC (.int 21)))) (sApp 7 (eCall F__law_rule (aCons (eVar 8) (aCons (eVar 5) (aCons (eVar 3) aNil))))) (sIf (tCmp2 ltD (eBin modD (eVar 8) (eC (.int 4))) (eC (.int 2))) (sSetIx 7 (eBin modD (eCall F__law_draw (aCons (eVar 8) (aCons (eC (.int 17)) aNil))) (eC (.int 21))) (eCall F__law_rule (aCons (eVar 8) (aCons (eVar 5) (aCons (eVar 3) aNil))))) (sIf (tAnd2 (tCmp2 eqD (eBin modD (eVar 8) (eC (.int 4))) (eC (.int 2))) (tCmp2 eqD (eBin andD (eBin shrD (eVar 3) (eVar 6)) (eC (.int 1))) (eC (.int 1)))) (sSetIx 5 (eVar 6) (eCall F__law_rank (aCons (eVar 8) (aCons (eC (.int 20)) (aCons (eBin addD (eC (.int 1)) (eBin modD (eCall F__law_draw (aCons (eVar 8) (aCons (eC (.int 15)) aNil))) (eC (.int 3)))) aNil))))) (sIf (tNot1 (tTru (eCall F__law_right (aCons (eTup (dCons (eVar 2) (dCons (eVar 3) (dCons (eBui tupleF (aCons (eVar 7) aNil)) dNil)))) (aCons (eVar 5) aNil))))) (sRet (eC (.bool false))) sNext)))))) [.pl S, .pl (.int f), .pl (.int (s : Nat)), .pl (.int p), .pl (.int kd), .own (st.2.map oD), .un, .own (st.1.map rD), .pl (.int c), .un] = some (.nx [.pl S, .pl (.int f), .pl (.int (s : Nat)), .pl (.int p), .pl (.int kd), .own (st'.2.map oD), .un, .own (st'.1.map rD), .un, .un]) := by
  obtain ⟨rules, rs⟩ := st
  obtain ⟨hr, hsub, hlen, hP, hN⟩ := hI
  simp only at hr hsub hlen hP hN
  have hsp : (0 : Int) < (s : Int) := by omega
  have w0 := Int.emod_nonneg (drawV c 0) (show (s : Int) ≠ 0 by omega)
  have w1 := Int.emod_lt_of_pos (drawV c 0) hsp
  obtain ⟨r, q1, q2, er⟩ := rule_ok c p rs (by omega) (by omega) hp0 hP
  have m0 : modD (.int (drawV c 0)) (.int (s : Nat)) = some (.int (drawV c 0 % (s : Int))) := modD_p hsp
  by_cases c1 : c % 4 < 2
  · by_cases c2 : (rules.length : Int) < 21
    · refine ⟨(rules ++ [r], rs), ⟨?_, ?_, hlen, hP, hN⟩, ?_⟩
      · show (rules ++ [r]).length ≤ 21
        rw [List.length_append]; simp only [List.length_cons, List.length_nil]; omega
      · intro r' hr'
        rcases List.mem_append.mp hr' with h | h
        · exact hsub r' h
        · rw [List.mem_singleton.mp h]; exact ⟨q1, q2⟩
      · simp -implicitDefEqProofs (disch := omega) only [fnD_def, eBin_def, eUn_def, eVar_def, eC_def, tCmp2_def, eB_def, sSeq_def, sAsg_def, sRet_def, sNext_def, sIf_def, eCall_def, eBui_def, aCons_def, aNil_def, dCons_def, dNil_def, eTup_def, eLst_def, eIx_def, tAnd2_def, tOr2_def, tNot1_def, tTru_def, eAnd_def, eOr_def, eIsi_def, sWipeB_def, wipeO_nx, wipeO_rt, wipeO_bk, wipeO_ct, gPut_def, gTupF_tup, gsCons_cons, gsNil_nil, opt_map_some, get_zero, get_succ, put_zero, put_succ, borq_pl, borq_own, borq_brw, bor_pl, bor_own, bor_brw, sto_pl, sto_own, sl2_pl, sl1_pl, modD_p, addD_int, iF0_int, mulD_l, mulD_r, divD_p, powD_p, shlD_p, shrD_p, uF_int, vw2_pl, cF_int, eqD_int, neD_int, isnF_none, notnF_none, isNoneD_none, isNoneD_int, wipe1_nil, wipe1_cons, truD_bool, toD_pl, List.length_cons, List.length_nil, Nat.reduceAdd, Nat.reduceSub, if_true, List.replicate, List.cons_append, List.nil_append, Nat.zero_add, Bool.not_true, Bool.not_false, decide_true, decide_false, Nat.reduceLeDiff, Int.reduceSub, Int.reduceAdd, notD_bool, isi_int_int, isi_int_bool, opt_bind_some, sFor_def, eLc_def, csrc_def, vsrc_def, rg1_def, eSrc_def, enT_def, sFrz_def, sRetVar_def, sMov_def, draw_eq, m0, c1, lenF_brw, List.length_map, c2, er, sApp, show (rules.length < 100000) = True from eq_true (by omega), List.map_append, List.map_cons, List.map_nil]
    · have a1 := draw_lo c 17
      have ix := ixN_ok (n := rules.length) (i := drawV c 17 % 21) (by omega) (by omega)
      refine ⟨(rules.set (drawV c 17 % 21).toNat r, rs), ⟨?_, ?_, hlen, hP, hN⟩, ?_⟩
      · show (rules.set _ _).length ≤ 21
        rw [List.length_set]; exact hr
      · intro r' hr'
        rcases List.mem_or_eq_of_mem_set hr' with h | h
        · exact hsub r' h
        · rw [h]; exact ⟨q1, q2⟩
      · simp -implicitDefEqProofs (disch := omega) only [fnD_def, eBin_def, eUn_def, eVar_def, eC_def, tCmp2_def, eB_def, sSeq_def, sAsg_def, sRet_def, sNext_def, sIf_def, eCall_def, eBui_def, aCons_def, aNil_def, dCons_def, dNil_def, eTup_def, eLst_def, eIx_def, tAnd2_def, tOr2_def, tNot1_def, tTru_def, eAnd_def, eOr_def, eIsi_def, sWipeB_def, wipeO_nx, wipeO_rt, wipeO_bk, wipeO_ct, gPut_def, gTupF_tup, gsCons_cons, gsNil_nil, opt_map_some, get_zero, get_succ, put_zero, put_succ, borq_pl, borq_own, borq_brw, bor_pl, bor_own, bor_brw, sto_pl, sto_own, sl2_pl, sl1_pl, modD_p, addD_int, iF0_int, mulD_l, mulD_r, divD_p, powD_p, shlD_p, shrD_p, uF_int, vw2_pl, cF_int, eqD_int, neD_int, isnF_none, notnF_none, isNoneD_none, isNoneD_int, wipe1_nil, wipe1_cons, truD_bool, toD_pl, List.length_cons, List.length_nil, Nat.reduceAdd, Nat.reduceSub, if_true, List.replicate, List.cons_append, List.nil_append, Nat.zero_add, Bool.not_true, Bool.not_false, decide_true, decide_false, Nat.reduceLeDiff, Int.reduceSub, Int.reduceAdd, notD_bool, isi_int_int, isi_int_bool, opt_bind_some, sFor_def, eLc_def, csrc_def, vsrc_def, rg1_def, eSrc_def, enT_def, sFrz_def, sRetVar_def, sMov_def, draw_eq, m0, c1, lenF_brw, List.length_map, c2, er, sSetIx, ix, List.map_set, Bool.false_eq_true, if_false]
  · have hright : F__law_right [.pl (.tuple [.int (s : Nat), .int p, .tuple (rules.map rD)]), .brw (rs.map oD)] = some (.ret (.pl (.bool true))) := right_ok (s : Nat) p rules rs (by omega) hr hN fun r hr => ⟨cov_of (hsub r hr).1 hP, cov_of (hsub r hr).2 hP⟩
    have l1000 : (rules.length ≤ 1000) = True := eq_true (by omega)
    have n3 : ((0 + 1 + 1 + 1 : Nat) ≤ 1000) = True := eq_true (by decide)
    have n4 : ((3 : Nat) ≤ 1000) = True := eq_true (by decide)
    by_cases c2 : c % 4 = 2
    · cases c3 : bt p (drawV c 0 % (s : Int)).toNat with
      | true =>
        have a1 := draw_lo c 15
        obtain ⟨x, hx0, ex⟩ := rank_ok c 20 (1 + drawV c 15 % 3) (by decide) (by decide) (by omega) (by omega)
        have ix := ixN_ok (n := rs.length) (i := drawV c 0 % (s : Int)) (by omega) (by omega)
        have hw : (drawV c 0 % (s : Int)).toNat < rs.length := by omega
        refine ⟨(rules, rs.set (drawV c 0 % (s : Int)).toNat (some x)), ⟨hr, hsub, by show (rs.set _ _).length = s; rw [List.length_set]; exact hlen, fun k => ?_, fun k y hy => ?_⟩, ?_⟩
        · show _ ↔ ∃ y : Int, (rs.set (drawV c 0 % (s : Int)).toNat (some x))[k]? = some (some y)
          rw [List.getElem?_set]
          by_cases ck : (drawV c 0 % (s : Int)).toNat = k
          · subst ck
            rw [if_pos rfl, if_pos hw]
            exact ⟨fun _ => ⟨x, rfl⟩, fun _ => c3⟩
          · rw [if_neg ck]
            exact hP k
        · have hy2 : (rs.set (drawV c 0 % (s : Int)).toNat (some x))[k]? = some (some y) := hy
          rw [List.getElem?_set] at hy2
          by_cases ck : (drawV c 0 % (s : Int)).toNat = k
          · subst ck
            rw [if_pos rfl, if_pos hw] at hy2
            cases hy2
            exact hx0
          · rw [if_neg ck] at hy2
            exact hN k y hy2
        · simp -implicitDefEqProofs (disch := omega) only [fnD_def, eBin_def, eUn_def, eVar_def, eC_def, tCmp2_def, eB_def, sSeq_def, sAsg_def, sRet_def, sNext_def, sIf_def, eCall_def, eBui_def, aCons_def, aNil_def, dCons_def, dNil_def, eTup_def, eLst_def, eIx_def, tAnd2_def, tOr2_def, tNot1_def, tTru_def, eAnd_def, eOr_def, eIsi_def, sWipeB_def, wipeO_nx, wipeO_rt, wipeO_bk, wipeO_ct, gPut_def, gTupF_tup, gsCons_cons, gsNil_nil, opt_map_some, get_zero, get_succ, put_zero, put_succ, borq_pl, borq_own, borq_brw, bor_pl, bor_own, bor_brw, sto_pl, sto_own, sl2_pl, sl1_pl, modD_p, addD_int, iF0_int, mulD_l, mulD_r, divD_p, powD_p, shlD_p, shrD_p, uF_int, vw2_pl, cF_int, eqD_int, neD_int, isnF_none, notnF_none, isNoneD_none, isNoneD_int, wipe1_nil, wipe1_cons, truD_bool, toD_pl, List.length_cons, List.length_nil, Nat.reduceAdd, Nat.reduceSub, if_true, List.replicate, List.cons_append, List.nil_append, Nat.zero_add, Bool.not_true, Bool.not_false, decide_true, decide_false, Nat.reduceLeDiff, Int.reduceSub, Int.reduceAdd, notD_bool, isi_int_int, isi_int_bool, opt_bind_some, sFor_def, eLc_def, csrc_def, vsrc_def, rg1_def, eSrc_def, enT_def, sFrz_def, sRetVar_def, sMov_def, draw_eq, m0, c2, Int.reduceLT, lenF_brw, List.length_map, beq_self_eq_true, bit_test1, c3, ex, sSetIx, ix, List.map_set, oD_some]
      | false =>
        refine ⟨(rules, rs), ⟨hr, hsub, hlen, hP, hN⟩, ?_⟩
        simp -implicitDefEqProofs (disch := omega) only [fnD_def, eBin_def, eUn_def, eVar_def, eC_def, tCmp2_def, eB_def, sSeq_def, sAsg_def, sRet_def, sNext_def, sIf_def, eCall_def, eBui_def, aCons_def, aNil_def, dCons_def, dNil_def, eTup_def, eLst_def, eIx_def, tAnd2_def, tOr2_def, tNot1_def, tTru_def, eAnd_def, eOr_def, eIsi_def, sWipeB_def, wipeO_nx, wipeO_rt, wipeO_bk, wipeO_ct, gPut_def, gTupF_tup, gsCons_cons, gsNil_nil, opt_map_some, get_zero, get_succ, put_zero, put_succ, borq_pl, borq_own, borq_brw, bor_pl, bor_own, bor_brw, sto_pl, sto_own, sl2_pl, sl1_pl, modD_p, addD_int, iF0_int, mulD_l, mulD_r, divD_p, powD_p, shlD_p, shrD_p, uF_int, vw2_pl, cF_int, eqD_int, neD_int, isnF_none, notnF_none, isNoneD_none, isNoneD_int, wipe1_nil, wipe1_cons, truD_bool, toD_pl, List.length_cons, List.length_nil, Nat.reduceAdd, Nat.reduceSub, if_true, List.replicate, List.cons_append, List.nil_append, Nat.zero_add, Bool.not_true, Bool.not_false, decide_true, decide_false, Nat.reduceLeDiff, Int.reduceSub, Int.reduceAdd, notD_bool, isi_int_int, isi_int_bool, opt_bind_some, sFor_def, eLc_def, csrc_def, vsrc_def, rg1_def, eSrc_def, enT_def, sFrz_def, sRetVar_def, sMov_def, draw_eq, m0, c2, Int.reduceLT, lenF_brw, List.length_map, beq_self_eq_true, bit_test1, c3, tupleF, tupleS, items, l1000, n3, n4, hright]
    · refine ⟨(rules, rs), ⟨hr, hsub, hlen, hP, hN⟩, ?_⟩
      simp -implicitDefEqProofs (disch := omega) only [fnD_def, eBin_def, eUn_def, eVar_def, eC_def, tCmp2_def, eB_def, sSeq_def, sAsg_def, sRet_def, sNext_def, sIf_def, eCall_def, eBui_def, aCons_def, aNil_def, dCons_def, dNil_def, eTup_def, eLst_def, eIx_def, tAnd2_def, tOr2_def, tNot1_def, tTru_def, eAnd_def, eOr_def, eIsi_def, sWipeB_def, wipeO_nx, wipeO_rt, wipeO_bk, wipeO_ct, gPut_def, gTupF_tup, gsCons_cons, gsNil_nil, opt_map_some, get_zero, get_succ, put_zero, put_succ, borq_pl, borq_own, borq_brw, bor_pl, bor_own, bor_brw, sto_pl, sto_own, sl2_pl, sl1_pl, modD_p, addD_int, iF0_int, mulD_l, mulD_r, divD_p, powD_p, shlD_p, shrD_p, uF_int, vw2_pl, cF_int, eqD_int, neD_int, isnF_none, notnF_none, isNoneD_none, isNoneD_int, wipe1_nil, wipe1_cons, truD_bool, toD_pl, List.length_cons, List.length_nil, Nat.reduceAdd, Nat.reduceSub, if_true, List.replicate, List.cons_append, List.nil_append, Nat.zero_add, Bool.not_true, Bool.not_false, decide_true, decide_false, Nat.reduceLeDiff, Int.reduceSub, Int.reduceAdd, notD_bool, isi_int_int, isi_int_bool, opt_bind_some, sFor_def, eLc_def, csrc_def, vsrc_def, rg1_def, eSrc_def, enT_def, sFrz_def, sRetVar_def, sMov_def, draw_eq, m0, c1, beq_eq_false_iff_ne.mpr c2, lenF_brw, List.length_map, tupleF, tupleS, items, l1000, n3, n4, hright]
theorem size_ok (S : Sl) (f : Int) : ∃ s : Nat, 1 ≤ s ∧ s ≤ 64 ∧ ∃ i : Int, sAsg 2 (eBin addD (eC (.int 1)) (eBin modD (eCall F__law_draw (aCons (eVar 1) (aCons (eC (.int 0)) aNil))) (eC (.int 64)))) [S, .pl (.int f), .un, .un, .un, .un, .un, .un, .un, .un] = some (.nx [S, .pl (.int f), .pl (.int i), .un, .un, .un, .un, .un, .un, .un]) ∧
    sIf (tCmp2 eqD (eBin modD (eCall F__law_draw (aCons (eVar 1) (aCons (eC (.int 1)) aNil))) (eC (.int 6))) (eC (.int 5))) (sAsg 2 (eC (.int 64))) sNext [S, .pl (.int f), .pl (.int i), .un, .un, .un, .un, .un, .un, .un] = some (.nx [S, .pl (.int f), .pl (.int (s : Nat)), .un, .un, .un, .un, .un, .un, .un]) := by
  have a0 := draw_lo f 0
  have hs : ((1 + drawV f 0 % 64).toNat : Int) = 1 + drawV f 0 % 64 := by omega
  by_cases c : drawV f 1 % 6 = 5
  · refine ⟨64, by decide, by decide, 1 + drawV f 0 % 64, ?_, ?_⟩
    · simp -implicitDefEqProofs (disch := omega) only [fnD_def, eBin_def, eUn_def, eVar_def, eC_def, tCmp2_def, eB_def, sSeq_def, sAsg_def, sRet_def, sNext_def, sIf_def, eCall_def, eBui_def, aCons_def, aNil_def, dCons_def, dNil_def, eTup_def, eLst_def, eIx_def, tAnd2_def, tOr2_def, tNot1_def, tTru_def, eAnd_def, eOr_def, eIsi_def, sWipeB_def, wipeO_nx, wipeO_rt, wipeO_bk, wipeO_ct, gPut_def, gTupF_tup, gsCons_cons, gsNil_nil, opt_map_some, get_zero, get_succ, put_zero, put_succ, borq_pl, borq_own, borq_brw, bor_pl, bor_own, bor_brw, sto_pl, sto_own, sl2_pl, sl1_pl, modD_p, addD_int, iF0_int, mulD_l, mulD_r, divD_p, powD_p, shlD_p, shrD_p, uF_int, vw2_pl, cF_int, eqD_int, neD_int, isnF_none, notnF_none, isNoneD_none, isNoneD_int, wipe1_nil, wipe1_cons, truD_bool, toD_pl, List.length_cons, List.length_nil, Nat.reduceAdd, Nat.reduceSub, if_true, List.replicate, List.cons_append, List.nil_append, Nat.zero_add, Bool.not_true, Bool.not_false, decide_true, decide_false, Nat.reduceLeDiff, Int.reduceSub, Int.reduceAdd, notD_bool, isi_int_int, isi_int_bool, opt_bind_some, sFor_def, eLc_def, csrc_def, vsrc_def, rg1_def, eSrc_def, enT_def, sFrz_def, sRetVar_def, sMov_def, draw_eq]
    · simp -implicitDefEqProofs (disch := omega) only [fnD_def, eBin_def, eUn_def, eVar_def, eC_def, tCmp2_def, eB_def, sSeq_def, sAsg_def, sRet_def, sNext_def, sIf_def, eCall_def, eBui_def, aCons_def, aNil_def, dCons_def, dNil_def, eTup_def, eLst_def, eIx_def, tAnd2_def, tOr2_def, tNot1_def, tTru_def, eAnd_def, eOr_def, eIsi_def, sWipeB_def, wipeO_nx, wipeO_rt, wipeO_bk, wipeO_ct, gPut_def, gTupF_tup, gsCons_cons, gsNil_nil, opt_map_some, get_zero, get_succ, put_zero, put_succ, borq_pl, borq_own, borq_brw, bor_pl, bor_own, bor_brw, sto_pl, sto_own, sl2_pl, sl1_pl, modD_p, addD_int, iF0_int, mulD_l, mulD_r, divD_p, powD_p, shlD_p, shrD_p, uF_int, vw2_pl, cF_int, eqD_int, neD_int, isnF_none, notnF_none, isNoneD_none, isNoneD_int, wipe1_nil, wipe1_cons, truD_bool, toD_pl, List.length_cons, List.length_nil, Nat.reduceAdd, Nat.reduceSub, if_true, List.replicate, List.cons_append, List.nil_append, Nat.zero_add, Bool.not_true, Bool.not_false, decide_true, decide_false, Nat.reduceLeDiff, Int.reduceSub, Int.reduceAdd, notD_bool, isi_int_int, isi_int_bool, opt_bind_some, sFor_def, eLc_def, csrc_def, vsrc_def, rg1_def, eSrc_def, enT_def, sFrz_def, sRetVar_def, sMov_def, draw_eq, c, beq_self_eq_true]
      rfl
  · refine ⟨(1 + drawV f 0 % 64).toNat, by omega, by omega, 1 + drawV f 0 % 64, ?_, ?_⟩
    · simp -implicitDefEqProofs (disch := omega) only [fnD_def, eBin_def, eUn_def, eVar_def, eC_def, tCmp2_def, eB_def, sSeq_def, sAsg_def, sRet_def, sNext_def, sIf_def, eCall_def, eBui_def, aCons_def, aNil_def, dCons_def, dNil_def, eTup_def, eLst_def, eIx_def, tAnd2_def, tOr2_def, tNot1_def, tTru_def, eAnd_def, eOr_def, eIsi_def, sWipeB_def, wipeO_nx, wipeO_rt, wipeO_bk, wipeO_ct, gPut_def, gTupF_tup, gsCons_cons, gsNil_nil, opt_map_some, get_zero, get_succ, put_zero, put_succ, borq_pl, borq_own, borq_brw, bor_pl, bor_own, bor_brw, sto_pl, sto_own, sl2_pl, sl1_pl, modD_p, addD_int, iF0_int, mulD_l, mulD_r, divD_p, powD_p, shlD_p, shrD_p, uF_int, vw2_pl, cF_int, eqD_int, neD_int, isnF_none, notnF_none, isNoneD_none, isNoneD_int, wipe1_nil, wipe1_cons, truD_bool, toD_pl, List.length_cons, List.length_nil, Nat.reduceAdd, Nat.reduceSub, if_true, List.replicate, List.cons_append, List.nil_append, Nat.zero_add, Bool.not_true, Bool.not_false, decide_true, decide_false, Nat.reduceLeDiff, Int.reduceSub, Int.reduceAdd, notD_bool, isi_int_int, isi_int_bool, opt_bind_some, sFor_def, eLc_def, csrc_def, vsrc_def, rg1_def, eSrc_def, enT_def, sFrz_def, sRetVar_def, sMov_def, draw_eq]
    · simp -implicitDefEqProofs (disch := omega) only [fnD_def, eBin_def, eUn_def, eVar_def, eC_def, tCmp2_def, eB_def, sSeq_def, sAsg_def, sRet_def, sNext_def, sIf_def, eCall_def, eBui_def, aCons_def, aNil_def, dCons_def, dNil_def, eTup_def, eLst_def, eIx_def, tAnd2_def, tOr2_def, tNot1_def, tTru_def, eAnd_def, eOr_def, eIsi_def, sWipeB_def, wipeO_nx, wipeO_rt, wipeO_bk, wipeO_ct, gPut_def, gTupF_tup, gsCons_cons, gsNil_nil, opt_map_some, get_zero, get_succ, put_zero, put_succ, borq_pl, borq_own, borq_brw, bor_pl, bor_own, bor_brw, sto_pl, sto_own, sl2_pl, sl1_pl, modD_p, addD_int, iF0_int, mulD_l, mulD_r, divD_p, powD_p, shlD_p, shrD_p, uF_int, vw2_pl, cF_int, eqD_int, neD_int, isnF_none, notnF_none, isNoneD_none, isNoneD_int, wipe1_nil, wipe1_cons, truD_bool, toD_pl, List.length_cons, List.length_nil, Nat.reduceAdd, Nat.reduceSub, if_true, List.replicate, List.cons_append, List.nil_append, Nat.zero_add, Bool.not_true, Bool.not_false, decide_true, decide_false, Nat.reduceLeDiff, Int.reduceSub, Int.reduceAdd, notD_bool, isi_int_int, isi_int_bool, opt_bind_some, sFor_def, eLc_def, csrc_def, vsrc_def, rg1_def, eSrc_def, enT_def, sFrz_def, sRetVar_def, sMov_def, draw_eq, beq_eq_false_iff_ne.mpr c, hs]
theorem none_ok (S : Sl) (f p kd : Int) (s : Nat) (h1 : s ≤ 64) : sAsg 5 (eLc (rg1 (aCons (eVar 2) aNil)) [6] (gPut 6) tYesD (eC .none)) [S, .pl (.int f), .pl (.int (s : Nat)), .pl (.int p), .pl (.int kd), .un, .un, .un, .un, .un] = some (.nx [S, .pl (.int f), .pl (.int (s : Nat)), .pl (.int p), .pl (.int kd), .own ((List.replicate s (none : Option Int)).map oD), .un, .un, .un, .un]) := by
  have e4 : (-(2 ^ 62 : Int) ≤ (s : Int) ∧ (s : Int) < 2 ^ 62) = True := eq_true ⟨by omega, by omega⟩
  have e5 : ((rgD 0 s).length ≤ 100000) = True := eq_true (by rw [rgD_length]; omega)
  have key := lcD_coll (g := gPut 6) (t := tYesD) (e := eC .none) (fun k (_ : Unit) => .int (k : Nat)) (fun _ _ => true) (fun _ _ => .none) [S, .pl (.int f), .pl (.int (s : Nat)), .pl (.int p), .pl (.int kd), .un, .un, .un, .un, .un] (List.replicate s ()) 0 fun k x hr => ⟨_, rfl, rfl, fun _ => ⟨.pl .none, rfl, rfl⟩⟩
  rw [coll_const (fun _ => true) (fun _ => PyData.none), ← rgD0_range] at key
  have e6 : ((List.replicate s ()).filter fun _ => true).map (fun _ => PyData.none) = (List.replicate s (none : Option Int)).map oD := by
    rw [List.filter_eq_self.mpr (fun _ _ => rfl), List.map_replicate, List.map_replicate]
    rfl
  rw [e6] at key
  simp -implicitDefEqProofs (disch := omega) only [fnD_def, eBin_def, eUn_def, eVar_def, eC_def, tCmp2_def, eB_def, sSeq_def, sAsg_def, sRet_def, sNext_def, sIf_def, eCall_def, eBui_def, aCons_def, aNil_def, dCons_def, dNil_def, eTup_def, eLst_def, eIx_def, tAnd2_def, tOr2_def, tNot1_def, tTru_def, eAnd_def, eOr_def, eIsi_def, sWipeB_def, wipeO_nx, wipeO_rt, wipeO_bk, wipeO_ct, gPut_def, gTupF_tup, gsCons_cons, gsNil_nil, opt_map_some, get_zero, get_succ, put_zero, put_succ, borq_pl, borq_own, borq_brw, bor_pl, bor_own, bor_brw, sto_pl, sto_own, sl2_pl, sl1_pl, modD_p, addD_int, iF0_int, mulD_l, mulD_r, divD_p, powD_p, shlD_p, shrD_p, uF_int, vw2_pl, cF_int, eqD_int, neD_int, isnF_none, notnF_none, isNoneD_none, isNoneD_int, wipe1_nil, wipe1_cons, truD_bool, toD_pl, List.length_cons, List.length_nil, Nat.reduceAdd, Nat.reduceSub, if_true, List.replicate, List.cons_append, List.nil_append, Nat.zero_add, Bool.not_true, Bool.not_false, decide_true, decide_false, Nat.reduceLeDiff, Int.reduceSub, Int.reduceAdd, notD_bool, isi_int_int, isi_int_bool, opt_bind_some, sFor_def, eLc_def, csrc_def, vsrc_def, rg1_def, eSrc_def, enT_def, sFrz_def, sRetVar_def, sMov_def, e4, Int.toNat_natCast, e5, key]
theorem law_true (ns : List Int) (h : ns.length ≤ 63) : F_law [.pl (.list (ns.map PyData.int))] = some (.ret (.pl (.bool true))) := by
  obtain ⟨f, ef⟩ := cell_eq ns 0 (by decide)
  obtain ⟨s, h0, h1, i, e2, e3⟩ := size_ok (.pl (.list (ns.map PyData.int))) f
  obtain ⟨p, hp0, hp1, ep⟩ := possible_ok f (s : Nat) (by omega) (by omega)
  rw [Int.toNat_natCast] at hp1
  have a10 := draw_lo f 10
  have e6 := none_ok (.pl (.list (ns.map PyData.int))) f p (drawV f 10 % 4) s h1
  obtain ⟨rs, hl, hP, hN, e7⟩ := init_ok (.list (ns.map PyData.int)) f p (drawV f 10 % 4) s h1 (by omega) (by omega) hp0 hp1
  have e1 : sAsg 1 (eCall F__law_cell_at (aCons (eVar 0) (aCons (eC (.int 0)) aNil))) [.pl (.list (ns.map PyData.int)), .un, .un, .un, .un, .un, .un, .un, .un, .un] = some (.nx [.pl (.list (ns.map PyData.int)), .pl (.int f), .un, .un, .un, .un, .un, .un, .un, .un]) := by simp -implicitDefEqProofs (disch := omega) only [fnD_def, eBin_def, eUn_def, eVar_def, eC_def, tCmp2_def, eB_def, sSeq_def, sAsg_def, sRet_def, sNext_def, sIf_def, eCall_def, eBui_def, aCons_def, aNil_def, dCons_def, dNil_def, eTup_def, eLst_def, eIx_def, tAnd2_def, tOr2_def, tNot1_def, tTru_def, eAnd_def, eOr_def, eIsi_def, sWipeB_def, wipeO_nx, wipeO_rt, wipeO_bk, wipeO_ct, gPut_def, gTupF_tup, gsCons_cons, gsNil_nil, opt_map_some, get_zero, get_succ, put_zero, put_succ, borq_pl, borq_own, borq_brw, bor_pl, bor_own, bor_brw, sto_pl, sto_own, sl2_pl, sl1_pl, modD_p, addD_int, iF0_int, mulD_l, mulD_r, divD_p, powD_p, shlD_p, shrD_p, uF_int, vw2_pl, cF_int, eqD_int, neD_int, isnF_none, notnF_none, isNoneD_none, isNoneD_int, wipe1_nil, wipe1_cons, truD_bool, toD_pl, List.length_cons, List.length_nil, Nat.reduceAdd, Nat.reduceSub, if_true, List.replicate, List.cons_append, List.nil_append, Nat.zero_add, Bool.not_true, Bool.not_false, decide_true, decide_false, Nat.reduceLeDiff, Int.reduceSub, Int.reduceAdd, notD_bool, isi_int_int, isi_int_bool, opt_bind_some, sFor_def, eLc_def, csrc_def, vsrc_def, rg1_def, eSrc_def, enT_def, sFrz_def, sRetVar_def, sMov_def, ef]
  have e4 : sAsg 3 (eCall F__law_possible (aCons (eVar 1) (aCons (eVar 2) aNil))) [.pl (.list (ns.map PyData.int)), .pl (.int f), .pl (.int (s : Nat)), .un, .un, .un, .un, .un, .un, .un] = some (.nx [.pl (.list (ns.map PyData.int)), .pl (.int f), .pl (.int (s : Nat)), .pl (.int p), .un, .un, .un, .un, .un, .un]) := by simp -implicitDefEqProofs (disch := omega) only [fnD_def, eBin_def, eUn_def, eVar_def, eC_def, tCmp2_def, eB_def, sSeq_def, sAsg_def, sRet_def, sNext_def, sIf_def, eCall_def, eBui_def, aCons_def, aNil_def, dCons_def, dNil_def, eTup_def, eLst_def, eIx_def, tAnd2_def, tOr2_def, tNot1_def, tTru_def, eAnd_def, eOr_def, eIsi_def, sWipeB_def, wipeO_nx, wipeO_rt, wipeO_bk, wipeO_ct, gPut_def, gTupF_tup, gsCons_cons, gsNil_nil, opt_map_some, get_zero, get_succ, put_zero, put_succ, borq_pl, borq_own, borq_brw, bor_pl, bor_own, bor_brw, sto_pl, sto_own, sl2_pl, sl1_pl, modD_p, addD_int, iF0_int, mulD_l, mulD_r, divD_p, powD_p, shlD_p, shrD_p, uF_int, vw2_pl, cF_int, eqD_int, neD_int, isnF_none, notnF_none, isNoneD_none, isNoneD_int, wipe1_nil, wipe1_cons, truD_bool, toD_pl, List.length_cons, List.length_nil, Nat.reduceAdd, Nat.reduceSub, if_true, List.replicate, List.cons_append, List.nil_append, Nat.zero_add, Bool.not_true, Bool.not_false, decide_true, decide_false, Nat.reduceLeDiff, Int.reduceSub, Int.reduceAdd, notD_bool, isi_int_int, isi_int_bool, opt_bind_some, sFor_def, eLc_def, csrc_def, vsrc_def, rg1_def, eSrc_def, enT_def, sFrz_def, sRetVar_def, sMov_def, ep]
  have e5 : sAsg 4 (eBin modD (eCall F__law_draw (aCons (eVar 1) (aCons (eC (.int 10)) aNil))) (eC (.int 4))) [.pl (.list (ns.map PyData.int)), .pl (.int f), .pl (.int (s : Nat)), .pl (.int p), .un, .un, .un, .un, .un, .un] = some (.nx [.pl (.list (ns.map PyData.int)), .pl (.int f), .pl (.int (s : Nat)), .pl (.int p), .pl (.int (drawV f 10 % 4)), .un, .un, .un, .un, .un]) := by simp -implicitDefEqProofs (disch := omega) only [fnD_def, eBin_def, eUn_def, eVar_def, eC_def, tCmp2_def, eB_def, sSeq_def, sAsg_def, sRet_def, sNext_def, sIf_def, eCall_def, eBui_def, aCons_def, aNil_def, dCons_def, dNil_def, eTup_def, eLst_def, eIx_def, tAnd2_def, tOr2_def, tNot1_def, tTru_def, eAnd_def, eOr_def, eIsi_def, sWipeB_def, wipeO_nx, wipeO_rt, wipeO_bk, wipeO_ct, gPut_def, gTupF_tup, gsCons_cons, gsNil_nil, opt_map_some, get_zero, get_succ, put_zero, put_succ, borq_pl, borq_own, borq_brw, bor_pl, bor_own, bor_brw, sto_pl, sto_own, sl2_pl, sl1_pl, modD_p, addD_int, iF0_int, mulD_l, mulD_r, divD_p, powD_p, shlD_p, shrD_p, uF_int, vw2_pl, cF_int, eqD_int, neD_int, isnF_none, notnF_none, isNoneD_none, isNoneD_int, wipe1_nil, wipe1_cons, truD_bool, toD_pl, List.length_cons, List.length_nil, Nat.reduceAdd, Nat.reduceSub, if_true, List.replicate, List.cons_append, List.nil_append, Nat.zero_add, Bool.not_true, Bool.not_false, decide_true, decide_false, Nat.reduceLeDiff, Int.reduceSub, Int.reduceAdd, notD_bool, isi_int_int, isi_int_bool, opt_bind_some, sFor_def, eLc_def, csrc_def, vsrc_def, rg1_def, eSrc_def, enT_def, sFrz_def, sRetVar_def, sMov_def, draw_eq]
  have e8 : sAsg 7 (eLst dNil) [.pl (.list (ns.map PyData.int)), .pl (.int f), .pl (.int (s : Nat)), .pl (.int p), .pl (.int (drawV f 10 % 4)), .own (rs.map oD), .un, .un, .un, .un] = some (.nx [.pl (.list (ns.map PyData.int)), .pl (.int f), .pl (.int (s : Nat)), .pl (.int p), .pl (.int (drawV f 10 % 4)), .own (rs.map oD), .un, .own (([] : List (Int × Int)).map rD), .un, .un]) := by
    simp -implicitDefEqProofs (disch := omega) only [fnD_def, eBin_def, eUn_def, eVar_def, eC_def, tCmp2_def, eB_def, sSeq_def, sAsg_def, sRet_def, sNext_def, sIf_def, eCall_def, eBui_def, aCons_def, aNil_def, dCons_def, dNil_def, eTup_def, eLst_def, eIx_def, tAnd2_def, tOr2_def, tNot1_def, tTru_def, eAnd_def, eOr_def, eIsi_def, sWipeB_def, wipeO_nx, wipeO_rt, wipeO_bk, wipeO_ct, gPut_def, gTupF_tup, gsCons_cons, gsNil_nil, opt_map_some, get_zero, get_succ, put_zero, put_succ, borq_pl, borq_own, borq_brw, bor_pl, bor_own, bor_brw, sto_pl, sto_own, sl2_pl, sl1_pl, modD_p, addD_int, iF0_int, mulD_l, mulD_r, divD_p, powD_p, shlD_p, shrD_p, uF_int, vw2_pl, cF_int, eqD_int, neD_int, isnF_none, notnF_none, isNoneD_none, isNoneD_int, wipe1_nil, wipe1_cons, truD_bool, toD_pl, List.length_cons, List.length_nil, Nat.reduceAdd, Nat.reduceSub, if_true, List.replicate, List.cons_append, List.nil_append, Nat.zero_add, Bool.not_true, Bool.not_false, decide_true, decide_false, Nat.reduceLeDiff, Int.reduceSub, Int.reduceAdd, notD_bool, isi_int_int, isi_int_bool, opt_bind_some, sFor_def, eLc_def, csrc_def, vsrc_def, rg1_def, eSrc_def, enT_def, sFrz_def, sRetVar_def, sMov_def, show ((0 : Nat) ≤ 1000) = True from eq_true (by decide), List.map_nil]
  obtain ⟨⟨rules, rs2⟩, e9, hI⟩ := forD_ex (g := gPut 8) (b := sWipeB [6, 8] (sSeq (sAsg 6 (eBin modD (eCall F__law_draw (aCons (eVar 8) (aCons (eC (.int 0)) aNil))) (eVar 2)))
  (sIf (tAnd2 (tCmp2 ltD (eBin modD (eVar 8) (eC (.int 4))) (eC (.int 2))) (tCmp2 ltD (eBui lenF (aCons (eVar 7) aNil)) (eC (.int 21)))) (sApp 7 (eCall F__law_rule (aCons (eVar 8) (aCons (eVar 5) (aCons (eVar 3) aNil))))) (sIf (tCmp2 ltD (eBin modD (eVar 8) (eC (.int 4))) (eC (.int 2))) (sSetIx 7 (eBin modD (eCall F__law_draw (aCons (eVar 8) (aCons (eC (.int 17)) aNil))) (eC (.int 21))) (eCall F__law_rule (aCons (eVar 8) (aCons (eVar 5) (aCons (eVar 3) aNil))))) (sIf (tAnd2 (tCmp2 eqD (eBin modD (eVar 8) (eC (.int 4))) (eC (.int 2))) (tCmp2 eqD (eBin andD (eBin shrD (eVar 3) (eVar 6)) (eC (.int 1))) (eC (.int 1)))) (sSetIx 5 (eVar 6) (eCall F__law_rank (aCons (eVar 8) (aCons (eC (.int 20)) (aCons (eBin addD (eC (.int 1)) (eBin modD (eCall F__law_draw (aCons (eVar 8) (aCons (eC (.int 15)) aNil))) (eC (.int 3)))) aNil))))) (sIf (tNot1 (tTru (eCall F__law_right (aCons (eTup (dCons (eVar 2) (dCons (eVar 3) (dCons (eBui tupleF (aCons (eVar 7) aNil)) dNil)))) (aCons (eVar 5) aNil))))) (sRet (eC (.bool false))) sNext)))))) (fun _ x => .int x)
    (fun st : List (Int × Int) × List (Option Int) => [.pl (.list (ns.map PyData.int)), .pl (.int f), .pl (.int (s : Nat)), .pl (.int p), .pl (.int (drawV f 10 % 4)), .own (st.2.map oD), .un, .own (st.1.map rD), .un, .un]) (fun _ => Inv p s) (DL.cutD ns (some 1) (some 91)) 0 ([], rs) ⟨Nat.zero_le _, fun r hr => absurd hr List.not_mem_nil, hl, hP, hN⟩ fun k x st _ hI => by
      obtain ⟨st', hI', e⟩ := turn_ok (.list (ns.map PyData.int)) f p (drawV f 10 % 4) x s h0 h1 hp0 st hI
      exact ⟨st', ⟨_, rfl, .inl e⟩, hI'⟩
  rw [← map_mapI] at e9
  obtain ⟨hr, hsub, hlen, hP2, hN2⟩ := hI
  simp only at hr hsub hlen hP2 hN2
  have hright : F__law_right [.pl (.tuple [.int (s : Nat), .int p, .tuple (rules.map rD)]), .brw (rs2.map oD)] = some (.ret (.pl (.bool true))) := right_ok (s : Nat) p rules rs2 (by omega) hr hN2 fun r hr => ⟨cov_of (hsub r hr).1 hP2, cov_of (hsub r hr).2 hP2⟩
  have e10 : slD (.pl (.list (ns.map PyData.int))) (some 1) (some 91) = some (.own ((DL.cutD ns (some 1) (some 91)).map PyData.int)) := by
    show some (Sl.own (DL.cutD (ns.map PyData.int) (some 1) (some 91))) = _
    unfold DL.cutD
    rw [List.length_map, List.map_take, List.map_drop]
  have e11 : sFor (eSrc lsrc (eSl (eVar 0) (oSome (eC (.int 1))) (oSome (eC (.int 91))))) (gPut 8) (sWipeB [6, 8] (sSeq (sAsg 6 (eBin modD (eCall F__law_draw (aCons (eVar 8) (aCons (eC (.int 0)) aNil))) (eVar 2)))
  (sIf (tAnd2 (tCmp2 ltD (eBin modD (eVar 8) (eC (.int 4))) (eC (.int 2))) (tCmp2 ltD (eBui lenF (aCons (eVar 7) aNil)) (eC (.int 21)))) (sApp 7 (eCall F__law_rule (aCons (eVar 8) (aCons (eVar 5) (aCons (eVar 3) aNil))))) (sIf (tCmp2 ltD (eBin modD (eVar 8) (eC (.int 4))) (eC (.int 2))) (sSetIx 7 (eBin modD (eCall F__law_draw (aCons (eVar 8) (aCons (eC (.int 17)) aNil))) (eC (.int 21))) (eCall F__law_rule (aCons (eVar 8) (aCons (eVar 5) (aCons (eVar 3) aNil))))) (sIf (tAnd2 (tCmp2 eqD (eBin modD (eVar 8) (eC (.int 4))) (eC (.int 2))) (tCmp2 eqD (eBin andD (eBin shrD (eVar 3) (eVar 6)) (eC (.int 1))) (eC (.int 1)))) (sSetIx 5 (eVar 6) (eCall F__law_rank (aCons (eVar 8) (aCons (eC (.int 20)) (aCons (eBin addD (eC (.int 1)) (eBin modD (eCall F__law_draw (aCons (eVar 8) (aCons (eC (.int 15)) aNil))) (eC (.int 3)))) aNil))))) (sIf (tNot1 (tTru (eCall F__law_right (aCons (eTup (dCons (eVar 2) (dCons (eVar 3) (dCons (eBui tupleF (aCons (eVar 7) aNil)) dNil)))) (aCons (eVar 5) aNil))))) (sRet (eC (.bool false))) sNext)))))) [.pl (.list (ns.map PyData.int)), .pl (.int f), .pl (.int (s : Nat)), .pl (.int p), .pl (.int (drawV f 10 % 4)), .own (rs.map oD), .un, .own (([] : List (Int × Int)).map rD), .un, .un] = some (.nx [.pl (.list (ns.map PyData.int)), .pl (.int f), .pl (.int (s : Nat)), .pl (.int p), .pl (.int (drawV f 10 % 4)), .own (rs2.map oD), .un, .own (rules.map rD), .un, .un]) := by
    simp -implicitDefEqProofs (disch := omega) only [fnD_def, eBin_def, eUn_def, eVar_def, eC_def, tCmp2_def, eB_def, sSeq_def, sAsg_def, sRet_def, sNext_def, sIf_def, eCall_def, eBui_def, aCons_def, aNil_def, dCons_def, dNil_def, eTup_def, eLst_def, eIx_def, tAnd2_def, tOr2_def, tNot1_def, tTru_def, eAnd_def, eOr_def, eIsi_def, sWipeB_def, wipeO_nx, wipeO_rt, wipeO_bk, wipeO_ct, gPut_def, gTupF_tup, gsCons_cons, gsNil_nil, opt_map_some, get_zero, get_succ, put_zero, put_succ, borq_pl, borq_own, borq_brw, bor_pl, bor_own, bor_brw, sto_pl, sto_own, sl2_pl, sl1_pl, modD_p, addD_int, iF0_int, mulD_l, mulD_r, divD_p, powD_p, shlD_p, shrD_p, uF_int, vw2_pl, cF_int, eqD_int, neD_int, isnF_none, notnF_none, isNoneD_none, isNoneD_int, wipe1_nil, wipe1_cons, truD_bool, toD_pl, List.length_cons, List.length_nil, Nat.reduceAdd, Nat.reduceSub, if_true, List.replicate, List.cons_append, List.nil_append, Nat.zero_add, Bool.not_true, Bool.not_false, decide_true, decide_false, Nat.reduceLeDiff, Int.reduceSub, Int.reduceAdd, notD_bool, isi_int_int, isi_int_bool, opt_bind_some, sFor_def, eLc_def, csrc_def, vsrc_def, rg1_def, eSrc_def, enT_def, sFrz_def, sRetVar_def, sMov_def, eSl_def, oSome_def, e10, lsrc, e9]
  have l1000 : (rules.length ≤ 1000) = True := eq_true (by omega)
  have n3 : ((0 + 1 + 1 + 1 : Nat) ≤ 1000) = True := eq_true (by decide)
  have n4 : ((3 : Nat) ≤ 1000) = True := eq_true (by decide)
  rw [F_law_eq]; unfold B_law
  refine fnD_rt rfl ?_
  refine (sSeq_nx e1).trans ?_
  refine (sSeq_nx e2).trans ?_
  refine (sSeq_nx e3).trans ?_
  refine (sSeq_nx e4).trans ?_
  refine (sSeq_nx e5).trans ?_
  refine (sSeq_nx e6).trans ?_
  refine (sSeq_nx e7).trans ?_
  refine (sSeq_nx e8).trans ?_
  refine (sSeq_nx e11).trans ?_
  simp -implicitDefEqProofs (disch := omega) only [fnD_def, eBin_def, eUn_def, eVar_def, eC_def, tCmp2_def, eB_def, sSeq_def, sAsg_def, sRet_def, sNext_def, sIf_def, eCall_def, eBui_def, aCons_def, aNil_def, dCons_def, dNil_def, eTup_def, eLst_def, eIx_def, tAnd2_def, tOr2_def, tNot1_def, tTru_def, eAnd_def, eOr_def, eIsi_def, sWipeB_def, wipeO_nx, wipeO_rt, wipeO_bk, wipeO_ct, gPut_def, gTupF_tup, gsCons_cons, gsNil_nil, opt_map_some, get_zero, get_succ, put_zero, put_succ, borq_pl, borq_own, borq_brw, bor_pl, bor_own, bor_brw, sto_pl, sto_own, sl2_pl, sl1_pl, modD_p, addD_int, iF0_int, mulD_l, mulD_r, divD_p, powD_p, shlD_p, shrD_p, uF_int, vw2_pl, cF_int, eqD_int, neD_int, isnF_none, notnF_none, isNoneD_none, isNoneD_int, wipe1_nil, wipe1_cons, truD_bool, toD_pl, List.length_cons, List.length_nil, Nat.reduceAdd, Nat.reduceSub, if_true, List.replicate, List.cons_append, List.nil_append, Nat.zero_add, Bool.not_true, Bool.not_false, decide_true, decide_false, Nat.reduceLeDiff, Int.reduceSub, Int.reduceAdd, notD_bool, isi_int_int, isi_int_bool, opt_bind_some, sFor_def, eLc_def, csrc_def, vsrc_def, rg1_def, eSrc_def, enT_def, sFrz_def, sRetVar_def, sMov_def, tupleF, tupleS, items, List.length_map, l1000, n3, n4, hright]

abbrev topS (i : Nat) : Stmt := PySem.Challenge.pw_wontbook_k21_misfit.main.body.getD i (.Pass ⟨0, 0, 0, 0⟩)
abbrev s_least : Stmt := topS 1
abbrev s_fit_for : Stmt := topS 2
abbrev s_misfit : Stmt := topS 3
abbrev s__law_cell_at : Stmt := topS 5
abbrev s__law_draw : Stmt := topS 6
abbrev s__law_mask : Stmt := topS 7
abbrev s__law_possible : Stmt := topS 8
abbrev s__law_rank : Stmt := topS 9
abbrev s__law_rule : Stmt := topS 10
abbrev s__law_low : Stmt := topS 11
abbrev s__law_due : Stmt := topS 12
abbrev s__law_right : Stmt := topS 13
abbrev s_law : Stmt := topS 14
structure Tx (K : PySem.W.Frag) (mg : Str → Option Value) where
  f_least : Addr
  d_least : FuncData
  F_least : Fun K "least" "least" s_least f_least d_least
  m_least : mg "least" = some (.ref f_least)
  b_least : Binds K d_least P_least []
  f_fit_for : Addr
  d_fit_for : FuncData
  F_fit_for : Fun K "fit_for" "fit_for" s_fit_for f_fit_for d_fit_for
  m_fit_for : mg "fit_for" = some (.ref f_fit_for)
  b_fit_for : Binds K d_fit_for P_fit_for []
  f_misfit : Addr
  d_misfit : FuncData
  F_misfit : Fun K "misfit" "misfit" s_misfit f_misfit d_misfit
  m_misfit : mg "misfit" = some (.ref f_misfit)
  b_misfit : Binds K d_misfit P_misfit []
  f__law_cell_at : Addr
  d__law_cell_at : FuncData
  F__law_cell_at : Fun K "_law_cell_at" "_law_cell_at" s__law_cell_at f__law_cell_at d__law_cell_at
  m__law_cell_at : mg "_law_cell_at" = some (.ref f__law_cell_at)
  b__law_cell_at : Binds K d__law_cell_at P__law_cell_at []
  f__law_draw : Addr
  d__law_draw : FuncData
  F__law_draw : Fun K "_law_draw" "_law_draw" s__law_draw f__law_draw d__law_draw
  m__law_draw : mg "_law_draw" = some (.ref f__law_draw)
  b__law_draw : Binds K d__law_draw P__law_draw []
  f__law_mask : Addr
  d__law_mask : FuncData
  F__law_mask : Fun K "_law_mask" "_law_mask" s__law_mask f__law_mask d__law_mask
  m__law_mask : mg "_law_mask" = some (.ref f__law_mask)
  b__law_mask : Binds K d__law_mask P__law_mask []
  f__law_possible : Addr
  d__law_possible : FuncData
  F__law_possible : Fun K "_law_possible" "_law_possible" s__law_possible f__law_possible d__law_possible
  m__law_possible : mg "_law_possible" = some (.ref f__law_possible)
  b__law_possible : Binds K d__law_possible P__law_possible []
  f__law_rank : Addr
  d__law_rank : FuncData
  F__law_rank : Fun K "_law_rank" "_law_rank" s__law_rank f__law_rank d__law_rank
  m__law_rank : mg "_law_rank" = some (.ref f__law_rank)
  b__law_rank : Binds K d__law_rank P__law_rank []
  f__law_rule : Addr
  d__law_rule : FuncData
  F__law_rule : Fun K "_law_rule" "_law_rule" s__law_rule f__law_rule d__law_rule
  m__law_rule : mg "_law_rule" = some (.ref f__law_rule)
  b__law_rule : Binds K d__law_rule P__law_rule []
  f__law_low : Addr
  d__law_low : FuncData
  F__law_low : Fun K "_law_low" "_law_low" s__law_low f__law_low d__law_low
  m__law_low : mg "_law_low" = some (.ref f__law_low)
  b__law_low : Binds K d__law_low P__law_low []
  f__law_due : Addr
  d__law_due : FuncData
  F__law_due : Fun K "_law_due" "_law_due" s__law_due f__law_due d__law_due
  m__law_due : mg "_law_due" = some (.ref f__law_due)
  b__law_due : Binds K d__law_due P__law_due []
  f__law_right : Addr
  d__law_right : FuncData
  F__law_right : Fun K "_law_right" "_law_right" s__law_right f__law_right d__law_right
  m__law_right : mg "_law_right" = some (.ref f__law_right)
  b__law_right : Binds K d__law_right P__law_right []
  f_law : Addr
  d_law : FuncData
  F_law : Fun K "law" "law" s_law f_law d_law
  m_law : mg "law" = some (.ref f_law)
  b_law : Binds K d_law P_law []
  z_bool : mg "bool" = none
  z_enumerate : mg "enumerate" = none
  z_int : mg "int" = none
  z_isinstance : mg "isinstance" = none
  z_len : mg "len" = none
  z_min : mg "min" = none
  z_range : mg "range" = none
  z_sum : mg "sum" = none
  z_tuple : mg "tuple" = none
section
variable {P : Program} {w : World} {K : PySem.W.Frag} {mg : Str → Option Value} {base : Heap}
theorem sc_least : FnScope N_least P_least (defScope s_least) := ⟨rfl, rfl, rfl, by decide +kernel, rfl, by decide +kernel, by decide +kernel⟩
theorem ok_least (T : Tx K mg) : FnOk P w K mg base L2.CX0 1 T.f_least T.d_least P_least (FSp K F_least) := by
  rw [F_least_eq]
  exact fn_ok T.F_least sc_least rfl (by decide) fun cdv A outer s H E hr =>
  (ssd_cons (sd_asg (i := 2) sc_least.nd rfl (by first | exact Or.inl rfl | exact Or.inr rfl) pd_non)
  (ssd_cons (sd_for PassesOwn.never rfl (ld_enumT rfl T.z_enumerate (pd_var 0)) (gd_tup rfl (gsd_cons (i := 3) sc_least.nd rfl (by first | exact Or.inl rfl | exact Or.inr rfl) (gsd_cons (i := 4) sc_least.nd rfl (by first | exact Or.inl rfl | exact Or.inr rfl) gsd_nil)))
  (ssd_wipeB [3, 4] (ssd_one (sd_if (td_w (wd_and (td_cmp op_notN ok_notN (pd_var 4) pd_non (nomark _)) (wd_and1 (td_cmp (op_eqA hr.units) ok_eq (pd_band (pd_shr (pd_var 1) (pd_var 3)) pd_int) pd_int (nomark _))))) (ssd_one (sd_if (td_w (wd_or (td_cmp op_isN ok_isN (pd_var 2) pd_non (nomark _)) (wd_or1 (td_cmp op_lt ok_lt (pd_var 4) (pd_var 2) (nomark _))))) (ssd_one (sd_asg (i := 2) sc_least.nd rfl (by first | exact Or.inl rfl | exact Or.inr rfl) (pd_var 4))) ssd_nil)) ssd_nil))))
  (ssd_one (sd_ret (pd_var 2)))))
theorem sc_fit_for : FnScope N_fit_for P_fit_for (defScope s_fit_for) := ⟨rfl, rfl, rfl, by decide +kernel, rfl, by decide +kernel, by decide +kernel⟩
theorem ok_fit_for (T : Tx K mg) : FnOk P w K mg base L2.CX0 2 T.f_fit_for T.d_fit_for P_fit_for (FSp K F_fit_for) := by
  rw [F_fit_for_eq]
  exact fn_ok T.F_fit_for sc_fit_for rfl (by decide) fun cdv A outer s H E hr =>
  (ssd_cons (sd_asg (i := 2) sc_fit_for.nd rfl (by first | exact Or.inl rfl | exact Or.inr rfl) (pd_call (ok_least T) (hr.mono (by decide)) rfl T.m_least T.F_least.kp T.b_least (ad_cons (pd_var 0) (ad_cons (pd_ix (pd_var 1) pd_int) ad_nil))))
  (ssd_cons (sd_asg (i := 3) sc_fit_for.nd rfl (by first | exact Or.inl rfl | exact Or.inr rfl) (pd_call (ok_least T) (hr.mono (by decide)) rfl T.m_least T.F_least.kp T.b_least (ad_cons (pd_var 0) (ad_cons (pd_ix (pd_var 1) pd_int) ad_nil))))
  (ssd_one (sd_ret (pd_and (pd_cmp op_notN ok_notN (pd_var 2) pd_non (nomark _)) (pd_one (pd_or (pd_cmp op_isN ok_isN (pd_var 3) pd_non (nomark _)) (pd_one (pd_cmp op_lt ok_lt (pd_var 2) (pd_var 3) (nomark _))))))))))
theorem sc_misfit : FnScope N_misfit P_misfit (defScope s_misfit) := ⟨rfl, rfl, rfl, by decide +kernel, rfl, by decide +kernel, by decide +kernel⟩
theorem ok_misfit (T : Tx K mg) : FnOk P w K mg base L2.CX0 3 T.f_misfit T.d_misfit P_misfit (FSp K F_misfit) := by
  rw [F_misfit_eq]
  exact fn_ok T.F_misfit sc_misfit rfl (by decide) fun cdv A outer s H E hr =>
  (ssd_cons (sd_for PassesOwn.never rfl (ld_enumT rfl T.z_enumerate (pd_ix (pd_var 0) pd_int)) (gd_tup rfl (gsd_cons (i := 2) sc_misfit.nd rfl (by first | exact Or.inl rfl | exact Or.inr rfl) (gsd_cons (i := 3) sc_misfit.nd rfl (by first | exact Or.inl rfl | exact Or.inr rfl) gsd_nil)))
  (ssd_wipeB [2, 3] (ssd_one (sd_if (td_not (td_val (pd_call (ok_fit_for T) (hr.mono (by decide)) rfl T.m_fit_for T.F_fit_for.kp T.b_fit_for (ad_cons (pd_var 1) (ad_cons (pd_var 3) ad_nil))))) (ssd_one (sd_ret (pd_var 2))) ssd_nil))))
  (ssd_one (sd_ret pd_non)))
theorem sc__law_cell_at : FnScope N__law_cell_at P__law_cell_at (defScope s__law_cell_at) := ⟨rfl, rfl, rfl, by decide +kernel, rfl, by decide +kernel, by decide +kernel⟩
theorem ok__law_cell_at (T : Tx K mg) : FnOk P w K mg base L2.CX0 1 T.f__law_cell_at T.d__law_cell_at P__law_cell_at (FSp K F__law_cell_at) := by
  rw [F__law_cell_at_eq]
  exact fn_ok T.F__law_cell_at sc__law_cell_at rfl (by decide) fun cdv A outer s H E hr =>
  (ssd_cons (sd_if (td_cmp op_lt ok_lt (pd_var 1) (pd_len rfl T.z_len (pd_var 0)) (nomark _)) (ssd_one (sd_ret (pd_ix (pd_var 0) (pd_var 1)))) ssd_nil)
  (ssd_one (sd_ret pd_int)))
theorem sc__law_draw : FnScope N__law_draw P__law_draw (defScope s__law_draw) := ⟨rfl, rfl, rfl, by decide +kernel, rfl, by decide +kernel, by decide +kernel⟩
theorem ok__law_draw (T : Tx K mg) : FnOk P w K mg base L2.CX0 1 T.f__law_draw T.d__law_draw P__law_draw (FSp K F__law_draw) := by
  rw [F__law_draw_eq]
  exact fn_ok T.F__law_draw sc__law_draw rfl (by decide) fun cdv A outer s H E hr =>
  (ssd_cons (sd_asg (i := 2) sc__law_draw.nd rfl (by first | exact Or.inl rfl | exact Or.inr rfl) (pd_mod (pd_add (pd_add (pd_add (pd_mod (pd_var 0) pd_int) (pd_mul pd_int (pd_var 1))) (pd_mul (pd_mul pd_int (pd_var 1)) (pd_var 1))) pd_int) pd_int))
  (ssd_cons (sd_asg (i := 2) sc__law_draw.nd rfl (by first | exact Or.inl rfl | exact Or.inr rfl) (pd_mod (pd_mul (pd_var 2) (pd_var 2)) pd_int))
  (ssd_one (sd_ret (pd_fdiv (pd_mod (pd_mul (pd_var 2) (pd_add pd_int (pd_mul pd_int (pd_var 1)))) pd_int) pd_int)))))
theorem sc__law_mask : FnScope N__law_mask P__law_mask (defScope s__law_mask) := ⟨rfl, rfl, rfl, by decide +kernel, rfl, by decide +kernel, by decide +kernel⟩
theorem ok__law_mask (T : Tx K mg) : FnOk P w K mg base L2.CX0 2 T.f__law_mask T.d__law_mask P__law_mask (FSp K F__law_mask) := by
  rw [F__law_mask_eq]
  exact fn_ok T.F__law_mask sc__law_mask rfl (by decide) fun cdv A outer s H E hr =>
  (ssd_cons (sd_asg (i := 3) sc__law_mask.nd rfl (by first | exact Or.inl rfl | exact Or.inr rfl) (pd_add (pd_mul (pd_add (pd_mul (pd_call (ok__law_draw T) (hr.mono (by decide)) rfl T.m__law_draw T.F__law_draw.kp T.b__law_draw (ad_cons (pd_var 0) (ad_cons (pd_var 1) ad_nil))) pd_int) (pd_call (ok__law_draw T) (hr.mono (by decide)) rfl T.m__law_draw T.F__law_draw.kp T.b__law_draw (ad_cons (pd_var 0) (ad_cons (pd_add (pd_var 1) pd_int) ad_nil)))) pd_int) (pd_call (ok__law_draw T) (hr.mono (by decide)) rfl T.m__law_draw T.F__law_draw.kp T.b__law_draw (ad_cons (pd_var 0) (ad_cons (pd_add (pd_var 1) pd_int) ad_nil)))))
  (ssd_one (sd_ret (pd_mod (pd_mul (pd_var 3) pd_int) (pd_shl pd_int (pd_var 2))))))
theorem sc__law_possible : FnScope N__law_possible P__law_possible (defScope s__law_possible) := ⟨rfl, rfl, rfl, by decide +kernel, rfl, by decide +kernel, by decide +kernel⟩
theorem ok__law_possible (T : Tx K mg) : FnOk P w K mg base L2.CX0 3 T.f__law_possible T.d__law_possible P__law_possible (FSp K F__law_possible) := by
  rw [F__law_possible_eq]
  exact fn_ok T.F__law_possible sc__law_possible rfl (by decide) fun cdv A outer s H E hr =>
  (ssd_cons (sd_asg (i := 2) sc__law_possible.nd rfl (by first | exact Or.inl rfl | exact Or.inr rfl) (pd_mod (pd_call (ok__law_draw T) (hr.mono (by decide)) rfl T.m__law_draw T.F__law_draw.kp T.b__law_draw (ad_cons (pd_var 0) (ad_cons pd_int ad_nil))) pd_int))
  (ssd_cons (sd_if (td_cmp (op_eqA hr.units) ok_eq (pd_var 2) pd_int (nomark _)) (ssd_one (sd_ret (pd_call (ok__law_mask T) (hr.mono (by decide)) rfl T.m__law_mask T.F__law_mask.kp T.b__law_mask (ad_cons (pd_var 0) (ad_cons pd_int (ad_cons (pd_var 1) ad_nil)))))) ssd_nil)
  (ssd_cons (sd_if (td_cmp (op_eqA hr.units) ok_eq (pd_var 2) pd_int (nomark _)) (ssd_one (sd_ret (pd_band (pd_call (ok__law_mask T) (hr.mono (by decide)) rfl T.m__law_mask T.F__law_mask.kp T.b__law_mask (ad_cons (pd_var 0) (ad_cons pd_int (ad_cons (pd_var 1) ad_nil)))) (pd_call (ok__law_mask T) (hr.mono (by decide)) rfl T.m__law_mask T.F__law_mask.kp T.b__law_mask (ad_cons (pd_var 0) (ad_cons pd_int (ad_cons (pd_var 1) ad_nil))))))) ssd_nil)
  (ssd_cons (sd_if (td_w (wd_and (td_cmp (op_eqA hr.units) ok_eq (pd_var 2) pd_int (nomark _)) (wd_and1 (td_cmp (op_eqA hr.units) ok_eq (pd_mod (pd_call (ok__law_draw T) (hr.mono (by decide)) rfl T.m__law_draw T.F__law_draw.kp T.b__law_draw (ad_cons (pd_var 0) (ad_cons pd_int ad_nil))) pd_int) pd_int (nomark _))))) (ssd_one (sd_ret pd_int)) ssd_nil)
  (ssd_one (sd_ret (pd_sub (pd_shl pd_int (pd_var 1)) pd_int)))))))
theorem sc__law_rank : FnScope N__law_rank P__law_rank (defScope s__law_rank) := ⟨rfl, rfl, rfl, by decide +kernel, rfl, by decide +kernel, by decide +kernel⟩
theorem ok__law_rank (T : Tx K mg) : FnOk P w K mg base L2.CX0 2 T.f__law_rank T.d__law_rank P__law_rank (FSp K F__law_rank) := by
  rw [F__law_rank_eq]
  exact fn_ok T.F__law_rank sc__law_rank rfl (by decide) fun cdv A outer s H E hr =>
  (ssd_cons (sd_if (td_cmp (op_eqA hr.units) ok_eq (pd_var 2) pd_int (nomark _)) (ssd_one (sd_ret pd_int)) ssd_nil)
  (ssd_cons (sd_if (td_w (wd_or (td_cmp op_lt ok_lt (pd_var 2) pd_int (nomark _)) (wd_or1 (td_cmp op_gt ok_gt (pd_mod (pd_call (ok__law_draw T) (hr.mono (by decide)) rfl T.m__law_draw T.F__law_draw.kp T.b__law_draw (ad_cons (pd_var 0) (ad_cons (pd_var 1) ad_nil))) pd_int) pd_int (nomark _))))) (ssd_one (sd_ret (pd_mod (pd_call (ok__law_draw T) (hr.mono (by decide)) rfl T.m__law_draw T.F__law_draw.kp T.b__law_draw (ad_cons (pd_var 0) (ad_cons (pd_add (pd_var 1) pd_int) ad_nil))) (pd_ix (pd_lst (dd_cons pd_int (dd_cons pd_int (dd_cons pd_int (dd_cons pd_int dd_nil))))) (pd_var 2))))) ssd_nil)
  (ssd_cons (sd_asg (i := 3) sc__law_rank.nd rfl (by first | exact Or.inl rfl | exact Or.inr rfl) pd_int)
  (ssd_cons (sd_for PassesOwn.never rfl (ld_range1 rfl T.z_range (ad_cons pd_int ad_nil)) (gd_name (i := 4) sc__law_rank.nd rfl (by first | exact Or.inl rfl | exact Or.inr rfl))
  (ssd_wipeB [4] (ssd_one (sd_asg (i := 3) sc__law_rank.nd rfl (by first | exact Or.inl rfl | exact Or.inr rfl) (pd_add (pd_mul (pd_var 3) (pd_pow pd_int pd_int)) (pd_call (ok__law_draw T) (hr.mono (by decide)) rfl T.m__law_draw T.F__law_draw.kp T.b__law_draw (ad_cons (pd_var 0) (ad_cons (pd_add (pd_add (pd_var 1) pd_int) (pd_var 4)) ad_nil))))))))
  (ssd_one (sd_ret (pd_mod (pd_var 3) (pd_mul (pd_pow pd_int pd_int) (pd_pow pd_int pd_int)))))))))
theorem sc__law_rule : FnScope N__law_rule P__law_rule (defScope s__law_rule) := ⟨rfl, rfl, rfl, by decide +kernel, rfl, by decide +kernel, by decide +kernel⟩
theorem ok__law_rule (T : Tx K mg) : FnOk P w K mg base L2.CX0 3 T.f__law_rule T.d__law_rule P__law_rule (FSp K F__law_rule) := by
  rw [F__law_rule_eq]
  exact fn_ok T.F__law_rule sc__law_rule rfl (by decide) fun cdv A outer s H E hr =>
  (ssd_cons (sd_asg (i := 3) sc__law_rule.nd rfl (by first | exact Or.inl rfl | exact Or.inr rfl) (pd_len rfl T.z_len (pd_var 1)))
  (ssd_cons (sd_asg (i := 4) sc__law_rule.nd rfl (by first | exact Or.inl rfl | exact Or.inr rfl) (pd_band (pd_var 2) (pd_call (ok__law_mask T) (hr.mono (by decide)) rfl T.m__law_mask T.F__law_mask.kp T.b__law_mask (ad_cons (pd_var 0) (ad_cons pd_int (ad_cons (pd_var 3) ad_nil))))))
  (ssd_cons (sd_if (td_cmp op_gt ok_gt (pd_mod (pd_call (ok__law_draw T) (hr.mono (by decide)) rfl T.m__law_draw T.F__law_draw.kp T.b__law_draw (ad_cons (pd_var 0) (ad_cons pd_int ad_nil))) pd_int) pd_int (nomark _)) (ssd_one (sd_asg (i := 4) sc__law_rule.nd rfl (by first | exact Or.inl rfl | exact Or.inr rfl) (pd_band (pd_var 4) (pd_call (ok__law_mask T) (hr.mono (by decide)) rfl T.m__law_mask T.F__law_mask.kp T.b__law_mask (ad_cons (pd_var 0) (ad_cons pd_int (ad_cons (pd_var 3) ad_nil))))))) ssd_nil)
  (ssd_cons (sd_asg (i := 5) sc__law_rule.nd rfl (by first | exact Or.inl rfl | exact Or.inr rfl) (pd_call (ok__law_mask T) (hr.mono (by decide)) rfl T.m__law_mask T.F__law_mask.kp T.b__law_mask (ad_cons (pd_var 0) (ad_cons pd_int (ad_cons (pd_var 3) ad_nil)))))
  (ssd_cons (sd_if (td_cmp (op_eqA hr.units) ok_eq (pd_mod (pd_call (ok__law_draw T) (hr.mono (by decide)) rfl T.m__law_draw T.F__law_draw.kp T.b__law_draw (ad_cons (pd_var 0) (ad_cons pd_int ad_nil))) pd_int) pd_int (nomark _)) (ssd_one (sd_ret (pd_ix (pd_lst (dd_cons (pd_tup (dd_cons (pd_band (pd_var 4) (pd_var 5)) (dd_cons (pd_band (pd_var 4) (pd_inv (pd_var 5))) dd_nil))) (dd_cons (pd_tup (dd_cons pd_int (dd_cons (pd_var 4) dd_nil))) (dd_cons (pd_tup (dd_cons (pd_var 4) (dd_cons pd_int dd_nil))) (dd_cons (pd_tup (dd_cons pd_int (dd_cons pd_int dd_nil))) dd_nil))))) (pd_mod (pd_call (ok__law_draw T) (hr.mono (by decide)) rfl T.m__law_draw T.F__law_draw.kp T.b__law_draw (ad_cons (pd_var 0) (ad_cons pd_int ad_nil))) pd_int)))) ssd_nil)
  (ssd_cons (sd_setLc (i := 6) (own := [("world", 9)]) (g := (gName 9)) rfl sc__law_rule.nd rfl rfl (sw_true rfl rfl rfl (by decide +kernel)) (cd_of (ld_range1 rfl T.z_range (ad_cons (pd_var 3) ad_nil))) (blkOk_by (own := [("world", 9)]) (N := N__law_rule) (sc := defScope s__law_rule) (by decide +kernel)) (tgt_name (by simp)) (fun _ _ _ _ _ => pg_name (i := 9) sc__law_rule.nd rfl (Or.inl rfl)) (fun _ _ _ _ _ => td_ifs (td_cmp (op_eqA hr.units) ok_eq (pd_band (pd_shr (pd_var 4) (pd_var 9)) pd_int) pd_int (nomark _))) (fun _ _ _ _ _ => (pd_var 9)))
  (ssd_cons (sd_if (td_cmp (op_eqA hr.units) ok_eq (pd_var 6) (pd_lst dd_nil) (nomark _)) (ssd_one (sd_ret (pd_tup (dd_cons (pd_var 2) (dd_cons pd_int dd_nil))))) ssd_nil)
  (ssd_cons (sd_asg (i := 7) sc__law_rule.nd rfl (by first | exact Or.inl rfl | exact Or.inr rfl) (pd_ix (pd_var 1) (pd_ix (pd_var 6) (pd_mod (pd_call (ok__law_draw T) (hr.mono (by decide)) rfl T.m__law_draw T.F__law_draw.kp T.b__law_draw (ad_cons (pd_var 0) (ad_cons pd_int ad_nil))) (pd_len rfl T.z_len (pd_var 6))))))
  (ssd_cons (sd_asg (i := 8) sc__law_rule.nd rfl (by first | exact Or.inl rfl | exact Or.inr rfl) (pd_sum rfl T.z_sum (pd_lc (own := [("world", 9)]) (g := (gName 9)) rfl sc__law_rule.nd (cd_list (pd_var 6)) (blkOk_by (own := [("world", 9)]) (N := N__law_rule) (sc := defScope s__law_rule) (by decide +kernel)) (tgt_name (by simp)) (fun _ _ _ _ _ => pg_name (i := 9) sc__law_rule.nd rfl (Or.inl rfl)) (fun _ _ _ _ _ => td_ifs (td_cmp op_gt ok_gt (pd_ix (pd_var 1) (pd_var 9)) (pd_var 7) (nomark _))) (fun _ _ _ _ _ => (pd_shl pd_int (pd_var 9))))))
  (ssd_one (sd_ret (pd_tup (dd_cons (pd_sub (pd_var 4) (pd_var 8)) (dd_cons (pd_band (pd_var 8) (pd_bor (pd_var 5) (pd_call (ok__law_mask T) (hr.mono (by decide)) rfl T.m__law_mask T.F__law_mask.kp T.b__law_mask (ad_cons (pd_var 0) (ad_cons pd_int (ad_cons (pd_var 3) ad_nil)))))) dd_nil))))))))))))))
theorem sc__law_low : FnScope N__law_low P__law_low (defScope s__law_low) := ⟨rfl, rfl, rfl, by decide +kernel, rfl, by decide +kernel, by decide +kernel⟩
theorem ok__law_low (T : Tx K mg) : FnOk P w K mg base L2.CX0 1 T.f__law_low T.d__law_low P__law_low (FSp K F__law_low) := by
  rw [F__law_low_eq]
  exact fn_ok T.F__law_low sc__law_low rfl (by decide) fun cdv A outer s H E hr =>
  (ssd_cons (sd_setLc (i := 2) (own := [("world", 3)]) (g := (gName 3)) rfl sc__law_low.nd rfl rfl (sw_true rfl rfl rfl (by decide +kernel)) (cd_of (ld_range1 rfl T.z_range (ad_cons (pd_len rfl T.z_len (pd_var 0)) ad_nil))) (blkOk_by (own := [("world", 3)]) (N := N__law_low) (sc := defScope s__law_low) (by decide +kernel)) (tgt_name (by simp)) (fun _ _ _ _ _ => pg_name (i := 3) sc__law_low.nd rfl (Or.inl rfl)) (fun _ _ _ _ _ => td_ifs (td_cmp (op_eqA hr.units) ok_eq (pd_band (pd_shr (pd_var 1) (pd_var 3)) pd_int) pd_int (nomark _))) (fun _ _ _ _ _ => (pd_ix (pd_var 0) (pd_var 3))))
  (ssd_one (sd_ret (pd_minD rfl T.z_min (pd_var 2) (pd_neg pd_int)))))
theorem sc__law_due : FnScope N__law_due P__law_due (defScope s__law_due) := ⟨rfl, rfl, rfl, by decide +kernel, rfl, by decide +kernel, by decide +kernel⟩
theorem ok__law_due (T : Tx K mg) : FnOk P w K mg base L2.CX0 2 T.f__law_due T.d__law_due P__law_due (FSp K F__law_due) := by
  rw [F__law_due_eq]
  exact fn_ok T.F__law_due sc__law_due rfl (by decide) fun cdv A outer s H E hr =>
  (ssd_cons (sd_for PassesOwn.never rfl (ld_range1 rfl T.z_range (ad_cons (pd_len rfl T.z_len (pd_var 0)) ad_nil)) (gd_name (i := 2) sc__law_due.nd rfl (by first | exact Or.inl rfl | exact Or.inr rfl))
  (ssd_wipeB [2, 3, 4] (ssd_cons (sd_asg (i := 3) sc__law_due.nd rfl (by first | exact Or.inl rfl | exact Or.inr rfl) (pd_call (ok__law_low T) (hr.mono (by decide)) rfl T.m__law_low T.F__law_low.kp T.b__law_low (ad_cons (pd_var 1) (ad_cons (pd_ix (pd_ix (pd_var 0) (pd_var 2)) pd_int) ad_nil))))
  (ssd_cons (sd_asg (i := 4) sc__law_due.nd rfl (by first | exact Or.inl rfl | exact Or.inr rfl) (pd_call (ok__law_low T) (hr.mono (by decide)) rfl T.m__law_low T.F__law_low.kp T.b__law_low (ad_cons (pd_var 1) (ad_cons (pd_ix (pd_ix (pd_var 0) (pd_var 2)) pd_int) ad_nil))))
  (ssd_one (sd_if (td_w (wd_or (td_cmp op_lt ok_lt (pd_var 3) pd_int (nomark _)) (wd_or1 (td_chain op_le ok_le op_le ok_le pd_int (pd_var 4) (pd_var 3))))) (ssd_one (sd_ret (pd_var 2))) ssd_nil))))))
  (ssd_one (sd_ret (pd_neg pd_int))))
theorem sc__law_right : FnScope N__law_right P__law_right (defScope s__law_right) := ⟨rfl, rfl, rfl, by decide +kernel, rfl, by decide +kernel, by decide +kernel⟩
theorem ok__law_right (T : Tx K mg) : FnOk P w K mg base L2.CX0 4 T.f__law_right T.d__law_right P__law_right (FSp K F__law_right) := by
  rw [F__law_right_eq]
  exact fn_ok T.F__law_right sc__law_right rfl (by decide) fun cdv A outer s H E hr =>
  (ssd_cons (sd_asg (i := 2) sc__law_right.nd rfl (by first | exact Or.inl rfl | exact Or.inr rfl) (pd_call (ok__law_due T) (hr.mono (by decide)) rfl T.m__law_due T.F__law_due.kp T.b__law_due (ad_cons (pd_ix (pd_var 0) pd_int) (ad_cons (pd_var 1) ad_nil))))
  (ssd_cons (sd_asg (i := 3) sc__law_right.nd rfl (by first | exact Or.inl rfl | exact Or.inr rfl) (pd_call (ok_misfit T) (hr.mono (by decide)) rfl T.m_misfit T.F_misfit.kp T.b_misfit (ad_cons (pd_var 0) (ad_cons (pd_tuple rfl T.z_tuple (pd_var 1)) ad_nil))))
  (ssd_cons (sd_if (td_cmp op_lt ok_lt (pd_var 2) pd_int (nomark _)) (ssd_one (sd_ret (pd_cmp op_isN ok_isN (pd_var 3) pd_non (nomark _)))) ssd_nil)
  (ssd_one (sd_ret (pd_and (pd_isi rfl T.z_isinstance rfl T.z_int (by decide +kernel) (pd_var 3)) (pd_and (pd_not (pd_isi rfl T.z_isinstance rfl T.z_bool (by decide +kernel) (pd_var 3))) (pd_one (pd_cmp (op_eqA hr.units) ok_eq (pd_var 3) (pd_var 2) (nomark _))))))))))
theorem sc_law : FnScope N_law P_law (defScope s_law) := ⟨rfl, rfl, rfl, by decide +kernel, rfl, by decide +kernel, by decide +kernel⟩
theorem ok_law (T : Tx K mg) : FnOk P w K mg base L2.CX0 5 T.f_law T.d_law P_law (FSp K F_law) := by
  rw [F_law_eq]
  exact fn_ok T.F_law sc_law rfl (by decide) fun cdv A outer s H E hr =>
  (ssd_cons (sd_asg (i := 1) sc_law.nd rfl (by first | exact Or.inl rfl | exact Or.inr rfl) (pd_call (ok__law_cell_at T) (hr.mono (by decide)) rfl T.m__law_cell_at T.F__law_cell_at.kp T.b__law_cell_at (ad_cons (pd_var 0) (ad_cons pd_int ad_nil))))
  (ssd_cons (sd_asg (i := 2) sc_law.nd rfl (by first | exact Or.inl rfl | exact Or.inr rfl) (pd_add pd_int (pd_mod (pd_call (ok__law_draw T) (hr.mono (by decide)) rfl T.m__law_draw T.F__law_draw.kp T.b__law_draw (ad_cons (pd_var 1) (ad_cons pd_int ad_nil))) pd_int)))
  (ssd_cons (sd_if (td_cmp (op_eqA hr.units) ok_eq (pd_mod (pd_call (ok__law_draw T) (hr.mono (by decide)) rfl T.m__law_draw T.F__law_draw.kp T.b__law_draw (ad_cons (pd_var 1) (ad_cons pd_int ad_nil))) pd_int) pd_int (nomark _)) (ssd_one (sd_asg (i := 2) sc_law.nd rfl (by first | exact Or.inl rfl | exact Or.inr rfl) pd_int)) ssd_nil)
  (ssd_cons (sd_asg (i := 3) sc_law.nd rfl (by first | exact Or.inl rfl | exact Or.inr rfl) (pd_call (ok__law_possible T) (hr.mono (by decide)) rfl T.m__law_possible T.F__law_possible.kp T.b__law_possible (ad_cons (pd_var 1) (ad_cons (pd_var 2) ad_nil))))
  (ssd_cons (sd_asg (i := 4) sc_law.nd rfl (by first | exact Or.inl rfl | exact Or.inr rfl) (pd_mod (pd_call (ok__law_draw T) (hr.mono (by decide)) rfl T.m__law_draw T.F__law_draw.kp T.b__law_draw (ad_cons (pd_var 1) (ad_cons pd_int ad_nil))) pd_int))
  (ssd_cons (sd_setLc (i := 5) (own := [("world", 6)]) (g := (gName 6)) rfl sc_law.nd rfl rfl (sw_true rfl rfl rfl (by decide +kernel)) (cd_of (ld_range1 rfl T.z_range (ad_cons (pd_var 2) ad_nil))) (blkOk_by (own := [("world", 6)]) (N := N_law) (sc := defScope s_law) (by decide +kernel)) (tgt_name (by simp)) (fun _ _ _ _ _ => pg_name (i := 6) sc_law.nd rfl (Or.inl rfl)) (fun _ _ _ _ _ => td_yes) (fun _ _ _ _ _ => pd_non))
  (ssd_cons (sd_for PassesOwn.never rfl (ld_range1 rfl T.z_range (ad_cons (pd_var 2) ad_nil)) (gd_name (i := 6) sc_law.nd rfl (by first | exact Or.inl rfl | exact Or.inr rfl))
  (ssd_wipeB [6] (ssd_one (sd_if (td_cmp (op_eqA hr.units) ok_eq (pd_band (pd_shr (pd_var 3) (pd_var 6)) pd_int) pd_int (nomark _)) (ssd_one (sd_setIx 5 (pv 5) (pd_var 6) (pd_call (ok__law_rank T) (hr.mono (by decide)) rfl T.m__law_rank T.F__law_rank.kp T.b__law_rank (ad_cons (pd_var 1) (ad_cons (pd_add pd_int (pd_mul pd_int (pd_var 6))) (ad_cons (pd_var 4) ad_nil)))) (ps_asg (pd_call (ok__law_rank T) (hr.mono (by decide)) rfl T.m__law_rank T.F__law_rank.kp T.b__law_rank (ad_cons (pd_var 1) (ad_cons (pd_add pd_int (pd_mul pd_int (pd_var 6))) (ad_cons (pd_var 4) ad_nil)))) (pg_sub (pv 5) (pd_var 6) set_list)))) ssd_nil))))
  (ssd_cons (sd_asg (i := 7) sc_law.nd rfl (by first | exact Or.inl rfl | exact Or.inr rfl) (pd_lst dd_nil))
  (ssd_cons (sd_for PassesOwn.never rfl (ld_list (pd_slice (pd_var 0) (od_some pd_int) (od_some pd_int))) (gd_name (i := 8) sc_law.nd rfl (by first | exact Or.inl rfl | exact Or.inr rfl))
  (ssd_wipeB [6, 8] (ssd_cons (sd_asg (i := 6) sc_law.nd rfl (by first | exact Or.inl rfl | exact Or.inr rfl) (pd_mod (pd_call (ok__law_draw T) (hr.mono (by decide)) rfl T.m__law_draw T.F__law_draw.kp T.b__law_draw (ad_cons (pd_var 8) (ad_cons pd_int ad_nil))) (pd_var 2)))
  (ssd_one (sd_if (td_w (wd_and (td_cmp op_lt ok_lt (pd_mod (pd_var 8) pd_int) pd_int (nomark _)) (wd_and1 (td_cmp op_lt ok_lt (pd_len rfl T.z_len (pd_var 7)) pd_int (nomark _))))) (ssd_one (sd_append 7 (pv 7) (pd_call (ok__law_rule T) (hr.mono (by decide)) rfl T.m__law_rule T.F__law_rule.kp T.b__law_rule (ad_cons (pd_var 8) (ad_cons (pd_var 5) (ad_cons (pd_var 3) ad_nil)))) (pe_bm PySem.F.plainAttrs_list PySem.F.slot_list_append PySem.F.type_list_append mt_append (pv 7) (pa_cons (pd_call (ok__law_rule T) (hr.mono (by decide)) rfl T.m__law_rule T.F__law_rule.kp T.b__law_rule (ad_cons (pd_var 8) (ad_cons (pd_var 5) (ad_cons (pd_var 3) ad_nil)))) pa_nil)))) (ssd_one (sd_if (td_cmp op_lt ok_lt (pd_mod (pd_var 8) pd_int) pd_int (nomark _)) (ssd_one (sd_setIx 7 (pv 7) (pd_mod (pd_call (ok__law_draw T) (hr.mono (by decide)) rfl T.m__law_draw T.F__law_draw.kp T.b__law_draw (ad_cons (pd_var 8) (ad_cons pd_int ad_nil))) pd_int) (pd_call (ok__law_rule T) (hr.mono (by decide)) rfl T.m__law_rule T.F__law_rule.kp T.b__law_rule (ad_cons (pd_var 8) (ad_cons (pd_var 5) (ad_cons (pd_var 3) ad_nil)))) (ps_asg (pd_call (ok__law_rule T) (hr.mono (by decide)) rfl T.m__law_rule T.F__law_rule.kp T.b__law_rule (ad_cons (pd_var 8) (ad_cons (pd_var 5) (ad_cons (pd_var 3) ad_nil)))) (pg_sub (pv 7) (pd_mod (pd_call (ok__law_draw T) (hr.mono (by decide)) rfl T.m__law_draw T.F__law_draw.kp T.b__law_draw (ad_cons (pd_var 8) (ad_cons pd_int ad_nil))) pd_int) set_list)))) (ssd_one (sd_if (td_w (wd_and (td_cmp (op_eqA hr.units) ok_eq (pd_mod (pd_var 8) pd_int) pd_int (nomark _)) (wd_and1 (td_cmp (op_eqA hr.units) ok_eq (pd_band (pd_shr (pd_var 3) (pd_var 6)) pd_int) pd_int (nomark _))))) (ssd_one (sd_setIx 5 (pv 5) (pd_var 6) (pd_call (ok__law_rank T) (hr.mono (by decide)) rfl T.m__law_rank T.F__law_rank.kp T.b__law_rank (ad_cons (pd_var 8) (ad_cons pd_int (ad_cons (pd_add pd_int (pd_mod (pd_call (ok__law_draw T) (hr.mono (by decide)) rfl T.m__law_draw T.F__law_draw.kp T.b__law_draw (ad_cons (pd_var 8) (ad_cons pd_int ad_nil))) pd_int)) ad_nil)))) (ps_asg (pd_call (ok__law_rank T) (hr.mono (by decide)) rfl T.m__law_rank T.F__law_rank.kp T.b__law_rank (ad_cons (pd_var 8) (ad_cons pd_int (ad_cons (pd_add pd_int (pd_mod (pd_call (ok__law_draw T) (hr.mono (by decide)) rfl T.m__law_draw T.F__law_draw.kp T.b__law_draw (ad_cons (pd_var 8) (ad_cons pd_int ad_nil))) pd_int)) ad_nil)))) (pg_sub (pv 5) (pd_var 6) set_list)))) (ssd_one (sd_if (td_not (td_val (pd_call (ok__law_right T) (hr.mono (by decide)) rfl T.m__law_right T.F__law_right.kp T.b__law_right (ad_cons (pd_tup (dd_cons (pd_var 2) (dd_cons (pd_var 3) (dd_cons (pd_tuple rfl T.z_tuple (pd_var 7)) dd_nil)))) (ad_cons (pd_var 5) ad_nil))))) (ssd_one (sd_ret pd_bl)) ssd_nil)))))))))))
  (ssd_cons (sd_asg (i := 9) sc_law.nd rfl (by first | exact Or.inl rfl | exact Or.inr rfl) (pd_tup (dd_cons (pd_var 2) (dd_cons (pd_var 3) (dd_cons (pd_tuple rfl T.z_tuple (pd_var 7)) dd_nil)))))
  (ssd_one (sd_ret (pd_and (pd_call (ok__law_right T) (hr.mono (by decide)) rfl T.m__law_right T.F__law_right.kp T.b__law_right (ad_cons (pd_var 9) (ad_cons (pd_var 5) ad_nil))) (pd_one (pd_call (ok__law_right T) (hr.mono (by decide)) rfl T.m__law_right T.F__law_right.kp T.b__law_right (ad_cons (pd_var 9) (ad_cons (pd_var 5) ad_nil)))))))))))))))))
end
theorem all_mk {l : PySem.W.OpenLaw} {w : World} {K : PySem.W.Frag} {h : Heap} {mg : Str → Option Value} {fa f1 f2 f3 f4 f5 f6 f7 f8 f9 f10 f11 f12 f13 : Addr} (X : K.In h) (G : h.Ns mainGlobals mg) (hfa : mg "law" = some (.ref fa))
    {od1 an1 od2 an2 od3 an3 od4 an4 od5 an5 od6 an6 od7 an7 od8 an8 od9 an9 od10 an10 od11 an11 od12 an12 od13 an13 : Option Addr} {sl1 sl2 sl3 sl4 sl5 sl6 sl7 sl8 sl9 sl10 sl11 sl12 sl13 : Array (Option Value)} {oc1 kV1 dc1 pm1 cd1 ct1 oc2 kV2 dc2 pm2 cd2 ct2 oc3 kV3 dc3 pm3 cd3 ct3 oc4 kV4 dc4 pm4 cd4 ct4 oc5 kV5 dc5 pm5 cd5 ct5 oc6 kV6 dc6 pm6 cd6 ct6 oc7 kV7 dc7 pm7 cd7 ct7 oc8 kV8 dc8 pm8 cd8 ct8 oc9 kV9 dc9 pm9 cd9 ct9 oc10 kV10 dc10 pm10 cd10 ct10 oc11 kV11 dc11 pm11 cd11 ct11 oc12 kV12 dc12 pm12 cd12 ct12 oc13 kV13 dc13 pm13 cd13 ct13 : Value}
    (a1 : PySem.W.nsIn K mainGlobals "least" = some (some (.ref f1))) (l1 : K.lookup f1 = some ⟨oc1, od1, .func (PySem.W.fnOf "least" "least" (defArgs s_least) (defBody s_least) (defScope s_least) .none kV1 dc1 pm1 an1 cd1 ct1), sl1⟩) (c1 : PySem.W.codeIn K cd1 "least" = true) (k1 : PySem.W.keepIn K (.ref f1) = true)
    (a2 : PySem.W.nsIn K mainGlobals "fit_for" = some (some (.ref f2))) (l2 : K.lookup f2 = some ⟨oc2, od2, .func (PySem.W.fnOf "fit_for" "fit_for" (defArgs s_fit_for) (defBody s_fit_for) (defScope s_fit_for) .none kV2 dc2 pm2 an2 cd2 ct2), sl2⟩) (c2 : PySem.W.codeIn K cd2 "fit_for" = true) (k2 : PySem.W.keepIn K (.ref f2) = true)
    (a3 : PySem.W.nsIn K mainGlobals "misfit" = some (some (.ref f3))) (l3 : K.lookup f3 = some ⟨oc3, od3, .func (PySem.W.fnOf "misfit" "misfit" (defArgs s_misfit) (defBody s_misfit) (defScope s_misfit) .none kV3 dc3 pm3 an3 cd3 ct3), sl3⟩) (c3 : PySem.W.codeIn K cd3 "misfit" = true) (k3 : PySem.W.keepIn K (.ref f3) = true)
    (a4 : PySem.W.nsIn K mainGlobals "_law_cell_at" = some (some (.ref f4))) (l4 : K.lookup f4 = some ⟨oc4, od4, .func (PySem.W.fnOf "_law_cell_at" "_law_cell_at" (defArgs s__law_cell_at) (defBody s__law_cell_at) (defScope s__law_cell_at) .none kV4 dc4 pm4 an4 cd4 ct4), sl4⟩) (c4 : PySem.W.codeIn K cd4 "_law_cell_at" = true) (k4 : PySem.W.keepIn K (.ref f4) = true)
    (a5 : PySem.W.nsIn K mainGlobals "_law_draw" = some (some (.ref f5))) (l5 : K.lookup f5 = some ⟨oc5, od5, .func (PySem.W.fnOf "_law_draw" "_law_draw" (defArgs s__law_draw) (defBody s__law_draw) (defScope s__law_draw) .none kV5 dc5 pm5 an5 cd5 ct5), sl5⟩) (c5 : PySem.W.codeIn K cd5 "_law_draw" = true) (k5 : PySem.W.keepIn K (.ref f5) = true)
    (a6 : PySem.W.nsIn K mainGlobals "_law_mask" = some (some (.ref f6))) (l6 : K.lookup f6 = some ⟨oc6, od6, .func (PySem.W.fnOf "_law_mask" "_law_mask" (defArgs s__law_mask) (defBody s__law_mask) (defScope s__law_mask) .none kV6 dc6 pm6 an6 cd6 ct6), sl6⟩) (c6 : PySem.W.codeIn K cd6 "_law_mask" = true) (k6 : PySem.W.keepIn K (.ref f6) = true)
    (a7 : PySem.W.nsIn K mainGlobals "_law_possible" = some (some (.ref f7))) (l7 : K.lookup f7 = some ⟨oc7, od7, .func (PySem.W.fnOf "_law_possible" "_law_possible" (defArgs s__law_possible) (defBody s__law_possible) (defScope s__law_possible) .none kV7 dc7 pm7 an7 cd7 ct7), sl7⟩) (c7 : PySem.W.codeIn K cd7 "_law_possible" = true) (k7 : PySem.W.keepIn K (.ref f7) = true)
    (a8 : PySem.W.nsIn K mainGlobals "_law_rank" = some (some (.ref f8))) (l8 : K.lookup f8 = some ⟨oc8, od8, .func (PySem.W.fnOf "_law_rank" "_law_rank" (defArgs s__law_rank) (defBody s__law_rank) (defScope s__law_rank) .none kV8 dc8 pm8 an8 cd8 ct8), sl8⟩) (c8 : PySem.W.codeIn K cd8 "_law_rank" = true) (k8 : PySem.W.keepIn K (.ref f8) = true)
    (a9 : PySem.W.nsIn K mainGlobals "_law_rule" = some (some (.ref f9))) (l9 : K.lookup f9 = some ⟨oc9, od9, .func (PySem.W.fnOf "_law_rule" "_law_rule" (defArgs s__law_rule) (defBody s__law_rule) (defScope s__law_rule) .none kV9 dc9 pm9 an9 cd9 ct9), sl9⟩) (c9 : PySem.W.codeIn K cd9 "_law_rule" = true) (k9 : PySem.W.keepIn K (.ref f9) = true)
    (a10 : PySem.W.nsIn K mainGlobals "_law_low" = some (some (.ref f10))) (l10 : K.lookup f10 = some ⟨oc10, od10, .func (PySem.W.fnOf "_law_low" "_law_low" (defArgs s__law_low) (defBody s__law_low) (defScope s__law_low) .none kV10 dc10 pm10 an10 cd10 ct10), sl10⟩) (c10 : PySem.W.codeIn K cd10 "_law_low" = true) (k10 : PySem.W.keepIn K (.ref f10) = true)
    (a11 : PySem.W.nsIn K mainGlobals "_law_due" = some (some (.ref f11))) (l11 : K.lookup f11 = some ⟨oc11, od11, .func (PySem.W.fnOf "_law_due" "_law_due" (defArgs s__law_due) (defBody s__law_due) (defScope s__law_due) .none kV11 dc11 pm11 an11 cd11 ct11), sl11⟩) (c11 : PySem.W.codeIn K cd11 "_law_due" = true) (k11 : PySem.W.keepIn K (.ref f11) = true)
    (a12 : PySem.W.nsIn K mainGlobals "_law_right" = some (some (.ref f12))) (l12 : K.lookup f12 = some ⟨oc12, od12, .func (PySem.W.fnOf "_law_right" "_law_right" (defArgs s__law_right) (defBody s__law_right) (defScope s__law_right) .none kV12 dc12 pm12 an12 cd12 ct12), sl12⟩) (c12 : PySem.W.codeIn K cd12 "_law_right" = true) (k12 : PySem.W.keepIn K (.ref f12) = true)
    (a13 : PySem.W.nsIn K mainGlobals "law" = some (some (.ref f13))) (l13 : K.lookup f13 = some ⟨oc13, od13, .func (PySem.W.fnOf "law" "law" (defArgs s_law) (defBody s_law) (defScope s_law) .none kV13 dc13 pm13 an13 cd13 ct13), sl13⟩) (c13 : PySem.W.codeIn K cd13 "law" = true) (k13 : PySem.W.keepIn K (.ref f13) = true)
    (z1 : PySem.W.nsIn K mainGlobals "bool" = some none)
    (z2 : PySem.W.nsIn K mainGlobals "enumerate" = some none)
    (z3 : PySem.W.nsIn K mainGlobals "int" = some none)
    (z4 : PySem.W.nsIn K mainGlobals "isinstance" = some none)
    (z5 : PySem.W.nsIn K mainGlobals "len" = some none)
    (z6 : PySem.W.nsIn K mainGlobals "min" = some none)
    (z7 : PySem.W.nsIn K mainGlobals "range" = some none)
    (z8 : PySem.W.nsIn K mainGlobals "sum" = some none)
    (z9 : PySem.W.nsIn K mainGlobals "tuple" = some none) :
    ∃ fd : FuncData, (∀ (s : Shared) (v : Value), BindsTo s fd ⟨[v], []⟩ [("script", v)]) ∧ ∀ base : Heap, K.In base → base.Ns mainGlobals mg → FnOk l.prog w K mg base L2.CX0 5 fa fd ["script"] (spLawD K) := by
  have e := hfa.symm.trans (PySem.W.mg_of X G a13)
  cases e
  have F1 := fun_mk (st := s_least) l1 c1 k1
  have b1 := F1.binds (ps := P_least) fun _ _ _ _ _ _ us hl => match us, hl with | [_, _], _ => rfl
  have F2 := fun_mk (st := s_fit_for) l2 c2 k2
  have b2 := F2.binds (ps := P_fit_for) fun _ _ _ _ _ _ us hl => match us, hl with | [_, _], _ => rfl
  have F3 := fun_mk (st := s_misfit) l3 c3 k3
  have b3 := F3.binds (ps := P_misfit) fun _ _ _ _ _ _ us hl => match us, hl with | [_, _], _ => rfl
  have F4 := fun_mk (st := s__law_cell_at) l4 c4 k4
  have b4 := F4.binds (ps := P__law_cell_at) fun _ _ _ _ _ _ us hl => match us, hl with | [_, _], _ => rfl
  have F5 := fun_mk (st := s__law_draw) l5 c5 k5
  have b5 := F5.binds (ps := P__law_draw) fun _ _ _ _ _ _ us hl => match us, hl with | [_, _], _ => rfl
  have F6 := fun_mk (st := s__law_mask) l6 c6 k6
  have b6 := F6.binds (ps := P__law_mask) fun _ _ _ _ _ _ us hl => match us, hl with | [_, _, _], _ => rfl
  have F7 := fun_mk (st := s__law_possible) l7 c7 k7
  have b7 := F7.binds (ps := P__law_possible) fun _ _ _ _ _ _ us hl => match us, hl with | [_, _], _ => rfl
  have F8 := fun_mk (st := s__law_rank) l8 c8 k8
  have b8 := F8.binds (ps := P__law_rank) fun _ _ _ _ _ _ us hl => match us, hl with | [_, _, _], _ => rfl
  have F9 := fun_mk (st := s__law_rule) l9 c9 k9
  have b9 := F9.binds (ps := P__law_rule) fun _ _ _ _ _ _ us hl => match us, hl with | [_, _, _], _ => rfl
  have F10 := fun_mk (st := s__law_low) l10 c10 k10
  have b10 := F10.binds (ps := P__law_low) fun _ _ _ _ _ _ us hl => match us, hl with | [_, _], _ => rfl
  have F11 := fun_mk (st := s__law_due) l11 c11 k11
  have b11 := F11.binds (ps := P__law_due) fun _ _ _ _ _ _ us hl => match us, hl with | [_, _], _ => rfl
  have F12 := fun_mk (st := s__law_right) l12 c12 k12
  have b12 := F12.binds (ps := P__law_right) fun _ _ _ _ _ _ us hl => match us, hl with | [_, _], _ => rfl
  have F13 := fun_mk (st := s_law) l13 c13 k13
  have b13 := F13.binds (ps := P_law) fun _ _ _ _ _ _ us hl => match us, hl with | [_], _ => rfl
  let T : Tx K mg := ⟨_, _, F1, PySem.W.mg_of X G a1, b1, _, _, F2, PySem.W.mg_of X G a2, b2, _, _, F3, PySem.W.mg_of X G a3, b3, _, _, F4, PySem.W.mg_of X G a4, b4, _, _, F5, PySem.W.mg_of X G a5, b5, _, _, F6, PySem.W.mg_of X G a6, b6, _, _, F7, PySem.W.mg_of X G a7, b7, _, _, F8, PySem.W.mg_of X G a8, b8, _, _, F9, PySem.W.mg_of X G a9, b9, _, _, F10, PySem.W.mg_of X G a10, b10, _, _, F11, PySem.W.mg_of X G a11, b11, _, _, F12, PySem.W.mg_of X G a12, b12, _, _, F13, PySem.W.mg_of X G a13, b13, PySem.W.mg_none_of X G z1, PySem.W.mg_none_of X G z2, PySem.W.mg_none_of X G z3, PySem.W.mg_none_of X G z4, PySem.W.mg_none_of X G z5, PySem.W.mg_none_of X G z6, PySem.W.mg_none_of X G z7, PySem.W.mg_none_of X G z8, PySem.W.mg_none_of X G z9⟩
  exact ⟨PySem.W.fnOf "law" "law" (defArgs s_law) (defBody s_law) (defScope s_law) .none kV13 dc13 pm13 an13 cd13 ct13, fun s v => .of_eq rfl, fun base _ _ => (ok_law (base := base) T).imp fun vs H Q E q => law_of law_true q⟩
theorem walk {l : PySem.W.OpenLaw} {q : Program} {loose : List Str} {XP : (Str → Option Value) → Heap → Prop} {YP : World → Heap → Prop} {d : DefRec} {K : Params → PySem.W.Frag} (hn : l.most = some 63) (hdf : d.params.defaults = [])
    (hY : ∀ (w : World) (h : Heap), YP w h → (K w.params).In h)
    (F : ∀ (w : World) (mg : Str → Option Value) (fa : Addr) (h : Heap), (K w.params).In h → h.Ns mainGlobals mg → mg d.name = some (.ref fa) →
      ∃ fd : FuncData, (∀ (s : Shared) (u : Value), BindsTo s fd ⟨[u], []⟩ [("script", u)]) ∧ ∀ base : Heap, (K w.params).In base → base.Ns mainGlobals mg → FnOk l.prog w (K w.params) mg base L2.CX0 5 fa fd ["script"] (spLawD (K w.params))) :
    PySem.W.WalkO q loose XP YP l.row.toRowW d [] (fun f vs => PySem.call f vs) :=
  L2.walk_of (n := 63) (k := 5) (x := "script") (CX := fun _ => L2.CX0) (sp := fun w => spLawD (K w.params)) hn (by decide) hdf ⟨rfl, by decide, by decide⟩ hY F (fun _ _ a ns hl _ hS => ⟨a, ns, rfl, hS, hl, fun _ => rfl⟩) fun _ _ _ _ _ z => z
end La
open PySem PySem.W PyProof.Rows
set_option maxRecDepth 100000 in
set_option maxHeartbeats 0 in
theorem PySem.Challenge.cw_wontbook_k21_misfit_holds : PySem.Challenge.rw_wontbook_k21_misfit.Holds := by
  w_on; o_law; k_head; (case hw => w_witness2)
  k_fill
  refine La.walk (l := PySem.Challenge.rw_wontbook_k21_misfit) rfl rfl (fun w h Y => PySem.W.kIn_of Y) ?F
  case F =>
    intro w mg fa h KX G hmg
    refine' La.all_mk KX G hmg ?a1 ?l1 ?c1 ?k1 ?a2 ?l2 ?c2 ?k2 ?a3 ?l3 ?c3 ?k3 ?a4 ?l4 ?c4 ?k4 ?a5 ?l5 ?c5 ?k5 ?a6 ?l6 ?c6 ?k6 ?a7 ?l7 ?c7 ?k7 ?a8 ?l8 ?c8 ?k8 ?a9 ?l9 ?c9 ?k9 ?a10 ?l10 ?c10 ?k10 ?a11 ?l11 ?c11 ?k11 ?a12 ?l12 ?c12 ?k12 ?a13 ?l13 ?c13 ?k13 ?z1 ?z2 ?z3 ?z4 ?z5 ?z6 ?z7 ?z8 ?z9
    (case a1 => k_is); (case l1 => k_is); (case c1 => k_is); (case k1 => k_is)
    (case a2 => k_is); (case l2 => k_is); (case c2 => k_is); (case k2 => k_is)
    (case a3 => k_is); (case l3 => k_is); (case c3 => k_is); (case k3 => k_is)
    (case a4 => k_is); (case l4 => k_is); (case c4 => k_is); (case k4 => k_is)
    (case a5 => k_is); (case l5 => k_is); (case c5 => k_is); (case k5 => k_is)
    (case a6 => k_is); (case l6 => k_is); (case c6 => k_is); (case k6 => k_is)
    (case a7 => k_is); (case l7 => k_is); (case c7 => k_is); (case k7 => k_is)
    (case a8 => k_is); (case l8 => k_is); (case c8 => k_is); (case k8 => k_is)
    (case a9 => k_is); (case l9 => k_is); (case c9 => k_is); (case k9 => k_is)
    (case a10 => k_is); (case l10 => k_is); (case c10 => k_is); (case k10 => k_is)
    (case a11 => k_is); (case l11 => k_is); (case c11 => k_is); (case k11 => k_is)
    (case a12 => k_is); (case l12 => k_is); (case c12 => k_is); (case k12 => k_is)
    (case a13 => k_is); (case l13 => k_is); (case c13 => k_is); (case k13 => k_is)
    (case z1 => k_is); (case z2 => k_is); (case z3 => k_is); (case z4 => k_is); (case z5 => k_is); (case z6 => k_is); (case z7 => k_is); (case z8 => k_is); (case z9 => k_is)
