import PyProof.Rows.All
import Wide.All
import OpenK.AllK
import Wide.FinOn
import HandS.ForMost
import HandS.Walk
import HandS.Deep
import HandS.TupAny
import HandS.Wide
import HandS.WideBits
import HandS.IsInst
import KE.GoesMore
import HandS.Zip
import HandS.Conv
import HandS.Exc
import KE.BitLaws
import HandS.List
import HandS.Iter
import KE.KMinBuiltin
import PyProof.MinMaxWalk
import HandS.SortKw
import HandS.Dict
import HandS.WordsDict
import HandS.SortRule
import HandS.SortInts
import HandS.RevTup
import HandS.Rev
import PyProof.ListRange
import PyProof.Rows.SeqMore
import HandS.Zip0
import HandS.WordsExc
import HandS.ExcIs
import HandS.TryOnly
import HandS.SetFor
import HandS.Style
import HandS.StrMore
import HandS.More
import HandS.Strs
import HandS.Defaults
import PySem.Challenge.RW_wontbook_k01_a_sentence
set_option Elab.async false
set_option linter.all false
set_option maxRecDepth 100000
set_option maxHeartbeats 1000000
/-! DL1: slots as pure data, the relation to the abstract heap, the readings ER, TR, SR. -/
namespace DL
open PySem PySem.Spec PyProof.Rows L2
abbrev D := PyData
/-- what a slot holds -/
inductive Sl where
  | un
  | pl (d : D)
  | own (ds : List D)
  | brw (ds : List D)
  | dic (kvs : List (Key × D))
  | bdc (kvs : List (Key × D))
  /-- an instance of one's own: its address where it is known, its class, its attributes -/
  | obj (a : Option Addr) (c : Str) (fs : List (Str × Sl))
  | bob (c : Str) (fs : List (Str × Sl))
  /-- the exception that an except suite holds -/
  | exc (a : Addr)
  /-- a tuple that is known to its object -/
  | tk (ds : List D)
  /-- a list (true) or a tuple whose first item is such a tuple, the others data -/
  | kq (l : Bool) (ds r : List D)
  /-- a list of one's own whose address is known (one that was handed) -/
  | lno (a : Addr) (ds : List D)
abbrev SEnv := List Sl
/-- what a name of the module stands for, by the written part -/
def clsOf (K : PySem.W.Frag) (c : Str) : Value := match PySem.W.nsIn K mainGlobals c with
  | some (some v) => v
  | _ => .none
def KVD (K : PySem.W.Frag) (Z : Hp) : List (Key × V) → List (Key × D) → Prop := Paired fun (p : Key × V) (q : Key × D) => p.1 = q.1 ∧ Dp K Z p.2 q.2
section
variable {K : PySem.W.Frag}
theorem sqT_mono {H H' : Hp} {a : Addr} {xs : List V} (e : Same H H') (h : SqT K H a xs) : SqT K H' a xs := by
  rcases h with (h | ⟨o, h⟩) | h
  · exact .inl (.inl (e _ _ h))
  · exact .inl (.inr ⟨o, e _ _ h⟩)
  · exact .inr h
mutual
theorem Dp_mono {Z Z' : Hp} (e : Same Z Z') : ∀ (d : D) (v : V), Dp K Z v d → Dp K Z' v d
  | .none, _, h => by cases h; exact .non
  | .bool _, _, h => by cases h; exact .bl _
  | .int _, _, h => by cases h; exact .int _
  | .str _, _, h => by cases h; exact .str _
  | .list ds, _, h => by cases h with | lst q r => exact .lst (e.seq q) (DpAll_mono e ds _ r)
  | .tuple ds, _, h => by cases h with | tup q r => exact .tup (sqT_mono e q) (DpAll_mono e ds _ r)
  | .dict _, _, h => by cases h
theorem DpAll_mono {Z Z' : Hp} (e : Same Z Z') : ∀ (ds : List D) (vs : List V), DpAll K Z vs ds → DpAll K Z' vs ds
  | [], _, h => by cases h; exact .nil
  | d :: ds, _, h => by cases h with | cons q r => exact .cons (Dp_mono e d _ q) (DpAll_mono e ds _ r)
end
theorem KVD_mono {Z Z' : Hp} (e : Same Z Z') : ∀ {vs : List (Key × V)} {kvs : List (Key × D)}, KVD K Z vs kvs → KVD K Z' vs kvs
  | _, _, .nil => .nil
  | _, _, .cons r t => .cons ⟨r.1, Dp_mono e _ _ r.2⟩ (KVD_mono e t)
theorem DpAll_length {Z : Hp} : ∀ {vs : List V} {ds : List D}, DpAll K Z vs ds → vs.length = ds.length
  | _, _, .nil => rfl
  | _, _, .cons _ t => congrArg (· + 1) (DpAll_length t)
theorem DpAll_get {Z : Hp} : ∀ {vs : List V} {ds : List D} {i : Nat} {d : D}, DpAll K Z vs ds → ds[i]? = some d → ∃ v, vs[i]? = some v ∧ Dp K Z v d
  | _, _, _, _, .nil, e => by simp at e
  | _, _, 0, _, .cons r _, e => by simp at e; subst e; exact ⟨_, rfl, r⟩
  | _, _, i + 1, d, .cons _ t, e => by
    obtain ⟨u, h1, h2⟩ := DpAll_get (i := i) (d := d) t (by simpa using e)
    exact ⟨u, by simpa using h1, h2⟩
theorem DpAll_get' {Z : Hp} : ∀ {vs : List V} {ds : List D} {i : Nat} {v : V}, DpAll K Z vs ds → vs[i]? = some v → ∃ d, ds[i]? = some d ∧ Dp K Z v d
  | _, _, _, _, .nil, e => by simp at e
  | _, _, 0, _, .cons r _, e => by simp at e; subst e; exact ⟨_, rfl, r⟩
  | _, _, i + 1, d, .cons _ t, e => by
    obtain ⟨u, h1, h2⟩ := DpAll_get' (i := i) (v := d) t (by simpa using e)
    exact ⟨u, by simpa using h1, h2⟩
theorem DpAll_append {Z : Hp} : ∀ {vs ws : List V} {ds es : List D}, DpAll K Z vs ds → DpAll K Z ws es → DpAll K Z (vs ++ ws) (ds ++ es)
  | _, _, _, _, .nil, s => s
  | _, _, _, _, .cons r t, s => .cons r (DpAll_append t s)
theorem DpAll_take {Z : Hp} : ∀ {vs : List V} {ds : List D} (n : Nat), DpAll K Z vs ds → DpAll K Z (vs.take n) (ds.take n)
  | _, _, 0, _ => .nil
  | _, _, _ + 1, .nil => .nil
  | _, _, n + 1, .cons r t => .cons r (DpAll_take n t)
theorem DpAll_drop {Z : Hp} : ∀ {vs : List V} {ds : List D} (n : Nat), DpAll K Z vs ds → DpAll K Z (vs.drop n) (ds.drop n)
  | _, _, 0, r => r
  | _, _, _ + 1, .nil => .nil
  | _, _, n + 1, .cons r t => DpAll_drop n t
theorem DpAll_set {Z : Hp} {v : V} {d : D} (r : Dp K Z v d) : ∀ {vs : List V} {ds : List D} (i : Nat), DpAll K Z vs ds → DpAll K Z (vs.set i v) (ds.set i d)
  | _, _, _, .nil => .nil
  | _, _, 0, .cons _ t => .cons r t
  | _, _, i + 1, .cons q t => .cons q (DpAll_set r i t)
theorem DpAll_dropLast {Z : Hp} {vs : List V} {ds : List D} (r : DpAll K Z vs ds) : DpAll K Z vs.dropLast ds.dropLast := by
  rw [List.dropLast_eq_take, List.dropLast_eq_take, DpAll_length r]
  exact DpAll_take _ r
theorem DpAll_erase {Z : Hp} : ∀ {vs : List V} {ds : List D} (i : Nat), DpAll K Z vs ds → DpAll K Z (vs.eraseIdx i) (ds.eraseIdx i)
  | _, _, _, .nil => .nil
  | _, _, 0, .cons _ t => t
  | _, _, i + 1, .cons q t => .cons q (DpAll_erase i t)
theorem DpAll_reverse {Z : Hp} : ∀ {vs : List V} {ds : List D}, DpAll K Z vs ds → DpAll K Z vs.reverse ds.reverse
  | _, _, .nil => .nil
  | _, _, .cons r t => by
    rw [List.reverse_cons, List.reverse_cons]
    exact DpAll_append (DpAll_reverse t) (.cons r .nil)

/-- a tuple of its own object, which has no dict -/
def TupK (K : PySem.W.Frag) (Z : Hp) (p : Addr) (ds : List D) : Prop := ∃ (o : Obj) (vs : List V), Z p = some (.frz o (.tup vs)) ∧ o.cls = .type "tuple" ∧ o.dict = none ∧ DpAll K Z vs ds
theorem TupK.mono {Z Z' : Hp} {p : Addr} {ds : List D} (e : Same Z Z') (h : TupK K Z p ds) : TupK K Z' p ds := by
  obtain ⟨o, vs, h1, h2, h3, h4⟩ := h
  exact ⟨o, vs, e _ _ h1, h2, h3, DpAll_mono e _ _ h4⟩

def KqOk (K : PySem.W.Frag) (Z : Hp) (l : Bool) (p : Addr) (ds r : List D) : Prop := ∃ (q : Addr) (vs : List V), (if l then SqL K Z p (.ref q :: vs) else SqT K Z p (.ref q :: vs)) ∧ TupK K Z q ds ∧ DpAll K Z vs r
theorem KqOk.mono {Z Z' : Hp} {l : Bool} {p : Addr} {ds r : List D} (e : Same Z Z') (h : KqOk K Z l p ds r) : KqOk K Z' l p ds r := by
  obtain ⟨q, vs, h1, h2, h3⟩ := h
  refine ⟨q, vs, ?_, h2.mono e, DpAll_mono e _ _ h3⟩
  cases l
  · exact sqT_mono e h1
  · exact e.seq h1

mutual
def slR (K : PySem.W.Frag) (B Z H : Hp) : Sl → Option V → List Addr → Prop
  | .un, _, fp => fp = []
  | .pl d, v, fp => fp = [] ∧ ∃ x, v = some x ∧ Dp K Z x d
  | .own ds, v, fp => ∃ p vs, fp = [p] ∧ v = some (.ref p) ∧ H p = some (.lst vs) ∧ DpAll K Z vs ds
  | .brw ds, v, fp => fp = [] ∧ ∃ p vs, v = some (.ref p) ∧ B p = some (.lst vs) ∧ DpAll K Z vs ds
  | .dic kvs, v, fp => ∃ p vs, fp = [p] ∧ v = some (.ref p) ∧ H p = some (.dK vs) ∧ KVD K Z vs kvs
  | .bdc kvs, v, fp => fp = [] ∧ ∃ p vs, v = some (.ref p) ∧ B p = some (.dK vs) ∧ KVD K Z vs kvs
  | .obj a c fs, v, fp => ∃ p C dx vs fq, fp = p :: fq ∧ v = some (.ref p) ∧ (∀ q, a = some q → q = p) ∧ clsOf K c = .ref C ∧ H p = some (.ins C dx vs) ∧ p ∉ fq ∧ fsR K B Z H fs vs fq
  | .bob c fs, v, fp => fp = [] ∧ ∃ p C dx vs fq, v = some (.ref p) ∧ clsOf K c = .ref C ∧ B p = some (.ins C dx vs) ∧ fsR K B Z B fs vs fq
  | .exc a, v, fp => fp = [] ∧ v = some (.ref a)
  | .tk ds, v, fp => fp = [] ∧ ∃ p, v = some (.ref p) ∧ TupK K Z p ds
  | .kq l ds r, v, fp => fp = [] ∧ ∃ p, v = some (.ref p) ∧ KqOk K Z l p ds r
  | .lno a ds, v, fp => ∃ vs, fp = [a] ∧ v = some (.ref a) ∧ H a = some (.lst vs) ∧ DpAll K Z vs ds
def fsR (K : PySem.W.Frag) (B Z H : Hp) : List (Str × Sl) → List (Str × V) → List Addr → Prop
  | [], vs, fp => vs = [] ∧ fp = []
  | (n, s) :: r, vs, fp => ∃ v ws a b, vs = (n, v) :: ws ∧ fp = a ++ b ∧ (∀ x ∈ a, x ∉ b) ∧ slR K B Z H s (some v) a ∧ fsR K B Z H r ws b
end
mutual
theorem slR.live {K : PySem.W.Frag} {B Z H : Hp} : ∀ {s : Sl} {v : Option V} {fp : List Addr}, slR K B Z H s v fp → ∀ a ∈ fp, H a ≠ none
  | .un, _, _, h, a, ha => by rw [show _ = [] from h] at ha; cases ha
  | .pl d, _, _, h, a, ha => by rw [h.1] at ha; cases ha
  | .own ds, _, _, h, a, ha => by
    obtain ⟨p, vs, e, hx, hp, hd⟩ := h
    rw [e] at ha
    have := List.mem_singleton.mp ha
    subst this
    rw [hp]
    intro z
    cases z
  | .brw ds, _, _, h, a, ha => by rw [h.1] at ha; cases ha
  | .dic kvs, _, _, h, a, ha => by
    obtain ⟨p, vs, e, hx, hp, hd⟩ := h
    rw [e] at ha
    have := List.mem_singleton.mp ha
    subst this
    rw [hp]
    intro z
    cases z
  | .bdc kvs, _, _, h, a, ha => by rw [h.1] at ha; cases ha
  | .obj _ c fs, _, _, h, a, ha => by
    obtain ⟨p, C, dx, vs, fq, e, hx, hq, hc, hp, hn, hf⟩ := h
    rw [e] at ha
    rcases List.mem_cons.mp ha with z | z
    · rw [z, hp]
      intro z
      cases z
    · exact fsR.live hf a z
  | .bob c fs, _, _, h, a, ha => by rw [h.1] at ha; cases ha
  | .exc _, _, _, h, a, ha => by rw [h.1] at ha; cases ha
  | .tk _, _, _, h, a, ha => by rw [h.1] at ha; cases ha
  | .kq _ _ _, _, _, h, a, ha => by rw [h.1] at ha; cases ha
  | .lno _ ds, _, _, h, a, ha => by
    obtain ⟨vs, e, hx, hp, hd⟩ := h
    rw [e] at ha
    have := List.mem_singleton.mp ha
    subst this
    rw [hp]
    intro z
    cases z
theorem fsR.live {K : PySem.W.Frag} {B Z H : Hp} : ∀ {fs : List (Str × Sl)} {vs : List (Str × V)} {fp : List Addr}, fsR K B Z H fs vs fp → ∀ a ∈ fp, H a ≠ none
  | [], _, _, h, a, ha => by rw [h.2] at ha; cases ha
  | (n, s) :: r, _, _, h, a, ha => by
    obtain ⟨v, ws, x, y, _, e, _, h1, h2⟩ := h
    rw [e] at ha
    rcases List.mem_append.mp ha with z | z
    · exact slR.live h1 a z
    · exact fsR.live h2 a z
end
mutual
theorem slR.mono {K : PySem.W.Frag} : ∀ {s : Sl} {B B' Z Z' H H' : Hp} {v : Option V} {fp : List Addr}, slR K B Z H s v fp → Same B B' → Same Z Z' → (∀ a ∈ fp, H' a = H a) → slR K B' Z' H' s v fp
  | .un, _, _, _, _, _, _, _, _, h, _, _, _ => h
  | .pl d, _, _, _, _, _, _, _, _, ⟨e, x, hx, hd⟩, _, hZ, _ => ⟨e, x, hx, Dp_mono hZ _ _ hd⟩
  | .own ds, _, _, _, _, _, _, _, _, h, _, hZ, hH => by
    obtain ⟨p, vs, e, hx, hp, hd⟩ := h
    subst e
    exact ⟨p, vs, rfl, hx, (hH p (by simp)).trans hp, DpAll_mono hZ _ _ hd⟩
  | .brw ds, _, _, _, _, _, _, _, _, ⟨e, p, vs, hx, hp, hd⟩, hB, hZ, _ => ⟨e, p, vs, hx, hB _ _ hp, DpAll_mono hZ _ _ hd⟩
  | .dic kvs, _, _, _, _, _, _, _, _, h, _, hZ, hH => by
    obtain ⟨p, vs, e, hx, hp, hd⟩ := h
    subst e
    exact ⟨p, vs, rfl, hx, (hH p (by simp)).trans hp, KVD_mono hZ hd⟩
  | .bdc kvs, _, _, _, _, _, _, _, _, ⟨e, p, vs, hx, hp, hd⟩, hB, hZ, _ => ⟨e, p, vs, hx, hB _ _ hp, KVD_mono hZ hd⟩
  | .obj _ c fs, _, _, _, _, _, _, _, _, h, hB, hZ, hH => by
    obtain ⟨p, C, dx, vs, fq, e, hx, hq, hc, hp, hn, hf⟩ := h
    subst e
    exact ⟨p, C, dx, vs, fq, rfl, hx, hq, hc, (hH p (by simp)).trans hp, hn, fsR.mono hf hB hZ fun a ha => hH a (List.mem_cons_of_mem _ ha)⟩
  | .bob c fs, B, B', _, _, _, _, _, _, h, hB, hZ, _ => by
    obtain ⟨e, p, C, dx, vs, fq, hx, hc, hp, hf⟩ := h
    refine ⟨e, p, C, dx, vs, fq, hx, hc, hB _ _ hp, fsR.mono hf hB hZ fun a ha => ?_⟩
    have hl := fsR.live hf a ha
    cases q : B a with
    | none => exact absurd q hl
    | some o => exact hB a o q
  | .exc _, _, _, _, _, _, _, _, _, h, _, _, _ => h
  | .tk _, _, _, _, _, _, _, _, _, ⟨e, p, hx, ht⟩, _, hZ, _ => ⟨e, p, hx, ht.mono hZ⟩
  | .kq _ _ _, _, _, _, _, _, _, _, _, ⟨e, p, hx, ht⟩, _, hZ, _ => ⟨e, p, hx, ht.mono hZ⟩
  | .lno a ds, _, _, _, _, _, _, _, _, h, _, hZ, hH => by
    obtain ⟨vs, e, hx, hp, hd⟩ := h
    subst e
    exact ⟨vs, rfl, hx, (hH a (by simp)).trans hp, DpAll_mono hZ _ _ hd⟩
theorem fsR.mono {K : PySem.W.Frag} : ∀ {fs : List (Str × Sl)} {B B' Z Z' H H' : Hp} {vs : List (Str × V)} {fp : List Addr}, fsR K B Z H fs vs fp → Same B B' → Same Z Z' → (∀ a ∈ fp, H' a = H a) → fsR K B' Z' H' fs vs fp
  | [], _, _, _, _, _, _, _, _, h, _, _, _ => h
  | (n, s) :: r, _, _, _, _, _, _, _, _, h, hB, hZ, hH => by
    obtain ⟨v, ws, x, y, e1, e, hd, h1, h2⟩ := h
    refine ⟨v, ws, x, y, e1, e, hd, slR.mono h1 hB hZ fun a ha => hH a ?_, fsR.mono h2 hB hZ fun a ha => hH a ?_⟩
    · rw [e]; exact List.mem_append_left _ ha
    · rw [e]; exact List.mem_append_right _ ha
end

mutual
/-- nothing borrowed stands in it -/
def ownS : Sl → Bool
  | .brw _ => false
  | .bdc _ => false
  | .bob _ _ => false
  | .obj _ _ fs => ownFs fs
  | _ => true
def ownFs : List (Str × Sl) → Bool
  | [] => true
  | (_, s) :: r => ownS s && ownFs r
end
mutual
theorem slR.anyB {K : PySem.W.Frag} {B B' Z H : Hp} : ∀ {s : Sl} {v : Option V} {fp : List Addr}, ownS s = true → slR K B Z H s v fp → slR K B' Z H s v fp
  | .un, _, _, _, h => h
  | .pl d, _, _, _, h => h
  | .own ds, _, _, _, h => h
  | .brw ds, _, _, o, _ => by cases o
  | .dic kvs, _, _, _, h => h
  | .bdc kvs, _, _, o, _ => by cases o
  | .obj _ c fs, _, _, o, ⟨p, C, dx, vs, fq, e, hx, hq, hc, hp, hn, hf⟩ => ⟨p, C, dx, vs, fq, e, hx, hq, hc, hp, hn, fsR.anyB (show ownFs fs = true from o) hf⟩
  | .bob c fs, _, _, o, _ => by cases o
  | .exc _, _, _, _, h => h
  | .tk _, _, _, _, h => h
  | .kq _ _ _, _, _, _, h => h
  | .lno _ _, _, _, _, h => h
theorem fsR.anyB {K : PySem.W.Frag} {B B' Z H : Hp} : ∀ {fs : List (Str × Sl)} {vs : List (Str × V)} {fp : List Addr}, ownFs fs = true → fsR K B Z H fs vs fp → fsR K B' Z H fs vs fp
  | [], _, _, _, h => h
  | (n, s) :: r, _, _, o, ⟨v, ws, x, y, e1, e, hd, h1, h2⟩ => by
    have o2 : (ownS s && ownFs r) = true := o
    rw [Bool.and_eq_true] at o2
    exact ⟨v, ws, x, y, e1, e, hd, slR.anyB o2.1 h1, fsR.anyB o2.2 h2⟩
end
/-- from B, Z on: B stands, Z has grown at what B does not know -/
structure StepB (B Z Z' H' : Hp) : Prop where
  bh : Same B H'
  zz : Same Z Z'
  zh : Same Z' H'
  gr : ∀ p, Z' p ≠ none → Z p ≠ none ∨ B p = none
abbrev Step (Z H Z' H' : Hp) : Prop := StepB H Z Z' H'
theorem Step.refl {Z H : Hp} (h : Same Z H) : Step Z H Z H := ⟨Same.refl H, Same.refl Z, h, fun _ q => .inl q⟩
theorem none_back {H H' : Hp} (e : Same H H') {p : Addr} (h : H' p = none) : H p = none := e.free h
theorem ne_none_fwd {H H' : Hp} (e : Same H H') {p : Addr} (h : H p ≠ none) : H' p ≠ none := fun z => h (none_back e z)
theorem StepB.trans {B Z Z1 H1 Z2 H2 : Hp} (a : StepB B Z Z1 H1) (b : Step Z1 H1 Z2 H2) : StepB B Z Z2 H2 :=
  ⟨a.bh.trans b.bh, a.zz.trans b.zz, b.zh, fun p q => by
    rcases b.gr p q with z | z
    · exact a.gr p z
    · exact .inr (none_back a.bh z)⟩
theorem Step.newZ {Z H : Hp} (h : Same Z H) {p : Addr} {o : HO} (hp : H p = none) : Step Z H (upd Z p o) (upd H p o) := by
  have hz := none_back h hp
  refine ⟨fun b u e => ?_, fun b u e => ?_, fun b u e => ?_, fun b q => ?_⟩
  · rw [upd_ne (ne_of_none e hp)]; exact e
  · rw [upd_ne (ne_of_none e hz)]; exact e
  · by_cases c : b = p
    · subst c; rw [upd_same] at e ⊢; exact e
    · rw [upd_ne c] at e ⊢; exact h _ _ e
  · by_cases c : b = p
    · subst c; exact .inr hp
    · rw [upd_ne c] at q; exact .inl q
theorem Step.newH {Z H : Hp} (h : Same Z H) {p : Addr} {o : HO} (hp : H p = none) : Step Z H Z (upd H p o) := by
  have hz := none_back h hp
  refine ⟨fun b u e => ?_, Same.refl Z, fun b u e => ?_, fun b q => .inl q⟩
  · rw [upd_ne (ne_of_none e hp)]; exact e
  · rw [upd_ne (ne_of_none e hz)]; exact h _ _ e
/-- a list that H0 did not know is frozen -/
theorem StepB.freeze {B Z Z1 H1 : Hp} (a : StepB B Z Z1 H1) {p : Addr} {o : HO} (h1 : H1 p = some o) (hb : B p = none) (hz : Z1 p = none) : StepB B Z (upd Z1 p o) H1 := by
  refine ⟨a.bh, fun b u e => ?_, fun b u e => ?_, fun b q => ?_⟩
  · have e1 := a.zz b u e
    rw [upd_ne (ne_of_none e1 hz)]; exact e1
  · by_cases c : b = p
    · subst c; rw [upd_same] at e; rw [h1]; exact e
    · rw [upd_ne c] at e; exact a.zh _ _ e
  · by_cases c : b = p
    · subst c; exact .inr hb
    · rw [upd_ne c] at q; exact a.gr b q

def look (σ : L2.St) (i : Nat) : Option V := (σ[i]?).getD none
theorem look_some {σ : L2.St} {i : Nat} {v : V} (h : look σ i = some v) : σ[i]? = some (some v) := by
  unfold look at h
  cases e : σ[i]? with
  | none => rw [e] at h; cases h
  | some o => rw [e] at h; rw [show o = some v from h]
theorem look_set_same {σ : L2.St} {i : Nat} {o : Option V} (h : i < σ.length) : look (σ.set i o) i = o := by
  unfold look; rw [List.getElem?_set_self h]; rfl
theorem look_set_ne {σ : L2.St} {i j : Nat} {o : Option V} (h : i ≠ j) : look (σ.set i o) j = look σ j := by
  unfold look; rw [List.getElem?_set_ne h]
/-- the slot's word; un where there is none -/
def get : SEnv → Nat → Sl
  | [], _ => .un
  | s :: _, 0 => s
  | _ :: r, n + 1 => get r n
@[simp] theorem get_zero (s : Sl) (r : SEnv) : get (s :: r) 0 = s := rfl
@[simp] theorem get_succ (s : Sl) (r : SEnv) (n : Nat) : get (s :: r) (n + 1) = get r n := rfl
theorem get_of : ∀ (ρ : SEnv) (i : Nat), i < ρ.length → ρ[i]? = some (get ρ i)
  | [], _, h => by simp at h
  | s :: r, 0, _ => by simp
  | s :: r, n + 1, h => by
    have := get_of r n (by simpa using h)
    simpa using this
theorem get_out : ∀ (ρ : SEnv) (i : Nat), ρ.length ≤ i → get ρ i = .un
  | [], _, _ => rfl
  | s :: r, 0, h => by simp at h
  | s :: r, n + 1, h => get_out r n (by simpa using h)
def put : SEnv → Nat → Sl → SEnv
  | [], _, _ => []
  | _ :: r, 0, t => t :: r
  | s :: r, n + 1, t => s :: put r n t
@[simp] theorem put_zero (s : Sl) (r : SEnv) (t : Sl) : put (s :: r) 0 t = t :: r := rfl
@[simp] theorem put_succ (s : Sl) (r : SEnv) (n : Nat) (t : Sl) : put (s :: r) (n + 1) t = s :: put r n t := rfl
theorem put_length : ∀ (ρ : SEnv) (i : Nat) (t : Sl), (put ρ i t).length = ρ.length
  | [], _, _ => rfl
  | _ :: _, 0, _ => rfl
  | _ :: r, n + 1, t => by simp [put_length r n t]
theorem get_put_same : ∀ (ρ : SEnv) (i : Nat) (t : Sl), i < ρ.length → get (put ρ i t) i = t
  | [], _, _, h => by simp at h
  | _ :: _, 0, _, _ => rfl
  | _ :: r, n + 1, t, h => by simpa using get_put_same r n t (by simpa using h)
theorem get_put_ne : ∀ (ρ : SEnv) (i j : Nat) (t : Sl), i ≠ j → get (put ρ i t) j = get ρ j
  | [], _, _, _, _ => rfl
  | _ :: _, 0, 0, _, h => absurd rfl h
  | _ :: _, 0, _ + 1, _, _ => rfl
  | _ :: _, _ + 1, 0, _, _ => rfl
  | _ :: r, n + 1, m + 1, t, h => by simpa using get_put_ne r n m t (fun e => h (by rw [e]))

structure St (K : PySem.W.Frag) (B Z0 Z H : Hp) (σ : L2.St) (ρ : SEnv) : Prop where
  st : StepB B Z0 Z H
  len : σ.length = ρ.length
  sl : ∃ fp : Nat → List Addr, (∀ i, slR K B Z H (get ρ i) (look σ i) (fp i)) ∧ (∀ i j a, i ≠ j → a ∈ fp i → ¬ a ∈ fp j) ∧ ∀ i a, a ∈ fp i → B a = none ∧ Z a = none
theorem St.step {B Z0 Z H Z' H' : Hp} {σ : L2.St} {ρ : SEnv} (s : St K B Z0 Z H σ ρ) (k : Step Z H Z' H') : St K B Z0 Z' H' σ ρ := by
  obtain ⟨st, len, fp, h1, h2, h3⟩ := s
  refine ⟨st.trans k, len, fp, fun i => (h1 i).mono (Same.refl B) k.zz fun a ha => ?_, h2, fun i a ha => ⟨(h3 i a ha).1, ?_⟩⟩
  · cases q : H a with
    | none => exact absurd q ((h1 i).live a ha)
    | some o => exact k.bh a o q
  · cases q : Z' a with
    | none => rfl
    | some o =>
      rcases k.gr a (by rw [q]; intro z; cases z) with z | z
      · exact absurd (h3 i a ha).2 z
      · exact absurd z ((h1 i).live a ha)
/-- a footprint more -/
def sw (fp : Nat → List Addr) (i : Nat) (l : List Addr) : Nat → List Addr := fun j => if j = i then l else fp j
theorem sw_same (fp : Nat → List Addr) (i : Nat) (l : List Addr) : sw fp i l i = l := if_pos rfl
theorem sw_ne (fp : Nat → List Addr) {i j : Nat} (l : List Addr) (h : j ≠ i) : sw fp i l j = fp j := if_neg h
theorem put_out : ∀ (ρ : SEnv) (i : Nat) (s : Sl), ρ.length ≤ i → put ρ i s = ρ
  | [], _, _, _ => rfl
  | _ :: _, 0, _, h => by simp at h
  | s :: r, n + 1, t, h => by rw [put_succ, put_out r n t (by simpa using h)]
theorem St.sets {B Z0 Z H : Hp} {σ : L2.St} {ρ : SEnv} {i : Nat} {s : Sl} {o : Option V} {fpn : List Addr} {fp : Nat → List Addr} (st : StepB B Z0 Z H) (len : σ.length = ρ.length)
    (h1 : ∀ j, j ≠ i → slR K B Z H (get ρ j) (look σ j) (fp j)) (h2 : ∀ j k a, j ≠ i → k ≠ i → j ≠ k → a ∈ fp j → ¬ a ∈ fp k) (h3 : ∀ j a, j ≠ i → a ∈ fp j → B a = none ∧ Z a = none)
    (h : slR K B Z H s o fpn) (hn : ∀ a ∈ fpn, B a = none ∧ Z a = none) (hd : ∀ j a, j ≠ i → a ∈ fpn → ¬ a ∈ fp j) (hi : i < ρ.length) : St K B Z0 Z H (σ.set i o) (put ρ i s) := by
  refine ⟨st, by rw [List.length_set, put_length, len], sw fp i fpn, fun j => ?_, fun j k a hjk ha => ?_, fun j a ha => ?_⟩
  · by_cases c : j = i
    · subst c
      rw [get_put_same _ _ _ hi, look_set_same (by rw [len]; exact hi), sw_same]
      exact h
    · rw [get_put_ne _ _ _ _ (Ne.symm c), look_set_ne (Ne.symm c), sw_ne _ _ c]
      exact h1 j c
  · by_cases c : j = i
    · subst c
      rw [sw_same] at ha
      rw [sw_ne _ _ (Ne.symm hjk)]
      exact hd k a (Ne.symm hjk) ha
    · rw [sw_ne _ _ c] at ha
      by_cases c2 : k = i
      · subst c2
        rw [sw_same]
        exact fun q => hd j a c q ha
      · rw [sw_ne _ _ c2]
        exact h2 j k a c c2 hjk ha
  · by_cases c : j = i
    · subst c
      rw [sw_same] at ha
      exact hn a ha
    · rw [sw_ne _ _ c] at ha
      exact h3 j a c ha
/-- a slot is stored anew, the value's own new since H0 -/
theorem St.set {B Z0 Z H Z' H' : Hp} {σ : L2.St} {ρ : SEnv} {v : V} {s : Sl} (x : St K B Z0 Z H σ ρ) (k : Step Z H Z' H') (i : Nat) (h : ∃ fp, slR K B Z' H' s (some v) fp ∧ ∀ a ∈ fp, H a = none ∧ Z' a = none) :
    St K B Z0 Z' H' (σ.set i (some v)) (put ρ i s) := by
  obtain ⟨fpn, h, hn⟩ := h
  have y := x.step k
  by_cases hi : i < ρ.length
  · obtain ⟨st, len, fp, h1, h2, h3⟩ := x
    refine St.sets (fp := fp) y.st len (fun j _ => (h1 j).mono (Same.refl B) k.zz fun a ha => ?_) (fun j l a _ _ hjl ha => h2 j l a hjl ha) (fun j a _ ha => ⟨(h3 j a ha).1, ?_⟩) h (fun a ha => ⟨none_back st.bh (hn a ha).1, (hn a ha).2⟩) (fun j a _ ha q => (h1 j).live a q (hn a ha).1) hi
    · cases q : H a with
      | none => exact absurd q ((h1 j).live a ha)
      | some o => exact k.bh a o q
    · cases q : Z' a with
      | none => rfl
      | some o =>
        rcases k.gr a (by rw [q]; intro z; cases z) with z | z
        · exact absurd (h3 j a ha).2 z
        · exact absurd z ((h1 j).live a ha)
  · rw [put_out _ _ _ (by omega), List.set_eq_of_length_le (by rw [y.len]; omega)]
    exact y
/-- a slot is forgotten -/
theorem St.forget {B Z0 Z H : Hp} {σ : L2.St} {ρ : SEnv} (x : St K B Z0 Z H σ ρ) (i : Nat) : St K B Z0 Z H σ (put ρ i .un) := by
  by_cases hi : i < ρ.length
  · obtain ⟨st, len, fp, h1, h2, h3⟩ := x
    have := St.sets (K := K) (σ := σ) (ρ := ρ) (i := i) (s := .un) (o := look σ i) (fpn := []) (fp := fp) st len (fun j _ => h1 j) (fun j l a _ _ => h2 j l a) (fun j a _ => h3 j a) rfl (fun _ h => nomatch h) (fun _ _ _ h => nomatch h) hi
    rw [show σ.set i (look σ i) = σ from ?_] at this
    · exact this
    · apply List.ext_getElem?
      intro n
      by_cases c : i = n
      · subst c
        rw [List.getElem?_set_self (by rw [len]; exact hi)]
        unfold look
        rw [List.getElem?_eq_getElem (by rw [len]; exact hi)]
        rfl
      · rw [List.getElem?_set_ne c]
  · rw [put_out _ _ _ (by omega)]
    exact x
/-- forget some -/
def wipe1 (ρ : SEnv) : List Nat → SEnv
  | [] => ρ
  | i :: r => put (wipe1 ρ r) i .un
@[simp] theorem wipe1_nil (ρ : SEnv) : wipe1 ρ [] = ρ := rfl
@[simp] theorem wipe1_cons (ρ : SEnv) (i : Nat) (r : List Nat) : wipe1 ρ (i :: r) = put (wipe1 ρ r) i .un := rfl
theorem St.wipe1 {B Z0 Z H : Hp} {σ : L2.St} : ∀ (is : List Nat) {ρ : SEnv}, St K B Z0 Z H σ ρ → St K B Z0 Z H σ (wipe1 ρ is)
  | [], _, x => x
  | i :: r, _, x => (St.wipe1 r x).forget i
/-- .. and the slots themselves -/
theorem St.clear {B Z0 Z H : Hp} {σ : L2.St} {ρ : SEnv} (x : St K B Z0 Z H σ ρ) (i : Nat) : St K B Z0 Z H (σ.set i none) (put ρ i .un) := by
  by_cases hi : i < ρ.length
  · obtain ⟨st, len, fp, h1, h2, h3⟩ := x
    exact St.sets (fp := fp) (fpn := []) st len (fun j _ => h1 j) (fun j l a _ _ => h2 j l a) (fun j a _ => h3 j a) rfl (fun _ h => nomatch h) (fun _ _ _ h => nomatch h) hi
  · rw [put_out _ _ _ (by omega), List.set_eq_of_length_le (by rw [x.len]; omega)]
    exact x
theorem St.wipes {B Z0 Z H : Hp} {σ : L2.St} {ρ : SEnv} (x : St K B Z0 Z H σ ρ) : ∀ (is : List Nat), St K B Z0 Z H (L2.wipe σ is) (DL.wipe1 ρ is)
  | [] => x
  | i :: r => (St.wipes x r).clear i
/-- a list of one's own is frozen -/
def frz (ρ : SEnv) (i : Nat) : SEnv := match get ρ i with
  | .own ds => put ρ i (.pl (.list ds))
  | _ => ρ
theorem put_get : ∀ (ρ : SEnv) (i : Nat), put ρ i (get ρ i) = ρ
  | [], _ => rfl
  | _ :: _, 0 => rfl
  | s :: r, n + 1 => by rw [get_succ, put_succ, put_get r n]
theorem set_look {σ : L2.St} {i : Nat} (h : i < σ.length) : σ.set i (look σ i) = σ := by
  apply List.ext_getElem?
  intro n
  by_cases c : i = n
  · subst c
    rw [List.getElem?_set_self h]
    unfold look
    rw [List.getElem?_eq_getElem h]
    rfl
  · rw [List.getElem?_set_ne c]
theorem St.frz {B Z0 Z H : Hp} {σ : L2.St} {ρ : SEnv} (x : St K B Z0 Z H σ ρ) (i : Nat) : ∃ Z', St K B Z0 Z' H σ (DL.frz ρ i) ∧ Same Z Z' := by
  unfold DL.frz
  split
  · rename_i ds q
    obtain ⟨st, len, fp, h1, h2, h3⟩ := x
    have hi := h1 i
    rw [q] at hi
    obtain ⟨p, vs, e, hv, hp, hd⟩ := hi
    have h3i := h3 i p (by rw [e]; simp)
    have zz : Same Z (upd Z p (.lst vs)) := fun b u e => by rw [upd_ne (ne_of_none e h3i.2)]; exact e
    refine ⟨upd Z p (.lst vs), ?_, zz⟩
    have hi : i < ρ.length := by
      by_cases c : i < ρ.length
      · exact c
      · rw [get_out _ _ (by omega)] at q; cases q
    have hpn : ∀ j, j ≠ i → ∀ a ∈ fp j, a ≠ p := fun j hj a ha z => h2 j i a hj ha (by rw [z, e]; simp)
    have := St.sets (K := K) (σ := σ) (ρ := ρ) (i := i) (s := .pl (.list ds)) (o := look σ i) (fpn := []) (fp := fp) (st.freeze hp h3i.1 h3i.2) len (fun j hj => (h1 j).mono (Same.refl B) zz fun _ _ => rfl) (fun j l a _ _ => h2 j l a) (fun j a hj ha => ⟨(h3 j a ha).1, by rw [upd_ne (hpn j hj a ha)]; exact (h3 j a ha).2⟩)
      ⟨rfl, _, hv, .lst (.inl (.inl upd_same)) (DpAll_mono zz _ _ hd)⟩ (fun _ h => nomatch h) (fun _ _ _ h => nomatch h) hi
    rw [set_look (by rw [len]; exact hi)] at this
    exact this
  · exact ⟨Z, x, Same.refl Z⟩
/-- a slot's thing goes to another slot -/
def mov (ρ : SEnv) (i j : Nat) : SEnv := put (put ρ j .un) i (get ρ j)

/-- a value, as an expression leaves it: what is its own is new since H0 -/
def vlR (K : PySem.W.Frag) (H0 Z H : Hp) (v : V) (s : Sl) : Prop := ∃ fp, slR K H Z H s (some v) fp ∧ ∀ a ∈ fp, H0 a = none ∧ Z a = none
theorem vlR.step {H0 Z H Z' H' : Hp} {v : V} {s : Sl} (h : vlR K H0 Z H v s) (k : Step Z H Z' H') : vlR K H0 Z' H' v s := by
  obtain ⟨fp, h1, h2⟩ := h
  refine ⟨fp, h1.mono k.bh k.zz fun a ha => ?_, fun a ha => ⟨(h2 a ha).1, ?_⟩⟩
  · cases q : H a with
    | none => exact absurd q (h1.live a ha)
    | some o => exact k.bh a o q
  · cases q : Z' a with
    | none => rfl
    | some o =>
      rcases k.gr a (by rw [q]; intro z; cases z) with z | z
      · exact absurd (h2 a ha).2 z
      · exact absurd z (h1.live a ha)
theorem vlR.back {H0 H1 Z H : Hp} {v : V} {s : Sl} (h : vlR K H1 Z H v s) (e : Same H0 H1) : vlR K H0 Z H v s := by
  obtain ⟨fp, h1, h2⟩ := h
  exact ⟨fp, h1, fun a ha => ⟨none_back e (h2 a ha).1, (h2 a ha).2⟩⟩
theorem vlR.pl {H0 Z H : Hp} {v : V} {d : D} (h : Dp K Z v d) : vlR K H0 Z H v (.pl d) := ⟨[], ⟨rfl, v, rfl, h⟩, fun _ h => nomatch h⟩
theorem vlR.data {H0 Z H : Hp} {v : V} {d : D} (h : vlR K H0 Z H v (.pl d)) : Dp K Z v d := by
  obtain ⟨fp, ⟨_, x, e, h1⟩, _⟩ := h
  cases e
  exact h1

/-! ### the readings -/
def ER (K : PySem.W.Frag) (f : SEnv → Option Sl) : TE := fun σ H Q => ∃ B Z0 Z ρ s, St K B Z0 Z H σ ρ ∧ f ρ = some s ∧ ∀ v Z' H', Step Z H Z' H' → vlR K H Z' H' v s → Q v H'
def TR (K : PySem.W.Frag) (f : SEnv → Option Bool) : TT := fun σ H Q => ∃ B Z0 Z ρ b, St K B Z0 Z H σ ρ ∧ f ρ = some b ∧ ∀ Z' H', Step Z H Z' H' → Q b H'
/-- arguments, borrowed -/
def bor : Sl → Sl
  | .own ds => .brw ds
  | .dic kvs => .bdc kvs
  | .obj _ c fs => .bob c fs
  | .lno _ ds => .brw ds
  | s => s
def AllB (K : PySem.W.Frag) (Z H : Hp) : List V → List Sl → Prop
  | [], [] => True
  | v :: vs, s :: ss => slR K H Z H s (some v) [] ∧ AllB K Z H vs ss
  | _, _ => False
theorem AllB.step {Z H Z' H' : Hp} (k : Step Z H Z' H') : ∀ {vs : List V} {ss : List Sl}, AllB K Z H vs ss → AllB K Z' H' vs ss
  | [], [], _ => trivial
  | _ :: _, _ :: _, h => ⟨h.1.mono k.bh k.zz (fun _ h => nomatch h), AllB.step k h.2⟩
  | [], _ :: _, h => h.elim
  | _ :: _, [], h => h.elim
theorem bor_ok {H0 Z H : Hp} {v : V} {s : Sl} (h : vlR K H0 Z H v s) : slR K H Z H (bor s) (some v) [] := by
  obtain ⟨fp, h1, h2⟩ := h
  cases s with
  | un => exact rfl
  | pl d => exact ⟨rfl, h1.2⟩
  | own ds => obtain ⟨p, vs, e, hx, hp, hd⟩ := h1; exact ⟨rfl, p, vs, hx, hp, hd⟩
  | brw ds => exact ⟨rfl, h1.2⟩
  | dic kvs => obtain ⟨p, vs, e, hx, hp, hd⟩ := h1; exact ⟨rfl, p, vs, hx, hp, hd⟩
  | bdc kvs => exact ⟨rfl, h1.2⟩
  | obj a c fs => obtain ⟨p, C, dx, vs, fq, e, hx, hq, hc, hp, hn, hf⟩ := h1; exact ⟨rfl, p, C, dx, vs, fq, hx, hc, hp, hf⟩
  | bob c fs => exact ⟨rfl, h1.2⟩
  | exc a => exact ⟨rfl, h1.2⟩
  | tk ds => exact ⟨rfl, h1.2⟩
  | kq l ds r => exact ⟨rfl, h1.2⟩
  | lno a ds => obtain ⟨vs, e, hx, hp, hd⟩ := h1; exact ⟨rfl, a, vs, hx, hp, hd⟩
def AR (K : PySem.W.Frag) (f : SEnv → Option (List Sl)) : TA := fun σ H Q => ∃ B Z0 Z ρ ss, St K B Z0 Z H σ ρ ∧ f ρ = some ss ∧ ∀ vs Z' H', Step Z H Z' H' → AllB K Z' H' vs ss → Q vs H'
/-- arguments as data: new lists are frozen -/
def toD : Sl → Option D
  | .pl d => some d
  | .own ds => some (.list ds)
  | _ => none
def DR (K : PySem.W.Frag) (f : SEnv → Option (List D)) : TA := fun σ H Q => ∃ B Z0 Z ρ ds, St K B Z0 Z H σ ρ ∧ f ρ = some ds ∧ ∀ vs Z' H', Step Z H Z' H' → DpAll K Z' vs ds → Q vs H'
theorem toD_ok {Z0 H0 Z H : Hp} {v : V} {s : Sl} {d : D} (k : Step Z0 H0 Z H) (h : vlR K H0 Z H v s) (e : toD s = some d) : ∃ Z', Step Z0 H0 Z' H ∧ Same Z Z' ∧ Dp K Z' v d := by
  cases s with
  | pl c => cases e; exact ⟨Z, k, Same.refl Z, h.data⟩
  | own ds =>
    cases e
    obtain ⟨fp, ⟨p, vs, rfl, hx, hp, hd⟩, h2⟩ := h
    cases hx
    obtain ⟨q0, qz⟩ := h2 p (by simp)
    have zz : Same Z (upd Z p (.lst vs)) := fun b u e => by rw [upd_ne (ne_of_none e qz)]; exact e
    exact ⟨upd Z p (.lst vs), k.freeze hp q0 qz, zz, .lst (.inl (.inl upd_same)) (DpAll_mono zz _ _ hd)⟩
  | _ => cases e

/-- what leaves a def as an exception: its class, its fields -/
structure Exn where
  cls : Str
  fs : Option (List (Str × D)) := none
def exR (K : PySem.W.Frag) (Z H : Hp) (x : Exn) (cls : Value) (od : Option Addr) : Prop :=
  cls = clsOf K x.cls ∧ match x.fs, od with
    | none, none => True
    | some fs, some a => ∃ vs : List (Str × V), H a = some (.xd vs) ∧ Paired (fun (p : Str × V) (q : Str × D) => p.1 = q.1 ∧ Dp K Z p.2 q.2) vs fs
    | _, _ => False
inductive Out where
  | nx (ρ : SEnv)
  | rt (s : Sl)
  | bk (ρ : SEnv)
  | ct (ρ : SEnv)
  | ex (x : Exn) (ρ : SEnv)
  /-- handed back, with the slots as they stand (a method that changes its object) -/
  | rm (s : Sl) (ρ : SEnv)
/-- a value handed back: what is its own is new to B -/
def vlB (K : PySem.W.Frag) (B Z H : Hp) (v : V) (s : Sl) : Prop := ∃ fp, slR K H Z H s (some v) fp ∧ ∀ a ∈ fp, B a = none ∧ Z a = none
def post (K : PySem.W.Frag) (E : WX) (B Z0 : Hp) (D : Ends) : Out → Prop
  | .nx ρ => ∀ Z σ H, St K B Z0 Z H σ ρ → D.nx σ H
  | .bk ρ => ∀ Z σ H, St K B Z0 Z H σ ρ → D.bk σ H
  | .ct ρ => ∀ Z σ H, St K B Z0 Z H σ ρ → D.ct σ H
  | .rt s => ∀ v Z H, StepB B Z0 Z H → vlB K B Z H v s → D.rt v H
  | .ex x ρ => ∀ c od Z σ H, St K B Z0 Z H σ ρ → exR K Z H x c od → E c od σ H
  | .rm s ρ => ∀ v Z Z1 σ H1 H, St K B Z0 Z1 H1 σ ρ → Step Z1 H1 Z H → vlR K H1 Z H v s → D.rt v H
def SR (K : PySem.W.Frag) (E : WX) (f : SEnv → Option Out) : TS := fun D σ H => ∃ B Z0 Z ρ o, St K B Z0 Z H σ ρ ∧ f ρ = some o ∧ post K E B Z0 D o
end

/-! ### the judgements -/
section
variable {X : Cx}
theorem PE_imp {e : Expr} {t t' : TE} (h : PE X e t) (i : ∀ σ H Q, t' σ H Q → t σ H Q) : PE X e t' := ⟨fun pins s σ H Q I hw => h.run pins s σ H Q I (i σ H Q hw)⟩
theorem PT_imp {e : Expr} {t t' : TT} (h : PT X e t) (i : ∀ σ H Q, t' σ H Q → t σ H Q) : PT X e t' := ⟨fun pins s σ H Q I hw => h.run pins s σ H Q I (i σ H Q hw)⟩
theorem PW_imp {e : Expr} {t t' : TT} (h : PW X e t) (i : ∀ σ H Q, t' σ H Q → t σ H Q) : PW X e t' := ⟨fun wh pins s σ H Q I hw => h.run wh pins s σ H Q I (i σ H Q hw)⟩
theorem PA_imp {es : List Expr} {t t' : TA} (h : PA X es t) (i : ∀ σ H Q, t' σ H Q → t σ H Q) : PA X es t' := ⟨fun pos pins s σ H Q I hw => h.run pos pins s σ H Q I (i σ H Q hw)⟩
theorem PS_imp {st : Stmt} {t t' : TS} (h : PS X st t) (i : ∀ D σ H, t' D σ H → t D σ H) : PS X st t' := ⟨fun pins s σ H D I hw => h.run pins s σ H D I (i D σ H hw)⟩
theorem PSs_imp {st : List Stmt} {t t' : TS} (h : PSs X st t) (i : ∀ D σ H, t' D σ H → t D σ H) : PSs X st t' := ⟨fun pins s σ H D I hw => h.run pins s σ H D I (i D σ H hw)⟩
abbrev PD (X : Cx) (e : Expr) (f : SEnv → Option Sl) : Prop := PE X e (ER X.K f)
abbrev TD (X : Cx) (e : Expr) (f : SEnv → Option Bool) : Prop := PT X e (TR X.K f)
abbrev WD (X : Cx) (e : Expr) (f : SEnv → Option Bool) : Prop := PW X e (TR X.K f)
abbrev AD (X : Cx) (es : List Expr) (f : SEnv → Option (List Sl)) : Prop := PA X es (AR X.K f)
abbrev DD (X : Cx) (es : List Expr) (f : SEnv → Option (List D)) : Prop := PA X es (DR X.K f)
abbrev SD (X : Cx) (E : WX) (st : Stmt) (f : SEnv → Option Out) : Prop := PS X st (SR X.K E f)
abbrev SsD (X : Cx) (E : WX) (st : List Stmt) (f : SEnv → Option Out) : Prop := PSs X st (SR X.K E f)
end
end DL

set_option Elab.async false
set_option linter.all false
set_option maxRecDepth 100000
set_option maxHeartbeats 1000000
/-! DL2: expressions. -/
namespace DL
open PySem PySem.Spec PyProof.Rows L2
section
variable {K : PySem.W.Frag} {B Z0 Z H : Hp} {σ : L2.St} {ρ : SEnv}
theorem er1 {f : SEnv → Option Sl} {a : Sl} {Q : VK} (x : St K B Z0 Z H σ ρ) (e : f ρ = some a) (k : ∀ v Z' H', Step Z H Z' H' → vlR K H Z' H' v a → Q v H') : ER K f σ H Q := ⟨B, Z0, Z, ρ, a, x, e, k⟩
theorem er2 {f g : SEnv → Option Sl} {a b : Sl} {R : V → V → Hp → Prop} (x : St K B Z0 Z H σ ρ) (ea : f ρ = some a) (eb : g ρ = some b)
    (k : ∀ v w Z' H', Step Z H Z' H' → vlR K H Z' H' v a → vlR K H Z' H' w b → R v w H') : ER K f σ H fun v H1 => ER K g σ H1 fun w H2 => R v w H2 :=
  er1 x ea fun v Z1 H1 k1 r1 => er1 (x.step k1) eb fun w Z2 H2 k2 r2 => k v w Z2 H2 (k1.trans k2) (r1.step k2) (r2.back k1.bh)
theorem tr1 {f : SEnv → Option Bool} {a : Bool} {Q : Bool → Hp → Prop} (x : St K B Z0 Z H σ ρ) (e : f ρ = some a) (k : ∀ Z' H', Step Z H Z' H' → Q a H') : TR K f σ H Q := ⟨B, Z0, Z, ρ, a, x, e, k⟩
theorem St.zh (x : St K B Z0 Z H σ ρ) : Same Z H := x.st.zh
theorem St.bh (x : St K B Z0 Z H σ ρ) : Same B H := x.st.bh
/-- what is seen of a value: data, or a list as data -/
def view : Sl → Option D
  | .pl d => some d
  | .own ds => some (.list ds)
  | .brw ds => some (.list ds)
  | _ => none
theorem view_ok {H0 : Hp} {v : V} {s : Sl} {d : D} (h : vlR K H0 Z H v s) (zh : Same Z H) (e : view s = some d) : Dp K H v d := by
  obtain ⟨fp, h1, h2⟩ := h
  cases s with
  | pl c => cases e; obtain ⟨_, x, hx, hd⟩ := h1; cases hx; exact Dp_mono zh _ _ hd
  | own ds => cases e; obtain ⟨p, vs, _, hx, hp, hd⟩ := h1; cases hx; exact .lst (.inl (.inl hp)) (DpAll_mono zh _ _ hd)
  | brw ds => cases e; obtain ⟨_, p, vs, hx, hp, hd⟩ := h1; cases hx; exact .lst (.inl (.inl hp)) (DpAll_mono zh _ _ hd)
  | _ => cases e
/-- as a list or a tuple: its items, related in Z -/
def items : Sl → Option (List D)
  | .pl (.list ds) => some ds
  | .pl (.tuple ds) => some ds
  | .own ds => some ds
  | .brw ds => some ds
  | _ => none
/-- as a list -/
def litems : Sl → Option (List D)
  | .pl (.list ds) => some ds
  | .own ds => some ds
  | .brw ds => some ds
  | _ => none
theorem litems_ok {H0 : Hp} {v : V} {s : Sl} {ds : List D} (h : vlR K H0 Z H v s) (zh : Same Z H) (e : litems s = some ds) : ∃ p vs, v = .ref p ∧ SqL K H p vs ∧ DpAll K Z vs ds := by
  obtain ⟨fp, h1, h2⟩ := h
  cases s with
  | pl c =>
    cases c with
    | list es =>
      cases e
      obtain ⟨_, x, hx, hd⟩ := h1
      cases hx
      cases hd with
      | lst q r => exact ⟨_, _, rfl, zh.seq q, r⟩
    | _ => cases e
  | own es => cases e; obtain ⟨p, vs, _, hx, hp, hd⟩ := h1; cases hx; exact ⟨p, vs, rfl, .inl (.inl hp), hd⟩
  | brw es => cases e; obtain ⟨_, p, vs, hx, hp, hd⟩ := h1; cases hx; exact ⟨p, vs, rfl, .inl (.inl hp), hd⟩
  | _ => cases e
theorem items_ok {H0 : Hp} {v : V} {s : Sl} {ds : List D} (h : vlR K H0 Z H v s) (zh : Same Z H) (e : items s = some ds) : ∃ p vs, v = .ref p ∧ (SqL K H p vs ∨ SqT K H p vs) ∧ DpAll K Z vs ds := by
  cases s with
  | pl c =>
    cases c with
    | list es =>
      obtain ⟨p, vs, h1, h2, h3⟩ := litems_ok h zh (show litems (.pl (.list es)) = some ds from e)
      exact ⟨p, vs, h1, .inl h2, h3⟩
    | tuple es =>
      cases e
      have hd := h.data
      cases hd with
      | tup q r => exact ⟨_, _, rfl, .inr (sqT_mono zh q), r⟩
    | _ => cases e
  | own es =>
    obtain ⟨p, vs, h1, h2, h3⟩ := litems_ok h zh (show litems (.own es) = some ds from e)
    exact ⟨p, vs, h1, .inl h2, h3⟩
  | brw es =>
    obtain ⟨p, vs, h1, h2, h3⟩ := litems_ok h zh (show litems (.brw es) = some ds from e)
    exact ⟨p, vs, h1, .inl h2, h3⟩
  | _ => cases e
theorem titems_ok {v : V} {ds : List D} (h : Dp K Z v (.tuple ds)) : ∃ p vs, v = .ref p ∧ SqT K Z p vs ∧ DpAll K Z vs ds := by
  cases h with
  | tup q r => exact ⟨_, _, rfl, q, r⟩
/-- a new list of known items -/
theorem vlR.newL (zh : Same Z H) {p : Addr} {vs : List V} {ds : List D} (hp : H p = none) (hd : DpAll K Z vs ds) : Step Z H Z (upd H p (.lst vs)) ∧ vlR K H Z (upd H p (.lst vs)) (.ref p) (.own ds) := by
  refine ⟨Step.newH zh hp, [p], ⟨p, vs, rfl, rfl, upd_same, hd⟩, fun a ha => ?_⟩
  rw [List.mem_singleton.mp ha]
  exact ⟨hp, none_back zh hp⟩
theorem Dp_newT (zh : Same Z H) {p : Addr} {vs : List V} {ds : List D} (hp : H p = none) (hd : DpAll K Z vs ds) : Step Z H (upd Z p (.tup vs)) (upd H p (.tup vs)) ∧ Dp K (upd Z p (.tup vs)) (.ref p) (.tuple ds) := by
  have k := Step.newZ (o := .tup vs) zh hp
  exact ⟨k, .tup (.inl (.inl upd_same)) (DpAll_mono k.zz _ _ hd)⟩
end

/-! ### names, constants -/
def borq : Sl → Option Sl
  | .un => none
  | .pl d => some (.pl d)
  | .own ds => some (.brw ds)
  | .brw ds => some (.brw ds)
  | .dic kvs => some (.bdc kvs)
  | .bdc kvs => some (.bdc kvs)
  | .obj _ c d => some (.bob c d)
  | .bob c d => some (.bob c d)
  | .exc a => some (.exc a)
  | .tk ds => some (.tk ds)
  | .kq l ds r => some (.kq l ds r)
  | .lno _ ds => some (.brw ds)
@[simp] theorem borq_pl (d : D) : borq (.pl d) = some (.pl d) := rfl
@[simp] theorem borq_own (d : List D) : borq (.own d) = some (.brw d) := rfl
@[simp] theorem borq_brw (d : List D) : borq (.brw d) = some (.brw d) := rfl
@[simp] theorem borq_dic (d : List (Key × D)) : borq (.dic d) = some (.bdc d) := rfl
@[simp] theorem borq_bdc (d : List (Key × D)) : borq (.bdc d) = some (.bdc d) := rfl
@[simp] theorem borq_obj (a : Option Addr) (c : Str) (d : List (Str × Sl)) : borq (.obj a c d) = some (.bob c d) := rfl
@[simp] theorem borq_bob (c : Str) (d : List (Str × Sl)) : borq (.bob c d) = some (.bob c d) := rfl
@[simp] theorem borq_tk (d : List D) : borq (.tk d) = some (.tk d) := rfl
@[simp] theorem borq_lno (a : Addr) (d : List D) : borq (.lno a d) = some (.brw d) := rfl
@[simp] theorem borq_kq (l : Bool) (d r : List D) : borq (.kq l d r) = some (.kq l d r) := rfl
@[simp] theorem borq_exc (a : Addr) : borq (.exc a) = some (.exc a) := rfl
def eVar (i : Nat) : SEnv → Option Sl := fun ρ => borq (get ρ i)
def eC (d : D) : SEnv → Option Sl := fun _ => some (.pl d)
theorem slot_val {K : PySem.W.Frag} {B Z H : Hp} {s t : Sl} {o : Option V} {fp : List Addr} (h : slR K B Z H s o fp) (bh : Same B H) (e : borq s = some t) : ∃ v, o = some v ∧ slR K H Z H t (some v) [] := by
  cases s with
  | un => cases e
  | pl d => cases e; obtain ⟨_, x, hx, hd⟩ := h; exact ⟨x, hx, rfl, x, rfl, hd⟩
  | own ds => cases e; obtain ⟨p, vs, _, hx, hp, hd⟩ := h; exact ⟨_, hx, rfl, p, vs, rfl, hp, hd⟩
  | brw ds => cases e; obtain ⟨_, p, vs, hx, hp, hd⟩ := h; exact ⟨_, hx, rfl, p, vs, rfl, bh _ _ hp, hd⟩
  | dic ds => cases e; obtain ⟨p, vs, _, hx, hp, hd⟩ := h; exact ⟨_, hx, rfl, p, vs, rfl, hp, hd⟩
  | bdc ds => cases e; obtain ⟨_, p, vs, hx, hp, hd⟩ := h; exact ⟨_, hx, rfl, p, vs, rfl, bh _ _ hp, hd⟩
  | obj a c d => cases e; obtain ⟨p, C, dx, vs, fq, e, hx, hq, hc, hp, hn, hf⟩ := h; exact ⟨_, hx, rfl, p, C, dx, vs, fq, rfl, hc, hp, fsR.mono hf bh (Same.refl _) fun _ _ => rfl⟩
  | bob c d =>
    cases e
    obtain ⟨_, p, C, dx, vs, fq, hx, hc, hp, hf⟩ := h
    refine ⟨_, hx, rfl, p, C, dx, vs, fq, rfl, hc, bh _ _ hp, fsR.mono hf bh (Same.refl _) fun a ha => ?_⟩
    cases q : B a with
    | none => exact absurd q (fsR.live hf a ha)
    | some o => exact bh a o q
  | exc a => cases e; exact ⟨_, h.2, rfl, rfl⟩
  | tk ds => cases e; obtain ⟨_, p, hx, ht⟩ := h; exact ⟨_, hx, rfl, p, rfl, ht⟩
  | kq l ds r => cases e; obtain ⟨_, p, hx, ht⟩ := h; exact ⟨_, hx, rfl, p, rfl, ht⟩
  | lno a ds => cases e; obtain ⟨vs, _, hx, hp, hd⟩ := h; exact ⟨_, hx, rfl, a, vs, rfl, hp, hd⟩
theorem St.var {K : PySem.W.Frag} {B Z0 Z H : Hp} {σ : L2.St} {ρ : SEnv} (x : St K B Z0 Z H σ ρ) {i : Nat} {t : Sl} (e : borq (get ρ i) = some t) : ∃ v, σ[i]? = some (some v) ∧ vlR K H Z H v t := by
  obtain ⟨_, _, fp, h1, _, _⟩ := id x
  obtain ⟨v, hv, r⟩ := slot_val (h1 i) x.bh e
  exact ⟨v, look_some hv, [], r, fun _ h => nomatch h⟩
section
variable {X : Cx}
theorem pd_var (i : Nat) {x : Str} {pos : Pos} (hN : X.N[i]? = some x := by rfl) (hv : Vis X.env.scope x := by first | exact Or.inl rfl | exact Or.inr (Or.inl rfl) | exact Or.inr (Or.inr rfl)) (hd : (x == ("__debug__" : Str)) = false := by decide)
    (hcd : (x == ("__classdict__" : Str)) = false := by decide) : PD X (.Name x pos) (eVar i) :=
  PE_imp (pv i hN hv hd hcd) fun σ H Q ⟨B, Z0, Z, ρ, s, x, e, k⟩ => by
    obtain ⟨v, hv, r⟩ := x.var e
    exact ⟨v, hv, k v Z H (Step.refl x.zh) r⟩
theorem pd_c {e : Expr} {v : V} {d : D} (h : PE X e (tC v)) (hd : ∀ Z, Dp X.K Z v d) : PD X e (eC d) :=
  PE_imp h fun σ H Q ⟨B, Z0, Z, ρ, s, x, e, k⟩ => by
    cases e
    exact k v Z H (Step.refl x.zh) (vlR.pl (hd Z))
theorem pd_int {i j pos} : PD X (.Constant (.int i) j pos) (eC (.int i)) := pd_c pe_int fun _ => .int i
theorem pd_bl {b j pos} : PD X (.Constant (.bool b) j pos) (eC (.bool b)) := pd_c pe_bl fun _ => .bl b
theorem pd_non {j pos} : PD X (.Constant .none j pos) (eC .none) := pd_c pe_non fun _ => .non
theorem pd_str {x j pos} : PD X (.Constant (.str x) j pos) (eC (.str x)) := pd_c pe_str fun _ => .str x
/-- a constant of the module -/
theorem pd_glob {x : Str} {v : V} {d : D} {u : Value} {pos : Pos} (hg : Gl X x) (hm : X.mg x = some u) (r : RelV v u) (hd : ∀ Z, Dp X.K Z v d) (hdb : (x == ("__debug__" : Str)) = false := by decide) : PD X (.Name x pos) (eC d) := pd_c (pe_glob hg hm r hdb) hd

/-! ### two-place operations -/
def sl2 (f : D → D → Option D) : Option Sl → Option Sl → Option Sl
  | some (.pl x), some (.pl y) => (f x y).map .pl
  | _, _ => none
@[simp] theorem sl2_pl (f : D → D → Option D) (x y : D) : sl2 f (some (.pl x)) (some (.pl y)) = (f x y).map .pl := rfl
def eBin (f : D → D → Option D) (a b : SEnv → Option Sl) : SEnv → Option Sl := fun ρ => sl2 f (a ρ) (b ρ)
theorem sl2_inv {f : D → D → Option D} {a b : Option Sl} {s : Sl} (h : sl2 f a b = some s) : ∃ x y d, a = some (.pl x) ∧ b = some (.pl y) ∧ f x y = some d ∧ s = .pl d := by
  unfold sl2 at h
  split at h
  · rename_i x y
    cases e : f x y with
    | none => rw [e] at h; cases h
    | some d => rw [e] at h; cases h; exact ⟨x, y, d, rfl, rfl, e, rfl⟩
  · cases h
def BinOK (K : PySem.W.Frag) (r : R2) (f : D → D → Option D) : Prop := ∀ {Z H : Hp} {x y : V} {dx dy d : D} {Q : VK}, Same Z H → Dp K Z x dx → Dp K Z y dy → f dx dy = some d → (∀ v Z' H', Step Z H Z' H' → Dp K Z' v d → Q v H') → r x y H Q
theorem pd_bin {op : Operator} {r : R2} {f : D → D → Option D} {a b : Expr} {fa fb : SEnv → Option Sl} {pos : Pos} (ho : OpR X (binaryOp op) r) (hf : BinOK X.K r f) (ha : PD X a fa) (hb : PD X b fb) : PD X (.BinOp a op b pos) (eBin f fa fb) :=
  PE_imp (pe_op ho ha hb) fun σ H Q ⟨B, Z0, Z, ρ, s, x, e, k⟩ => by
    obtain ⟨dx, dy, d, ea, eb, ef, rfl⟩ := sl2_inv e
    refine er2 x ea eb fun v w Z' H' k' r1 r2 => ?_
    exact hf k'.zh r1.data r2.data ef fun u Z2 H2 k2 q => k u Z2 H2 (k'.trans k2) (vlR.pl q)
/-- of ints -/
def iF (C : Int → Int → Prop) [∀ i j, Decidable (C i j)] (g : Int → Int → Int) : D → D → Option D
  | .int i, .int j => if C i j then some (.int (g i j)) else none
  | _, _ => none
def iF0 (g : Int → Int → Int) : D → D → Option D
  | .int i, .int j => some (.int (g i j))
  | _, _ => none
@[simp] theorem iF0_int (g : Int → Int → Int) (i j : Int) : iF0 g (.int i) (.int j) = some (.int (g i j)) := rfl
@[simp] theorem iF_int (C : Int → Int → Prop) [∀ i j, Decidable (C i j)] (g : Int → Int → Int) (i j : Int) : iF C g (.int i) (.int j) = if C i j then some (.int (g i j)) else none := rfl
theorem bin_I0 {K : PySem.W.Frag} {g : Int → Int → Int} : BinOK K (rI0 fun i j => .int (g i j)) (iF0 g) := by
  intro Z H x y dx dy d Q zh hx hy e k
  cases hx <;> cases hy <;> first | (cases e; done) | skip
  cases e
  exact ⟨_, _, rfl, rfl, k _ Z H (Step.refl zh) (.int _)⟩
theorem bin_I {K : PySem.W.Frag} {C C' : Int → Int → Prop} [∀ i j, Decidable (C i j)] {g : Int → Int → Int} (hc : ∀ i j, C i j → C' i j) : BinOK K (rI C' fun i j => .int (g i j)) (iF C g) := by
  intro Z H x y dx dy d Q zh hx hy e k
  cases hx <;> cases hy <;> first | (cases e; done) | skip
  rename_i i j
  rw [iF_int] at e
  by_cases c : C i j
  · rw [if_pos c] at e
    cases e
    exact ⟨_, _, rfl, rfl, hc _ _ c, k _ Z H (Step.refl zh) (.int _)⟩
  · rw [if_neg c] at e; cases e
theorem BinOK.or1 {K : PySem.W.Frag} {r r' : R2} {f : D → D → Option D} (h : BinOK K r f) : BinOK K (fun x y H Q => r x y H Q ∨ r' x y H Q) f := fun zh hx hy e k => .inl (h zh hx hy e k)
/-- two rules: the second where the first has no word -/
theorem BinOK.or {K : PySem.W.Frag} {r r' : R2} {f g : D → D → Option D} (h : BinOK K r f) (h' : BinOK K r' g) : BinOK K (fun x y H Q => r x y H Q ∨ r' x y H Q) (fun a b => (f a b).or (g a b)) := by
  intro Z H x y dx dy d Q zh hx hy e k
  change (f dx dy).or (g dx dy) = some d at e
  cases q : f dx dy with
  | some c =>
    rw [q] at e
    cases e
    exact .inl (h zh hx hy q k)
  | none =>
    rw [q] at e
    exact .inr (h' zh hx hy e k)
/-- texts joined -/
def strAdd : D → D → Option D
  | .str i, .str j => if i.length + j.length ≤ 16777216 then some (.str (i ++ j)) else none
  | _, _ => none
theorem bin_strAdd {K : PySem.W.Frag} : BinOK K (fun x y H Q => ∃ i j, x = .str i ∧ y = .str j ∧ i.length + j.length ≤ sizeLine ∧ Q (.str (i ++ j)) H) strAdd := by
  intro Z H x y dx dy d Q zh hx hy e k
  cases hx <;> cases hy <;> first | (cases e; done) | skip
  rename_i i j
  change (if i.length + j.length ≤ 16777216 then some (PyData.str (i ++ j)) else none) = some d at e
  by_cases c : i.length + j.length ≤ 16777216
  · rw [if_pos c] at e
    cases e
    exact ⟨i, j, rfl, rfl, by rw [sizeLine_eq]; exact c, k _ Z H (Step.refl zh) (.str _)⟩
  · rw [if_neg c] at e; cases e
def tupAdd : D → D → Option D
  | .tuple a, .tuple b => if a.length + b.length ≤ 16777216 then some (.tuple (a ++ b)) else none
  | _, _ => none
theorem nil_of_len {α : Type} {l : List α} (h : l.length = 0) : l = [] := by cases l with | nil => rfl | cons _ _ => simp at h
theorem bin_tupAdd {K : PySem.W.Frag} : BinOK K (rCatA K) tupAdd := by
  intro Z H x y dx dy d Q zh hx hy e k
  cases hx <;> cases hy <;> first | (cases e; done) | skip
  rename_i a xs ds hxs hds b ys es hys hes
  change (if ds.length + es.length ≤ 16777216 then some (PyData.tuple (ds ++ es)) else none) = some d at e
  by_cases c : ds.length + es.length ≤ 16777216
  · rw [if_pos c] at e
    cases e
    have l1 := DpAll_length hds
    have l2 := DpAll_length hes
    refine ⟨a, b, xs, ys, rfl, rfl, sqT_mono zh hxs, sqT_mono zh hys, by rw [sizeLine_eq]; omega, fun h0 => ?_, fun _ h0 => ?_, fun _ _ p hp => ?_⟩
    · subst h0
      have : ds = [] := nil_of_len (by simpa using l1.symm)
      subst this
      exact k _ Z H (Step.refl zh) (.tup hys hes)
    · subst h0
      have : es = [] := nil_of_len (by simpa using l2.symm)
      subst this
      rw [List.append_nil] at k
      exact k _ Z H (Step.refl zh) (.tup hxs hds)
    · obtain ⟨s, q⟩ := Dp_newT zh hp (DpAll_append hds hes)
      exact k _ _ _ s q
  · rw [if_neg c] at e; cases e
def addD (a b : D) : Option D := (iF0 (· + ·) a b).or ((strAdd a b).or (tupAdd a b))
@[simp] theorem addD_int (i j : Int) : addD (.int i) (.int j) = some (.int (i + j)) := rfl
theorem addD_str {i j : Str} (h : i.length + j.length ≤ 16777216) : addD (.str i) (.str j) = some (.str (i ++ j)) := by
  show (none : Option D).or ((strAdd (.str i) (.str j)).or (tupAdd (.str i) (.str j))) = _
  have : strAdd (.str i) (.str j) = some (.str (i ++ j)) := if_pos h
  rw [this]
  rfl
theorem addD_tup {a b : List D} (h : a.length + b.length ≤ 16777216) : addD (.tuple a) (.tuple b) = some (.tuple (a ++ b)) := if_pos h
theorem pd_add {a b : Expr} {fa fb : SEnv → Option Sl} {pos : Pos} (ha : PD X a fa) (hb : PD X b fb) : PD X (.BinOp a .Add b pos) (eBin addD fa fb) :=
  pd_bin (op_add.or (op_add_str.or op_catA)) (bin_I0.or (bin_strAdd.or bin_tupAdd)) ha hb
abbrev subD := iF0 (· - ·)
theorem pd_sub {a b : Expr} {fa fb : SEnv → Option Sl} {pos : Pos} (ha : PD X a fa) (hb : PD X b fb) : PD X (.BinOp a .Sub b pos) (eBin subD fa fb) := pd_bin op_sub bin_I0 ha hb
def MulOk (i j : Int) : Prop := (-(2 ^ 64) < i ∧ i < 2 ^ 64) ∨ (-(2 ^ 64) < j ∧ j < 2 ^ 64) ∨ i.natAbs.log2 + j.natAbs.log2 < 1000000
instance (i j : Int) : Decidable (MulOk i j) := by unfold MulOk; infer_instance
def mulD := iF MulOk (· * ·)
theorem mulD_l {i j : Int} (h1 : -18446744073709551616 < i) (h2 : i < 18446744073709551616) : mulD (.int i) (.int j) = some (.int (i * j)) := if_pos (.inl ⟨h1, h2⟩)
theorem mulD_r {i j : Int} (h1 : -18446744073709551616 < j) (h2 : j < 18446744073709551616) : mulD (.int i) (.int j) = some (.int (i * j)) := if_pos (.inr (.inl ⟨h1, h2⟩))
theorem mulD_w {i j : Int} {a b : Nat} (ha : i.natAbs < 2 ^ a) (hb : j.natAbs < 2 ^ b) (h0 : 0 < a) (h1 : 0 < b) (h : a + b ≤ 1000000) : mulD (.int i) (.int j) = some (.int (i * j)) := if_pos (.inr (.inr (wide_mul ha hb h0 h1 h)))
theorem op_mulA : OpR X (binaryOp .Mult) (rI (fun i j => IntMulOk i j) fun i j => .int (i * j)) := opI fun _ _ _ _ _ _ _ hc q => mul_int q hc
theorem pd_mul {a b : Expr} {fa fb : SEnv → Option Sl} {pos : Pos} (ha : PD X a fa) (hb : PD X b fb) : PD X (.BinOp a .Mult b pos) (eBin mulD fa fb) :=
  pd_bin op_mulA (bin_I fun i j h => by
    rcases h with h | h | h
    · exact CMul.ok (.inl h)
    · exact CMul.ok (.inr h)
    · exact CMulW.ok h) ha hb
def modD := iF (fun _ j => 0 < j) (· % ·)
theorem modD_p {i j : Int} (h : 0 < j) : modD (.int i) (.int j) = some (.int (i % j)) := if_pos h
theorem pd_mod {a b : Expr} {fa fb : SEnv → Option Sl} {pos : Pos} (ha : PD X a fa) (hb : PD X b fb) : PD X (.BinOp a .Mod b pos) (eBin modD fa fb) := pd_bin op_mod (bin_I fun _ _ h => h) ha hb
instance (i j : Int) : Decidable (CDivW i j) := by unfold CDivW; infer_instance
def divD := iF CDivW (· / ·)
theorem divD_p {i j : Int} (h : 0 < j) (h2 : j < 18446744073709551616) : divD (.int i) (.int j) = some (.int (i / j)) := if_pos (wide_div (b := 64) h (by omega) (by decide) (by decide))
theorem divD_w {i j : Int} {b : Nat} (h : 0 < j) (hb : j.natAbs < 2 ^ b) (h0 : 0 < b) (h9 : b ≤ 9000) : divD (.int i) (.int j) = some (.int (i / j)) := if_pos (wide_div h hb h0 h9)
theorem pd_fdiv {a b : Expr} {fa fb : SEnv → Option Sl} {pos : Pos} (ha : PD X a fa) (hb : PD X b fb) : PD X (.BinOp a .FloorDiv b pos) (eBin divD fa fb) := pd_bin op_fdivW (bin_I fun _ _ h => h) ha hb
instance (i j : Int) : Decidable (CPow i j) := by unfold CPow; infer_instance
def powD := iF CPow (fun i j => i ^ j.toNat)
theorem powD_p {i j : Int} (h : 0 ≤ j) (h2 : j ≤ 1000000) (h3 : i.natAbs < 18446744073709551616) : powD (.int i) (.int j) = some (.int (i ^ j.toNat)) := if_pos ⟨h, h2, h3⟩
theorem pd_pow {a b : Expr} {fa fb : SEnv → Option Sl} {pos : Pos} (ha : PD X a fa) (hb : PD X b fb) : PD X (.BinOp a .Pow b pos) (eBin powD fa fb) := pd_bin op_pow (bin_I fun _ _ h => h) ha hb
def shlD := iF CPow (fun i j => i * 2 ^ j.toNat)
theorem shlD_p {i j : Int} (h : 0 ≤ j) (h2 : j ≤ 1000000) (h3 : i.natAbs < 18446744073709551616) : shlD (.int i) (.int j) = some (.int (i * 2 ^ j.toNat)) := if_pos ⟨h, h2, h3⟩
theorem pd_shl {a b : Expr} {fa fb : SEnv → Option Sl} {pos : Pos} (ha : PD X a fa) (hb : PD X b fb) : PD X (.BinOp a .LShift b pos) (eBin shlD fa fb) := pd_bin op_shl (bin_I fun _ _ h => h) ha hb
def shrD := iF (fun _ j => 0 ≤ j) (fun i j => i / 2 ^ j.toNat)
theorem shrD_p {i j : Int} (h : 0 ≤ j) : shrD (.int i) (.int j) = some (.int (i / 2 ^ j.toNat)) := if_pos h
theorem pd_shr {a b : Expr} {fa fb : SEnv → Option Sl} {pos : Pos} (ha : PD X a fa) (hb : PD X b fb) : PD X (.BinOp a .RShift b pos) (eBin shrD fa fb) := pd_bin op_shr (bin_I fun _ _ h => h) ha hb
abbrev andD := iF0 Builtin.bitAnd
abbrev orD := iF0 Builtin.bitOr
theorem pd_band {a b : Expr} {fa fb : SEnv → Option Sl} {pos : Pos} (ha : PD X a fa) (hb : PD X b fb) : PD X (.BinOp a .BitAnd b pos) (eBin andD fa fb) := pd_bin op_and bin_I0 ha hb
theorem pd_bor {a b : Expr} {fa fb : SEnv → Option Sl} {pos : Pos} (ha : PD X a fa) (hb : PD X b fb) : PD X (.BinOp a .BitOr b pos) (eBin orD fa fb) := pd_bin op_or bin_I0 ha hb
/-! ### one-place -/
def sl1 (f : D → Option D) : Option Sl → Option Sl
  | some (.pl x) => (f x).map .pl
  | _ => none
@[simp] theorem sl1_pl (f : D → Option D) (x : D) : sl1 f (some (.pl x)) = (f x).map .pl := rfl
theorem sl1_inv {f : D → Option D} {a : Option Sl} {s : Sl} (h : sl1 f a = some s) : ∃ x d, a = some (.pl x) ∧ f x = some d ∧ s = .pl d := by
  unfold sl1 at h
  split at h
  · rename_i x
    cases e : f x with
    | none => rw [e] at h; cases h
    | some d => rw [e] at h; cases h; exact ⟨x, d, rfl, e, rfl⟩
  · cases h
def eUn (f : D → Option D) (a : SEnv → Option Sl) : SEnv → Option Sl := fun ρ => sl1 f (a ρ)
def uF (g : Int → Int) : D → Option D
  | .int i => some (.int (g i))
  | _ => none
@[simp] theorem uF_int (g : Int → Int) (i : Int) : uF g (.int i) = some (.int (g i)) := rfl
theorem pd_unI {op : UnaryOp} {g : Int → Int} {a : Expr} {fa : SEnv → Option Sl} {pos : Pos} (ho : UnR X (unaryOp op) (rU fun i => .int (g i))) (ha : PD X a fa) : PD X (.UnaryOp op a pos) (eUn (uF g) fa) :=
  PE_imp (pe_un ho ha) fun σ H Q ⟨B, Z0, Z, ρ, s, x, e, k⟩ => by
    obtain ⟨dx, d, ea, ef, rfl⟩ := sl1_inv e
    refine er1 x ea fun v Z' H' k' r1 => ?_
    have h := r1.data
    cases h <;> first | (cases ef; done) | skip
    cases ef
    exact ⟨_, rfl, k _ Z' H' k' (vlR.pl (.int _))⟩
theorem pd_neg {a : Expr} {fa : SEnv → Option Sl} {pos : Pos} (ha : PD X a fa) : PD X (.UnaryOp .USub a pos) (eUn (uF fun i => -i) fa) := pd_unI un_neg ha
theorem pd_inv {a : Expr} {fa : SEnv → Option Sl} {pos : Pos} (ha : PD X a fa) : PD X (.UnaryOp .Invert a pos) (eUn (uF Builtin.bitNot) fa) := pd_unI un_inv ha

/-! ### comparisons -/
def vw2 (f : D → D → Option Bool) : Option Sl → Option Sl → Option Bool
  | some a, some b => match view a, view b with
    | some x, some y => f x y
    | _, _ => none
  | _, _ => none
theorem vw2_inv {f : D → D → Option Bool} {a b : Option Sl} {r : Bool} (h : vw2 f a b = some r) : ∃ s t x y, a = some s ∧ b = some t ∧ view s = some x ∧ view t = some y ∧ f x y = some r := by
  unfold vw2 at h
  split at h
  · split at h
    · rename_i h1 h2
      exact ⟨_, _, _, _, rfl, rfl, h1, h2, h⟩
    · cases h
  · cases h
@[simp] theorem vw2_pl (f : D → D → Option Bool) (x y : D) : vw2 f (some (.pl x)) (some (.pl y)) = f x y := rfl
@[simp] theorem vw2_pb (f : D → D → Option Bool) (x : D) (y : List D) : vw2 f (some (.pl x)) (some (.brw y)) = f x (.list y) := rfl
@[simp] theorem vw2_bp (f : D → D → Option Bool) (x : List D) (y : D) : vw2 f (some (.brw x)) (some (.pl y)) = f (.list x) y := rfl
@[simp] theorem vw2_bb (f : D → D → Option Bool) (x y : List D) : vw2 f (some (.brw x)) (some (.brw y)) = f (.list x) (.list y) := rfl
@[simp] theorem vw2_bo (f : D → D → Option Bool) (x y : List D) : vw2 f (some (.brw x)) (some (.own y)) = f (.list x) (.list y) := rfl
@[simp] theorem vw2_ob (f : D → D → Option Bool) (x y : List D) : vw2 f (some (.own x)) (some (.brw y)) = f (.list x) (.list y) := rfl
@[simp] theorem vw2_oo (f : D → D → Option Bool) (x y : List D) : vw2 f (some (.own x)) (some (.own y)) = f (.list x) (.list y) := rfl
@[simp] theorem vw2_po (f : D → D → Option Bool) (x : D) (y : List D) : vw2 f (some (.pl x)) (some (.own y)) = f x (.list y) := rfl
@[simp] theorem vw2_op (f : D → D → Option Bool) (x : List D) (y : D) : vw2 f (some (.own x)) (some (.pl y)) = f (.list x) y := rfl
def tCmp2 (f : D → D → Option Bool) (a b : SEnv → Option Sl) : SEnv → Option Bool := fun ρ => vw2 f (a ρ) (b ρ)
/-- a test's answer as a value -/
def eB (t : SEnv → Option Bool) : SEnv → Option Sl := fun ρ => (t ρ).map fun b => .pl (.bool b)
def CmpOK (K : PySem.W.Frag) (r : R2) (f : D → D → Option Bool) : Prop := ∀ {H : Hp} {x y : V} {dx dy : D} {b : Bool} {Q : VK}, Dp K H x dx → Dp K H y dy → f dx dy = some b → Q (.bl b) H → r x y H Q
theorem cmp_core {r : R2} {f : D → D → Option Bool} {fa fb : SEnv → Option Sl} (hf : CmpOK X.K r f) {σ : L2.St} {H : Hp} {Q : VK} {B Z0 Z : Hp} {ρ : SEnv} {b : Bool} (x : St X.K B Z0 Z H σ ρ) (e : tCmp2 f fa fb ρ = some b)
    (k : ∀ Z' H', Step Z H Z' H' → Q (.bl b) H') : tOp r (ER X.K fa) (ER X.K fb) σ H Q := by
  obtain ⟨s, t, dx, dy, ea, eb, va, vb, ef⟩ := vw2_inv e
  refine er2 x ea eb fun v w Z' H' k' r1 r2 => ?_
  exact hf (view_ok r1 k'.zh va) (view_ok r2 k'.zh vb) ef (k Z' H' k')
theorem pd_cmp {op : CmpOp} {r : R2} {f : D → D → Option Bool} {a b : Expr} {fa fb : SEnv → Option Sl} {pos : Pos} (ho : OpR X (compareOp op) r) (hf : CmpOK X.K r f) (ha : PD X a fa) (hb : PD X b fb) (hm : behindInMarks op b = false) : PD X (.Compare a [op] [b] pos) (eB (tCmp2 f fa fb)) :=
  PE_imp (pe_cmpR ho ha hb hm) fun σ H Q ⟨B, Z0, Z, ρ, s, x, e, k⟩ => by
    unfold eB at e
    cases q : tCmp2 f fa fb ρ with
    | none => rw [q] at e; cases e
    | some c =>
      rw [q] at e
      cases e
      exact cmp_core hf x q fun Z' H' k' => k _ Z' H' k' (vlR.pl (.bl c))
theorem td_cmp {op : CmpOp} {r : R2} {f : D → D → Option Bool} {a b : Expr} {fa fb : SEnv → Option Sl} {pos : Pos} (ho : OpR X (compareOp op) r) (hf : CmpOK X.K r f) (ha : PD X a fa) (hb : PD X b fb) (hm : behindInMarks op b = false) : TD X (.Compare a [op] [b] pos) (tCmp2 f fa fb) :=
  PT_imp (pt_cmpR ho ha hb hm) fun σ H Q ⟨B, Z0, Z, ρ, c, x, e, k⟩ => cmp_core (Q := fun x H' => ∃ k, x = .bl k ∧ Q k H') hf x e fun Z' H' k' => ⟨c, rfl, k Z' H' k'⟩
def cF (p : Int → Int → Bool) : D → D → Option Bool
  | .int i, .int j => some (p i j)
  | _, _ => none
@[simp] theorem cF_int (p : Int → Int → Bool) (i j : Int) : cF p (.int i) (.int j) = some (p i j) := rfl
theorem cmp_I {K : PySem.W.Frag} {p : Int → Int → Bool} : CmpOK K (rI0 fun i j => .bl (p i j)) (cF p) := by
  intro H x y dx dy b Q hx hy e k
  cases hx <;> cases hy <;> first | (cases e; done) | skip
  cases e
  exact ⟨_, _, rfl, rfl, k⟩
abbrev ltD := cF fun i j => decide (i < j)
abbrev leD := cF fun i j => decide (i ≤ j)
abbrev gtD := cF fun i j => decide (j < i)
abbrev geD := cF fun i j => decide (j ≤ i)
theorem ok_lt {K : PySem.W.Frag} : CmpOK K (rI0 fun i j => .bl (decide (i < j))) ltD := cmp_I
theorem ok_le {K : PySem.W.Frag} : CmpOK K (rI0 fun i j => .bl (decide (i ≤ j))) leD := cmp_I
theorem ok_gt {K : PySem.W.Frag} : CmpOK K (rI0 fun i j => .bl (decide (j < i))) gtD := cmp_I
theorem ok_ge {K : PySem.W.Frag} : CmpOK K (rI0 fun i j => .bl (decide (j ≤ i))) geD := cmp_I
def eqS : D → D → Option Bool
  | .str x, .str y => some (x == y)
  | _, _ => none
def eqG (d e : D) : Option Bool := if SeqAt.shaped d = true ∧ SeqAt.shaped e = true then some (PyData.eqv d e) else none
def eqD (d e : D) : Option Bool := (eqS d e).or (eqG d e)
def neD (d e : D) : Option Bool := (eqD d e).map (!·)
theorem ok_eq {K : PySem.W.Frag} : CmpOK K (fun x y H Q => rEq x y H Q ∨ rEqD K x y H Q) eqD := by
  intro H x y dx dy b Q hx hy e k
  unfold eqD at e
  cases q : eqS dx dy with
  | some c =>
    rw [q] at e
    cases e
    cases hx <;> first | (cases q; done) | skip
    cases hy <;> first | (cases q; done) | skip
    cases q
    exact .inl ⟨rfl, by rw [dec_str]; exact k⟩
  | none =>
    rw [q] at e
    change eqG dx dy = some b at e
    unfold eqG at e
    by_cases c : SeqAt.shaped dx = true ∧ SeqAt.shaped dy = true
    · rw [if_pos c] at e
      cases e
      exact .inr ⟨dx, dy, hx, hy, c.1, c.2, k⟩
    · rw [if_neg c] at e; cases e
theorem ok_ne {K : PySem.W.Frag} : CmpOK K (fun x y H Q => rNe x y H Q ∨ rNeD K x y H Q) neD := by
  intro H x y dx dy b Q hx hy e k
  unfold neD eqD at e
  cases q : eqS dx dy with
  | some c =>
    rw [q] at e
    cases e
    cases hx <;> first | (cases q; done) | skip
    cases hy <;> first | (cases q; done) | skip
    cases q
    exact .inl ⟨rfl, by rw [dec_str]; exact k⟩
  | none =>
    rw [q] at e
    change (eqG dx dy).map (!·) = some b at e
    unfold eqG at e
    by_cases c : SeqAt.shaped dx = true ∧ SeqAt.shaped dy = true
    · rw [if_pos c] at e
      cases e
      exact .inr ⟨dx, dy, hx, hy, c.1, c.2, k⟩
    · rw [if_neg c] at e; cases e
theorem op_eqA (hu : X.A.units + 64 < cLine) : OpR X (compareOp .Eq) (fun x y H Q => rEq x y H Q ∨ rEqD X.K x y H Q) := op_eq.or (op_eqD hu)
theorem op_neA (hu : X.A.units + 64 < cLine) : OpR X (compareOp .NotEq) (fun x y H Q => rNe x y H Q ∨ rNeD X.K x y H Q) := op_ne.or (op_neD hu)
theorem eqD_g {d e : D} (h0 : eqS d e = none) (h1 : SeqAt.shaped d = true) (h2 : SeqAt.shaped e = true) : eqD d e = some (PyData.eqv d e) := by
  unfold eqD eqG
  rw [h0, if_pos ⟨h1, h2⟩]
  rfl
@[simp] theorem eqD_int (i j : Int) : eqD (.int i) (.int j) = some (i == j) := rfl
@[simp] theorem neD_int (i j : Int) : neD (.int i) (.int j) = some (!(i == j)) := rfl
@[simp] theorem eqD_str (i j : Str) : eqD (.str i) (.str j) = some (i == j) := rfl
@[simp] theorem neD_str (i j : Str) : neD (.str i) (.str j) = some (!(i == j)) := rfl
/-- is None -/
def isNoneD : D → Bool
  | .none => true
  | _ => false
@[simp] theorem isNoneD_none : isNoneD .none = true := rfl
@[simp] theorem isNoneD_int (i : Int) : isNoneD (.int i) = false := rfl
@[simp] theorem isNoneD_bool (i : Bool) : isNoneD (.bool i) = false := rfl
@[simp] theorem isNoneD_str (i : Str) : isNoneD (.str i) = false := rfl
@[simp] theorem isNoneD_list (i : List D) : isNoneD (.list i) = false := rfl
@[simp] theorem isNoneD_tuple (i : List D) : isNoneD (.tuple i) = false := rfl
theorem isNone_dec {K : PySem.W.Frag} {H : Hp} {x : V} {d : D} (h : Dp K H x d) : decide (x = .non) = isNoneD d := by
  cases h <;> first | rfl | (apply decide_eq_false; intro z; cases z)
def isnF (d : D) (e : D) : Option Bool := match e with
  | .none => some (isNoneD d)
  | _ => none
def notnF (d : D) (e : D) : Option Bool := match e with
  | .none => some (!isNoneD d)
  | _ => none
@[simp] theorem isnF_none (d : D) : isnF d .none = some (isNoneD d) := rfl
@[simp] theorem notnF_none (d : D) : notnF d .none = some (!isNoneD d) := rfl
theorem ok_isN {K : PySem.W.Frag} : CmpOK K (fun x y H Q => y = .non ∧ Q (.bl (decide (x = .non))) H) isnF := by
  intro H x y dx dy b Q hx hy e k
  cases hy <;> first | (cases e; done) | skip
  cases e
  exact ⟨rfl, by rw [isNone_dec hx]; exact k⟩
theorem ok_notN {K : PySem.W.Frag} : CmpOK K (fun x y H Q => y = .non ∧ Q (.bl (!decide (x = .non))) H) notnF := by
  intro H x y dx dy b Q hx hy e k
  cases hy <;> first | (cases e; done) | skip
  cases e
  exact ⟨rfl, by rw [isNone_dec hx]; exact k⟩

/-! ### tests -/
def tAnd2 (t u : SEnv → Option Bool) : SEnv → Option Bool := fun ρ => match t ρ with
  | some true => u ρ
  | some false => some false
  | none => none
def tOr2 (t u : SEnv → Option Bool) : SEnv → Option Bool := fun ρ => match t ρ with
  | some true => some true
  | some false => u ρ
  | none => none
def tNot1 (t : SEnv → Option Bool) : SEnv → Option Bool := fun ρ => (t ρ).map (!·)
theorem wd_and1 {a : Expr} {t : SEnv → Option Bool} {pos : Pos} (ha : TD X a t) : WD X (.BoolOp .And [a] pos) t := pw_and1 ha
theorem wd_or1 {a : Expr} {t : SEnv → Option Bool} {pos : Pos} (ha : TD X a t) : WD X (.BoolOp .Or [a] pos) t := pw_or1 ha
theorem wd_and {a b : Expr} {rest : List Expr} {t u : SEnv → Option Bool} {pos : Pos} (ha : TD X a t) (hb : WD X (.BoolOp .And (b :: rest) pos) u) : WD X (.BoolOp .And (a :: b :: rest) pos) (tAnd2 t u) :=
  PW_imp (pw_and ha hb) fun σ H Q ⟨B, Z0, Z, ρ, c, x, e, k⟩ => by
    unfold tAnd2 at e
    cases q : t ρ with
    | none => rw [q] at e; cases e
    | some b =>
      rw [q] at e
      refine tr1 x q fun Z' H' k' => ?_
      cases b with
      | true => exact iteT (tr1 (x.step k') e fun Z2 H2 k2 => k Z2 H2 (k'.trans k2))
      | false => cases e; exact iteF (k Z' H' k')
theorem wd_or {a b : Expr} {rest : List Expr} {t u : SEnv → Option Bool} {pos : Pos} (ha : TD X a t) (hb : WD X (.BoolOp .Or (b :: rest) pos) u) : WD X (.BoolOp .Or (a :: b :: rest) pos) (tOr2 t u) :=
  PW_imp (pw_or ha hb) fun σ H Q ⟨B, Z0, Z, ρ, c, x, e, k⟩ => by
    unfold tOr2 at e
    cases q : t ρ with
    | none => rw [q] at e; cases e
    | some b =>
      rw [q] at e
      refine tr1 x q fun Z' H' k' => ?_
      cases b with
      | false => exact iteF (tr1 (x.step k') e fun Z2 H2 k2 => k Z2 H2 (k'.trans k2))
      | true => cases e; exact iteT (k Z' H' k')
theorem td_w {e : Expr} {t : SEnv → Option Bool} (h : WD X e t) : TD X e t := h.pt
theorem td_not {a : Expr} {t : SEnv → Option Bool} {pos : Pos} (ha : TD X a t) : TD X (.UnaryOp .Not a pos) (tNot1 t) :=
  PT_imp (pt_not ha) fun σ H Q ⟨B, Z0, Z, ρ, c, x, e, k⟩ => by
    unfold tNot1 at e
    cases q : t ρ with
    | none => rw [q] at e; cases e
    | some b => rw [q] at e; cases e; exact tr1 x q k
/-- a value's truth -/
def truD : Sl → Option Bool
  | .pl .none => some false
  | .pl (.bool b) => some b
  | .pl (.int i) => some (i != 0)
  | .pl (.str y) => if y.length ≤ 16777216 then some ((y.length : Int) != 0) else none
  | .pl (.list ds) => some (!ds.isEmpty)
  | .pl (.tuple ds) => some (!ds.isEmpty)
  | .own ds => some (!ds.isEmpty)
  | .brw ds => some (!ds.isEmpty)
  | _ => none
@[simp] theorem truD_bool (b : Bool) : truD (.pl (.bool b)) = some b := rfl
@[simp] theorem truD_none : truD (.pl .none) = some false := rfl
@[simp] theorem truD_int (i : Int) : truD (.pl (.int i)) = some (i != 0) := rfl
@[simp] theorem truD_list (i : List D) : truD (.pl (.list i)) = some (!i.isEmpty) := rfl
@[simp] theorem truD_tuple (i : List D) : truD (.pl (.tuple i)) = some (!i.isEmpty) := rfl
@[simp] theorem truD_own (i : List D) : truD (.own i) = some (!i.isEmpty) := rfl
@[simp] theorem truD_brw (i : List D) : truD (.brw i) = some (!i.isEmpty) := rfl
theorem empty_iff {K : PySem.W.Frag} {Z : Hp} {vs : List V} {ds : List D} (h : DpAll K Z vs ds) : (!ds.isEmpty) = !vs.isEmpty := by cases h <;> rfl
theorem truD_ok {K : PySem.W.Frag} {H0 Z H : Hp} {v : V} {s : Sl} {b : Bool} (h : vlR K H0 Z H v s) (zh : Same Z H) (e : truD s = some b) : TruV K v H b := by
  obtain ⟨fp, h1, h2⟩ := h
  cases s with
  | pl c =>
    obtain ⟨_, x, hx, hd⟩ := h1
    cases hx
    cases hd with
    | non => cases e; exact rfl
    | bl k => cases e; exact rfl
    | int i => cases e; exact rfl
    | str y =>
      change (if y.length ≤ 16777216 then some ((y.length : Int) != 0) else none) = some b at e
      by_cases c : y.length ≤ 16777216
      · rw [if_pos c] at e; cases e; exact ⟨by rw [sizeLine_eq]; exact c, rfl⟩
      · rw [if_neg c] at e; cases e
    | lst q r => cases e; exact .inl ⟨_, zh.seq q, empty_iff r⟩
    | tup q r => cases e; exact .inr (.inl ⟨_, sqT_mono zh q, empty_iff r⟩)
  | own ds => cases e; obtain ⟨p, vs, _, hx, hp, hd⟩ := h1; cases hx; exact .inl ⟨_, .inl (.inl hp), empty_iff hd⟩
  | brw ds => cases e; obtain ⟨_, p, vs, hx, hp, hd⟩ := h1; cases hx; exact .inl ⟨_, .inl (.inl hp), empty_iff hd⟩
  | _ => cases e
def tTru (a : SEnv → Option Sl) : SEnv → Option Bool := fun ρ => match a ρ with
  | some s => truD s
  | none => none
theorem td_val {a : Expr} {fa : SEnv → Option Sl} (ha : PD X a fa) (he : ∀ whole, isTrue a X.env whole = (do let v ← whole; standAt a.pos; holding [v] (truthy v)) := by intro _; rfl) : TD X a (tTru fa) :=
  PT_imp (pt_truth ha he) fun σ H Q ⟨B, Z0, Z, ρ, c, x, e, k⟩ => by
    unfold tTru at e
    cases q : fa ρ with
    | none => rw [q] at e; cases e
    | some s =>
      rw [q] at e
      exact er1 x q fun v Z' H' k' r => ⟨c, truD_ok r k'.zh e, k Z' H' k'⟩
/-! ### and, or, not as values; a if t else b -/
theorem pd_one {op} {a : Expr} {fa : SEnv → Option Sl} {pos : Pos} (ha : PD X a fa) : PD X (.BoolOp op [a] pos) fa := pe_one ha
def eAnd (a b : SEnv → Option Sl) : SEnv → Option Sl := fun ρ => match a ρ with
  | some (.pl (.bool true)) => b ρ
  | some (.pl (.bool false)) => some (.pl (.bool false))
  | _ => none
def eOr (a b : SEnv → Option Sl) : SEnv → Option Sl := fun ρ => match a ρ with
  | some (.pl (.bool true)) => some (.pl (.bool true))
  | some (.pl (.bool false)) => b ρ
  | _ => none
theorem pd_and {a b : Expr} {rest : List Expr} {fa fb : SEnv → Option Sl} {pos : Pos} (ha : PD X a fa) (hb : PD X (.BoolOp .And (b :: rest) pos) fb) : PD X (.BoolOp .And (a :: b :: rest) pos) (eAnd fa fb) :=
  PE_imp (pe_and ha hb) fun σ H Q ⟨B, Z0, Z, ρ, s, x, e, k⟩ => by
    unfold eAnd at e
    split at e
    · rename_i q
      refine er1 x q fun v Z' H' k' r => ?_
      have h := r.data
      cases h
      exact ⟨true, rfl, iteT (er1 (x.step k') e fun w Z2 H2 k2 r2 => k w Z2 H2 (k'.trans k2) (r2.back k'.bh))⟩
    · rename_i q
      cases e
      refine er1 x q fun v Z' H' k' r => ?_
      have h := r.data
      cases h
      exact ⟨false, rfl, iteF (k _ Z' H' k' (vlR.pl (.bl false)))⟩
    · cases e
theorem pd_or {a b : Expr} {rest : List Expr} {fa fb : SEnv → Option Sl} {pos : Pos} (ha : PD X a fa) (hb : PD X (.BoolOp .Or (b :: rest) pos) fb) : PD X (.BoolOp .Or (a :: b :: rest) pos) (eOr fa fb) :=
  PE_imp (pe_or ha hb) fun σ H Q ⟨B, Z0, Z, ρ, s, x, e, k⟩ => by
    unfold eOr at e
    split at e
    · rename_i q
      cases e
      refine er1 x q fun v Z' H' k' r => ?_
      have h := r.data
      cases h
      exact ⟨true, rfl, iteT (k _ Z' H' k' (vlR.pl (.bl true)))⟩
    · rename_i q
      refine er1 x q fun v Z' H' k' r => ?_
      have h := r.data
      cases h
      exact ⟨false, rfl, iteF (er1 (x.step k') e fun w Z2 H2 k2 r2 => k w Z2 H2 (k'.trans k2) (r2.back k'.bh))⟩
    · cases e
def notD : D → Option D
  | .bool b => some (.bool !b)
  | _ => none
@[simp] theorem notD_bool (b : Bool) : notD (.bool b) = some (.bool !b) := rfl
theorem pd_not {a : Expr} {fa : SEnv → Option Sl} {pos : Pos} (ha : PD X a fa) : PD X (.UnaryOp .Not a pos) (eUn notD fa) :=
  PE_imp (pe_not ha) fun σ H Q ⟨B, Z0, Z, ρ, s, x, e, k⟩ => by
    obtain ⟨dx, d, ea, ef, rfl⟩ := sl1_inv e
    refine er1 x ea fun v Z' H' k' r1 => ?_
    have h := r1.data
    cases h <;> first | (cases ef; done) | skip
    cases ef
    exact ⟨_, rfl, k _ Z' H' k' (vlR.pl (.bl _))⟩
def eIf (t : SEnv → Option Bool) (a b : SEnv → Option Sl) : SEnv → Option Sl := fun ρ => match t ρ with
  | some true => a ρ
  | some false => b ρ
  | none => none
theorem pd_if {c a b : Expr} {t : SEnv → Option Bool} {fa fb : SEnv → Option Sl} {pos : Pos} (hc : TD X c t) (ha : PD X a fa) (hb : PD X b fb) : PD X (.IfExp c a b pos) (eIf t fa fb) :=
  PE_imp (pe_ifExp hc ha hb) fun σ H Q ⟨B, Z0, Z, ρ, s, x, e, k⟩ => by
    unfold eIf at e
    split at e
    · rename_i q
      exact tr1 x q fun Z' H' k' => iteT (er1 (x.step k') e fun w Z2 H2 k2 r2 => k w Z2 H2 (k'.trans k2) (r2.back k'.bh))
    · rename_i q
      exact tr1 x q fun Z' H' k' => iteF (er1 (x.step k') e fun w Z2 H2 k2 r2 => k w Z2 H2 (k'.trans k2) (r2.back k'.bh))
    · cases e

/-! ### displays -/
def dNil : SEnv → Option (List D) := fun _ => some []
def dCons (a : SEnv → Option Sl) (r : SEnv → Option (List D)) : SEnv → Option (List D) := fun ρ => match a ρ with
  | some s => match toD s, r ρ with
    | some d, some ds => some (d :: ds)
    | _, _ => none
  | none => none
theorem dd_nil : DD X [] dNil := PA_imp pa_nil fun σ H Q ⟨B, Z0, Z, ρ, ds, x, e, k⟩ => by
  cases e
  exact k [] Z H (Step.refl x.zh) .nil
theorem dd_cons {a : Expr} {es : List Expr} {fa : SEnv → Option Sl} {fr : SEnv → Option (List D)} (ha : PD X a fa) (hr : DD X es fr) (hs : starEach (a :: es) X.env = (false, eval a X.env) :: starEach es X.env := by rfl) : DD X (a :: es) (dCons fa fr) :=
  PA_imp (pa_cons ha hr hs) fun σ H Q ⟨B, Z0, Z, ρ, ds, x, e, k⟩ => by
    unfold dCons at e
    cases q : fa ρ with
    | none => rw [q] at e; cases e
    | some s =>
      rw [q] at e
      cases qd : toD s with
      | none => simp only [qd] at e; cases e
      | some d =>
        cases qr : fr ρ with
        | none => simp only [qd, qr] at e; cases e
        | some ds' =>
          simp only [qd, qr] at e
          cases e
          refine er1 x q fun v Z' H' k' r => ?_
          obtain ⟨Z2, k2, zz, hd⟩ := toD_ok k' r qd
          refine ⟨B, Z0, Z2, ρ, ds', x.step k2, qr, fun vs Z3 H3 k3 hds => ?_⟩
          exact k _ Z3 H3 (k2.trans k3) (.cons (Dp_mono k3.zz _ _ hd) hds)
def eTup (f : SEnv → Option (List D)) : SEnv → Option Sl := fun ρ => match f ρ with
  | some ds => if ds.length ≤ 1000 then some (.pl (.tuple ds)) else none
  | none => none
def eLst (f : SEnv → Option (List D)) : SEnv → Option Sl := fun ρ => match f ρ with
  | some ds => if ds.length ≤ 1000 then some (.own ds) else none
  | none => none
theorem pd_tup {es : List Expr} {x1} {pos : Pos} {f : SEnv → Option (List D)} (h : DD X es f) : PD X (.Tuple es x1 pos) (eTup f) :=
  PE_imp (pe_tup h) fun σ H Q ⟨B, Z0, Z, ρ, s, x, e, k⟩ => by
    unfold eTup at e
    cases q : f ρ with
    | none => rw [q] at e; cases e
    | some ds =>
      rw [q] at e
      by_cases c : ds.length ≤ 1000
      · simp only [if_pos c] at e
        cases e
        refine ⟨B, Z0, Z, ρ, ds, x, q, fun vs Z' H' k' hds => ⟨by rw [sizeLine_eq, DpAll_length hds]; omega, fun p hp => ?_⟩⟩
        obtain ⟨s2, r⟩ := Dp_newT k'.zh hp hds
        exact k _ _ _ (k'.trans s2) (vlR.pl r)
      · simp only [if_neg c] at e; cases e
theorem pd_lst {es : List Expr} {pos : Pos} {f : SEnv → Option (List D)} (h : DD X es f) : PD X (.List es pos) (eLst f) :=
  PE_imp (pe_lst h) fun σ H Q ⟨B, Z0, Z, ρ, s, x, e, k⟩ => by
    unfold eLst at e
    cases q : f ρ with
    | none => rw [q] at e; cases e
    | some ds =>
      rw [q] at e
      by_cases c : ds.length ≤ 1000
      · simp only [if_pos c] at e
        cases e
        refine ⟨B, Z0, Z, ρ, ds, x, q, fun vs Z' H' k' hds => ⟨by rw [sizeLine_eq, DpAll_length hds]; omega, fun p hp => ?_⟩⟩
        obtain ⟨s2, r⟩ := vlR.newL k'.zh hp hds
        exact k _ _ _ (k'.trans s2) (r.back k'.bh)
      · simp only [if_neg c] at e; cases e
end
end DL

set_option Elab.async false
set_option linter.all false
set_option maxRecDepth 100000
set_option maxHeartbeats 1000000
/-! DL3: subscripts, slices, calls, statements, loops, comprehensions, defs. -/
namespace DL
open PySem PySem.Spec PyProof.Rows L2
section
variable {X : Cx}
/-! ### subscripts -/
def ixD : Sl → D → Option D
  | .pl (.str s), .int i => if s.length ≤ 16777216 then (atI s.cps.toList i).map fun c => .str ⟨#[c]⟩ else none
  | s, .int i => (items s).bind fun ds => atI ds i
  | _, _ => none
def eIx (a b : SEnv → Option Sl) : SEnv → Option Sl := fun ρ => match a ρ, b ρ with
  | some s, some (.pl i) => (ixD s i).map .pl
  | _, _ => none
theorem atI_D {K : PySem.W.Frag} {Z : Hp} {vs : List V} {ds : List D} {i : Int} {d : D} (h : DpAll K Z vs ds) (e : atI ds i = some d) : ∃ v, atI vs i = some v ∧ Dp K Z v d := by
  unfold atI at e ⊢
  rw [DpAll_length h]
  cases q : ixN ds.length i with
  | none => rw [q] at e; cases e
  | some j =>
    rw [q] at e
    exact DpAll_get h e
theorem pd_ix {a b : Expr} {fa fb : SEnv → Option Sl} {pos : Pos} (ha : PD X a fa) (hb : PD X b fb) (hs : PlainIx b := by exact fun _ _ => rfl) : PD X (.Subscript a b pos) (eIx fa fb) :=
  PE_imp (pe_ix ix_seq ha hb hs) fun σ H Q ⟨B, Z0, Z, ρ, s, x, e, k⟩ => by
    unfold eIx at e
    split at e
    · rename_i t i qa qb
      cases q : ixD t i with
      | none => rw [q] at e; cases e
      | some d =>
        rw [q] at e
        cases e
        refine er2 x qa qb fun v w Z' H' k' r1 r2 => ?_
        have hi := r2.data
        cases hi <;> first | (cases t <;> (try (rename_i c; cases c)) <;> cases q; done) | skip
        rename_i i
        by_cases hstr : ∃ z, t = .pl (.str z)
        · obtain ⟨z, rfl⟩ := hstr
          have h1 := r1.data
          cases h1
          change (if z.length ≤ 16777216 then (atI z.cps.toList i).map fun c => PyData.str ⟨#[c]⟩ else none) = some d at q
          by_cases c : z.length ≤ 16777216
          · rw [if_pos c] at q
            cases q2 : atI z.cps.toList i with
            | none => rw [q2] at q; cases q
            | some c =>
              rw [q2] at q
              cases q
              exact .inr (.inr ⟨z, i, c, rfl, rfl, by rw [sizeLine_eq]; assumption, q2, k _ Z' H' k' (vlR.pl (.str _))⟩)
          · rw [if_neg c] at q; cases q
        · have q' : (items t).bind (fun ds => atI ds i) = some d := by
            cases t with
            | pl c => cases c <;> first | exact q | exact absurd ⟨_, rfl⟩ hstr
            | _ => exact q
          cases qi : items t with
          | none => rw [qi] at q'; cases q'
          | some ds =>
            rw [qi] at q'
            obtain ⟨p, vs, rfl, hq, hd⟩ := items_ok r1 k'.zh qi
            obtain ⟨u, hu, hud⟩ := atI_D hd q'
            rcases hq with hq | hq
            · exact .inl ⟨p, vs, i, u, rfl, rfl, hq, hu, k _ Z' H' k' (vlR.pl hud)⟩
            · exact .inr (.inl ⟨p, vs, i, u, rfl, rfl, hq, hu, k _ Z' H' k' (vlR.pl hud)⟩)
    · cases e
/-! ### slices -/
def OR (K : PySem.W.Frag) (f : SEnv → Option (Option Int)) : TO := fun σ H Q => ∃ B Z0 Z ρ o, St K B Z0 Z H σ ρ ∧ f ρ = some o ∧ ∀ Z' H', Step Z H Z' H' → Q o H'
theorem PO_imp {e : Option Expr} {t t' : TO} (h : PO X e t) (i : ∀ σ H Q, t' σ H Q → t σ H Q) : PO X e t' := ⟨fun pins s σ H Q I hw => h.run pins s σ H Q I (i σ H Q hw)⟩
def oNone : SEnv → Option (Option Int) := fun _ => some none
def oSome (f : SEnv → Option Sl) : SEnv → Option (Option Int) := fun ρ => match f ρ with
  | some (.pl (.int i)) => some (some i)
  | _ => none
theorem od_none : PO X none (OR X.K oNone) := PO_imp po_none fun σ H Q ⟨B, Z0, Z, ρ, o, x, e, k⟩ => by
  cases e
  exact k Z H (Step.refl x.zh)
theorem od_some {e : Expr} {f : SEnv → Option Sl} (h : PD X e f) : PO X (some e) (OR X.K (oSome f)) := PO_imp (po_some h) fun σ H Q ⟨B, Z0, Z, ρ, o, x, e, k⟩ => by
  unfold oSome at e
  split at e
  · rename_i q
    cases e
    refine er1 x q fun v Z' H' k' r => ?_
    have h := r.data
    cases h
    exact ⟨_, rfl, k Z' H' k'⟩
  · cases e
def cutD {α : Type} (xs : List α) (lo hi : Option Int) : List α := (xs.drop (HT.sIx xs.length 0 lo)).take (HT.sIx xs.length xs.length hi - HT.sIx xs.length 0 lo)
theorem cut_D {K : PySem.W.Frag} {Z : Hp} {vs : List V} {ds : List D} (lo hi : Option Int) (h : DpAll K Z vs ds) : DpAll K Z (cutV vs lo hi) (cutD ds lo hi) := by
  unfold cutV cutD
  rw [DpAll_length h]
  exact DpAll_take _ (DpAll_drop _ h)
def slD : Sl → Option Int → Option Int → Option Sl
  | .pl (.str s), lo, hi => if s.length ≤ 16777216 then some (.pl (.str (cutS s lo hi))) else none
  | .pl (.tuple ds), lo, hi => some (.pl (.tuple (cutD ds lo hi)))
  | s, lo, hi => (litems s).map fun ds => .own (cutD ds lo hi)
def eSl (a : SEnv → Option Sl) (l h : SEnv → Option (Option Int)) : SEnv → Option Sl := fun ρ => match a ρ, l ρ, h ρ with
  | some s, some lo, some hi => slD s lo hi
  | _, _, _ => none
theorem cutD_whole {α : Type} {xs : List α} {lo hi : Option Int} (h : HT.sIx xs.length 0 lo = 0 ∧ HT.sIx xs.length xs.length hi = xs.length) : cutD xs lo hi = xs := by
  unfold cutD
  rw [h.1, h.2]
  simp
theorem pd_slice {a : Expr} {lo hi : Option Expr} {p2 pos : Pos} {fa : SEnv → Option Sl} {fl fh : SEnv → Option (Option Int)} (ha : PD X a fa) (hl : PO X lo (OR X.K fl)) (hh : PO X hi (OR X.K fh)) : PD X (.Subscript a (.Slice lo hi none p2) pos) (eSl fa fl fh) :=
  PE_imp (pe_slice (sl_list.or (sl_tupA.or sl_str)) ha hl hh) fun σ H Q ⟨B, Z0, Z, ρ, s, x, e, k⟩ => by
    unfold eSl at e
    split at e
    · rename_i t l h qa ql qh
      refine er1 x qa fun v Z1 H1 k1 r1 => ⟨B, Z0, Z1, ρ, l, x.step k1, ql, fun Z2 H2 k2 => ⟨B, Z0, Z2, ρ, h, (x.step k1).step k2, qh, fun Z3 H3 k3 => ?_⟩⟩
      have k' : Step Z H Z3 H3 := (k1.trans k2).trans k3
      have r := (r1.step k2).step k3
      by_cases hstr : ∃ z, t = .pl (.str z)
      · obtain ⟨z, rfl⟩ := hstr
        have h1 := r.data
        cases h1
        change (if z.length ≤ 16777216 then some (Sl.pl (.str (cutS z l h))) else none) = some s at e
        by_cases c : z.length ≤ 16777216
        · rw [if_pos c] at e
          cases e
          exact .inr (.inr ⟨z, rfl, by rw [sizeLine_eq]; exact c, k _ Z3 H3 k' (vlR.pl (.str _))⟩)
        · rw [if_neg c] at e; cases e
      · by_cases htup : ∃ z, t = .pl (.tuple z)
        · obtain ⟨z, rfl⟩ := htup
          cases e
          obtain ⟨p, vs, rfl, hq, hd⟩ := titems_ok r.data
          refine .inr (.inl ⟨p, vs, rfl, sqT_mono k'.zh hq, fun hw => ?_, fun _ q hq0 => ?_⟩)
          · rw [DpAll_length hd] at hw
            rw [cutD_whole hw] at k
            exact k _ Z3 H3 k' r
          · obtain ⟨k4, r4⟩ := Dp_newT k'.zh hq0 (cut_D l h hd)
            exact k _ _ _ (k'.trans k4) (vlR.pl r4)
        · have e' : (litems t).map (fun ds => Sl.own (cutD ds l h)) = some s := by
            cases t with
            | pl c => cases c <;> first | exact e | exact absurd ⟨_, rfl⟩ hstr | exact absurd ⟨_, rfl⟩ htup
            | _ => exact e
          cases qi : litems t with
          | none => rw [qi] at e'; cases e'
          | some ds =>
            rw [qi] at e'
            cases e'
            obtain ⟨p, vs, rfl, hq, hd⟩ := litems_ok r k'.zh qi
            refine .inl ⟨p, vs, rfl, hq, fun q hq0 => ?_⟩
            obtain ⟨k4, r4⟩ := vlR.newL k'.zh hq0 (cut_D l h hd)
            exact k _ _ _ (k'.trans k4) (r4.back k'.bh)
    · cases e
/-! ### arguments -/
def aNil : SEnv → Option (List Sl) := fun _ => some []
def aCons (a : SEnv → Option Sl) (r : SEnv → Option (List Sl)) : SEnv → Option (List Sl) := fun ρ => match a ρ, r ρ with
  | some s, some ss => some (bor s :: ss)
  | _, _ => none
@[simp] theorem bor_pl (d : D) : bor (.pl d) = .pl d := rfl
@[simp] theorem bor_own (d : List D) : bor (.own d) = .brw d := rfl
@[simp] theorem bor_brw (d : List D) : bor (.brw d) = .brw d := rfl
@[simp] theorem bor_tk (d : List D) : bor (.tk d) = .tk d := rfl
@[simp] theorem bor_lno (a : Addr) (d : List D) : bor (.lno a d) = .brw d := rfl
@[simp] theorem bor_kq (l : Bool) (d r : List D) : bor (.kq l d r) = .kq l d r := rfl
@[simp] theorem bor_bob (c : Str) (d : List (Str × Sl)) : bor (.bob c d) = .bob c d := rfl
@[simp] theorem bor_obj (a : Option Addr) (c : Str) (d : List (Str × Sl)) : bor (.obj a c d) = .bob c d := rfl
@[simp] theorem bor_bdc (c : List (Key × D)) : bor (.bdc c) = .bdc c := rfl
@[simp] theorem bor_dic (c : List (Key × D)) : bor (.dic c) = .bdc c := rfl
theorem ad_nil : AD X [] aNil := PA_imp pa_nil fun σ H Q ⟨B, Z0, Z, ρ, ds, x, e, k⟩ => by
  cases e
  exact k [] Z H (Step.refl x.zh) trivial
theorem ad_cons {a : Expr} {es : List Expr} {fa : SEnv → Option Sl} {fr : SEnv → Option (List Sl)} (ha : PD X a fa) (hr : AD X es fr) (hs : starEach (a :: es) X.env = (false, eval a X.env) :: starEach es X.env := by rfl) : AD X (a :: es) (aCons fa fr) :=
  PA_imp (pa_cons ha hr hs) fun σ H Q ⟨B, Z0, Z, ρ, ds, x, e, k⟩ => by
    unfold aCons at e
    split at e
    · rename_i s ss qa qr
      cases e
      refine er1 x qa fun v Z' H' k' r => ⟨B, Z0, Z', ρ, ss, x.step k', qr, fun vs Z2 H2 k2 r2 => ?_⟩
      exact k _ Z2 H2 (k'.trans k2) ⟨(bor_ok r).mono k2.bh k2.zz (fun _ h => nomatch h), r2⟩
    · cases e
/-! ### calls of built-ins, by values -/
def BuiOK (K : PySem.W.Frag) (r : List V → Hp → VK → Prop) (F : List Sl → Option Sl) : Prop := ∀ (Z H : Hp) (vs : List V) (ss : List Sl) (s : Sl) (Q : VK), Same Z H → AllB K Z H vs ss → F ss = some s → (∀ v Z' H', Step Z H Z' H' → vlR K H Z' H' v s → Q v H') → r vs H Q
def eBui (F : List Sl → Option Sl) (a : SEnv → Option (List Sl)) : SEnv → Option Sl := fun ρ => match a ρ with
  | some ss => F ss
  | none => none
theorem bui_core {r : List V → Hp → VK → Prop} {F : List Sl → Option Sl} {a : SEnv → Option (List Sl)} (hf : BuiOK X.K r F) {σ : L2.St} {H : Hp} {Q : VK} (h : ER X.K (eBui F a) σ H Q) : tCB r (AR X.K a) σ H Q := by
  obtain ⟨B, Z0, Z, ρ, s, x, e, k⟩ := h
  unfold eBui at e
  cases q : a ρ with
  | none => rw [q] at e; cases e
  | some ss =>
    rw [q] at e
    refine ⟨B, Z0, Z, ρ, ss, x, q, fun vs Z' H' k' r => ?_⟩
    exact hf _ _ _ _ _ _ k'.zh r e fun v Z2 H2 k2 r2 => k v Z2 H2 (k'.trans k2) (r2.back k'.bh)
theorem pd_callB {x : Str} {p pos : Pos} {e : Expr} {es : List Expr} {id : String} {r : List V → Hp → VK → Prop} {F : List Sl → Option Sl} {a : SEnv → Option (List Sl)} (hc : CallR X (.builtin id) r) (hf : BuiOK X.K r F) (hg : Gl X x) (hm : X.mg x = none) (hv : bootBuiltins x = some (.builtin id)) (ha : AD X (e :: es) a)
    (hn : x ≠ "__name__" := by decide) (hdb : (x == ("__debug__" : Str)) = false := by decide) (h1 : starEach (e :: es) X.env = (false, eval e X.env) :: starEach es X.env := by rfl) (h2 : ((backTo pos (starEach es X.env)).any fun x => x.fst) = false := by rfl) : PD X (.Call (.Name x p) (e :: es) [] pos) (eBui F a) :=
  PE_imp (pe_callB hc hg hm hv ha hn hdb h1 h2) fun σ H Q h => bui_core hf h
theorem pd_callTy {x : Str} {p pos : Pos} {e : Expr} {es : List Expr} {T : String} {r : List V → Hp → VK → Prop} {F : List Sl → Option Sl} {a : SEnv → Option (List Sl)} (hc : CallR X (.type T) r) (hf : BuiOK X.K r F) (hg : Gl X x) (hm : X.mg x = none) (hv : bootBuiltins x = some (.type T)) (ha : AD X (e :: es) a)
    (hn : x ≠ "__name__" := by decide) (hdb : (x == ("__debug__" : Str)) = false := by decide) (h1 : starEach (e :: es) X.env = (false, eval e X.env) :: starEach es X.env := by rfl) (h2 : ((backTo pos (starEach es X.env)).any fun x => x.fst) = false := by rfl) : PD X (.Call (.Name x p) (e :: es) [] pos) (eBui F a) :=
  PE_imp (pe_callTy hc hg hm hv ha hn hdb h1 h2) fun σ H Q h => bui_core hf h
/-- a borrowed argument as a value -/
theorem vl_of {K : PySem.W.Frag} {Z H H0 : Hp} {v : V} {s : Sl} (h : slR K H Z H s (some v) []) : vlR K H0 Z H v s := ⟨[], h, fun _ h => nomatch h⟩
theorem BuiOK.or {K : PySem.W.Frag} {r r' : List V → Hp → VK → Prop} {F G : List Sl → Option Sl} (h : BuiOK K r F) (h' : BuiOK K r' G) : BuiOK K (fun xs H Q => r xs H Q ∨ r' xs H Q) (fun ss => (F ss).or (G ss)) := by
  intro Z H vs ss s Q zh ha e k
  change (F ss).or (G ss) = some s at e
  cases q : F ss with
  | some t => rw [q] at e; cases e; exact .inl (h _ _ _ _ _ _ zh ha q k)
  | none => rw [q] at e; exact .inr (h' _ _ _ _ _ _ zh ha e k)
/-- one argument -/
theorem bui1 {K : PySem.W.Frag} {r : List V → Hp → VK → Prop} {F : Sl → Option Sl} (h : ∀ (Z H : Hp) (v : V) (s t : Sl) (Q : VK), Same Z H → vlR K H Z H v s → F s = some t → (∀ v Z' H', Step Z H Z' H' → vlR K H Z' H' v t → Q v H') → r [v] H Q) :
    BuiOK K r (fun ss => match ss with | [s] => F s | _ => none) := by
  intro Z H vs ss s Q zh ha e k
  match vs, ss, ha with
  | [v], [t], ha => exact h _ _ _ _ _ _ zh (vl_of ha.1) e k
  | _, [], _ => cases e
  | _, _ :: _ :: _, _ => cases e
theorem bui2 {K : PySem.W.Frag} {r : List V → Hp → VK → Prop} {F : Sl → Sl → Option Sl} (h : ∀ (Z H : Hp) (v w : V) (s t u : Sl) (Q : VK), Same Z H → vlR K H Z H v s → vlR K H Z H w t → F s t = some u → (∀ v Z' H', Step Z H Z' H' → vlR K H Z' H' v u → Q v H') → r [v, w] H Q) :
    BuiOK K r (fun ss => match ss with | [s, t] => F s t | _ => none) := by
  intro Z H vs ss s Q zh ha e k
  match vs, ss, ha with
  | [v, w], [t, u], ha => exact h _ _ _ _ _ _ _ _ zh (vl_of ha.1) (vl_of ha.2.1) e k
  | _, [], _ => cases e
  | _, [_], _ => cases e
  | _, _ :: _ :: _ :: _, _ => cases e
/-- len -/
def lenS : Sl → Option Sl
  | .pl (.str y) => if y.length ≤ 16777216 then some (.pl (.int (y.length : Int))) else none
  | s => (items s).map fun ds => .pl (.int (ds.length : Int))
def lenF : List Sl → Option Sl := fun ss => match ss with | [s] => lenS s | _ => none
theorem ok_len {K : PySem.W.Frag} : BuiOK K (fun xs H Q => ∃ x n, xs = [x] ∧ LenV K x H n ∧ Q (.int (n : Nat)) H) lenF := bui1 (F := lenS) fun Z H v s t Q zh r e k => by
  by_cases hstr : ∃ z, s = .pl (.str z)
  · obtain ⟨z, rfl⟩ := hstr
    have h1 := r.data
    cases h1
    change (if z.length ≤ 16777216 then some (Sl.pl (.int (z.length : Int))) else none) = some t at e
    by_cases c : z.length ≤ 16777216
    · rw [if_pos c] at e
      cases e
      exact ⟨_, _, rfl, ⟨by rw [sizeLine_eq]; exact c, rfl⟩, k _ Z H (Step.refl zh) (vlR.pl (.int _))⟩
    · rw [if_neg c] at e; cases e
  · have e' : (items s).map (fun ds => Sl.pl (.int (ds.length : Int))) = some t := by
      cases s with
      | pl c => cases c <;> first | exact e | exact absurd ⟨_, rfl⟩ hstr
      | _ => exact e
    cases qi : items s with
    | none => rw [qi] at e'; cases e'
    | some ds =>
      rw [qi] at e'
      cases e'
      obtain ⟨p, vs, rfl, hq, hd⟩ := items_ok r zh qi
      refine ⟨_, ds.length, rfl, ?_, k _ Z H (Step.refl zh) (vlR.pl (.int _))⟩
      rcases hq with hq | hq
      · exact .inl ⟨vs, hq, (DpAll_length hd).symm⟩
      · exact .inr ⟨vs, hq, (DpAll_length hd).symm⟩
theorem pd_len {p pos : Pos} {e : Expr} {a : SEnv → Option Sl} (hg : Gl X "len") (hm : X.mg "len" = none) (ha : PD X e a) (h1 : starEach [e] X.env = (false, eval e X.env) :: starEach [] X.env := by rfl) : PD X (.Call (.Name "len" p) [e] [] pos) (eBui lenF (aCons a aNil)) :=
  pd_callB call_len ok_len hg hm PySem.boot_len (ad_cons ha ad_nil h1) (by decide) (by decide) h1 rfl
/-- tuple(x), list(x) -/
def tupleS (s : Sl) : Option Sl := (items s).map fun ds => .pl (.tuple ds)
def tupleF : List Sl → Option Sl := fun ss => match ss with | [s] => tupleS s | _ => none
theorem ok_tuple {K : PySem.W.Frag} : BuiOK K (fun xs H Q => ∃ p ys, xs = [.ref p] ∧ ((SqL K H p ys ∧ ∀ l, H l = none → Q (.ref l) (upd H l (.tup ys))) ∨ (SqT K H p ys ∧ Q (.ref p) H))) tupleF := bui1 (F := tupleS) fun Z H v s t Q zh r e k => by
  by_cases htup : ∃ z, s = .pl (.tuple z)
  · obtain ⟨z, rfl⟩ := htup
    cases e
    obtain ⟨p, vs, rfl, hq, hd⟩ := titems_ok r.data
    exact ⟨p, vs, rfl, .inr ⟨sqT_mono zh hq, k _ Z H (Step.refl zh) r⟩⟩
  · have e' : (litems s).map (fun ds => Sl.pl (.tuple ds)) = some t := by
      cases s with
      | pl c => cases c <;> first | exact e | exact absurd ⟨_, rfl⟩ htup
      | _ => exact e
    cases qi : litems s with
    | none => rw [qi] at e'; cases e'
    | some ds =>
      rw [qi] at e'
      cases e'
      obtain ⟨p, vs, rfl, hq, hd⟩ := litems_ok r zh qi
      refine ⟨p, vs, rfl, .inl ⟨hq, fun l hl => ?_⟩⟩
      obtain ⟨k2, r2⟩ := Dp_newT zh hl hd
      exact k _ _ _ k2 (vlR.pl r2)
theorem pd_tuple {p pos : Pos} {e : Expr} {a : SEnv → Option Sl} (hg : Gl X "tuple") (hm : X.mg "tuple" = none) (ha : PD X e a) (h1 : starEach [e] X.env = (false, eval e X.env) :: starEach [] X.env := by rfl) : PD X (.Call (.Name "tuple" p) [e] [] pos) (eBui tupleF (aCons a aNil)) :=
  pd_callTy call_tuple_of ok_tuple hg hm (by decide +kernel) (ad_cons ha ad_nil h1) (by decide) (by decide) h1 rfl
def listS (s : Sl) : Option Sl := (items s).map fun ds => .own ds
def listF : List Sl → Option Sl := fun ss => match ss with | [s] => listS s | _ => none
theorem ok_list {K : PySem.W.Frag} : BuiOK K (fun xs H Q => ∃ p ys, xs = [.ref p] ∧ (SqL K H p ys ∨ SqT K H p ys) ∧ ∀ l, H l = none → Q (.ref l) (upd H l (.lst ys))) listF := bui1 (F := listS) fun Z H v s t Q zh r e k => by
  change (items s).map (fun ds => Sl.own ds) = some t at e
  cases qi : items s with
  | none => rw [qi] at e; cases e
  | some ds =>
    rw [qi] at e
    cases e
    obtain ⟨p, vs, rfl, hq, hd⟩ := items_ok r zh qi
    refine ⟨p, vs, rfl, hq, fun l hl => ?_⟩
    obtain ⟨k2, r2⟩ := vlR.newL zh hl hd
    exact k _ _ _ k2 r2
theorem pd_list {p pos : Pos} {e : Expr} {a : SEnv → Option Sl} (hg : Gl X "list") (hm : X.mg "list" = none) (ha : PD X e a) (h1 : starEach [e] X.env = (false, eval e X.env) :: starEach [] X.env := by rfl) : PD X (.Call (.Name "list" p) [e] [] pos) (eBui listF (aCons a aNil)) :=
  pd_callTy call_list_of ok_list hg hm (by decide +kernel) (ad_cons ha ad_nil h1) (by decide) (by decide) h1 rfl
/-- isinstance against one built-in type -/
def tyD : Sl → Option String
  | .pl .none => some "NoneType"
  | .pl (.bool _) => some "bool"
  | .pl (.int _) => some "int"
  | .pl (.str _) => some "str"
  | .pl (.list _) => some "list"
  | .pl (.tuple _) => some "tuple"
  | .own _ => some "list"
  | .brw _ => some "list"
  | _ => none
def isiS (T : String) (s : Sl) : Option Bool := match tyD s with
  | some t => kitB t T
  | none => none

/-! ### statements -/
section
variable {E : WX}
def sNext : SEnv → Option Out := fun ρ => some (.nx ρ)
def sSeq (f g : SEnv → Option Out) : SEnv → Option Out := fun ρ => match f ρ with
  | some (.nx ρ') => g ρ'
  | o => o
theorem post_mono {K : PySem.W.Frag} {B Z0 : Hp} {D D' : Ends} {o : Out} (h : post K E B Z0 D o) (hn : ∀ σ H, D.nx σ H → D'.nx σ H) (hr : ∀ v H, D.rt v H → D'.rt v H) (hb : ∀ σ H, D.bk σ H → D'.bk σ H) (hc : ∀ σ H, D.ct σ H → D'.ct σ H) : post K E B Z0 D' o := by
  cases o with
  | nx ρ => exact fun Z σ H s => hn _ _ (h Z σ H s)
  | bk ρ => exact fun Z σ H s => hb _ _ (h Z σ H s)
  | ct ρ => exact fun Z σ H s => hc _ _ (h Z σ H s)
  | rt s => exact fun v Z H a b => hr _ _ (h v Z H a b)
  | ex x ρ => exact h
  | rm s ρ => exact fun v Z Z1 σ H1 H a b c => hr _ _ (h v Z Z1 σ H1 H a b c)
theorem ssd_nil : SsD X E [] sNext := PSs_imp pss_nil fun D σ H ⟨B, Z0, Z, ρ, o, x, e, k⟩ => by
  cases e
  exact k Z σ H x
theorem ssd_cons {st : Stmt} {rest : List Stmt} {f g : SEnv → Option Out} (h1 : SD X E st f) (h2 : SsD X E rest g) : SsD X E (st :: rest) (sSeq f g) :=
  PSs_imp (pss_cons h1 h2) fun D σ H ⟨B, Z0, Z, ρ, o, x, e, k⟩ => by
    unfold sSeq at e
    refine (?_ : SR X.K E f { D with nx := SR X.K E g D } σ H)
    split at e
    · rename_i ρ' q
      refine ⟨B, Z0, Z, ρ, .nx ρ', x, q, fun Z' σ' H' x' => ⟨B, Z0, Z', ρ', o, x', e, k⟩⟩
    · rename_i h
      refine ⟨B, Z0, Z, ρ, o, x, e, ?_⟩
      cases o with
      | nx ρ' => exact absurd e (h ρ')
      | bk ρ => exact k
      | ct ρ => exact k
      | rt s => exact k
      | ex x ρ => exact k
      | rm s ρ => exact k
theorem ssd_one {st : Stmt} {f : SEnv → Option Out} (h1 : SD X E st f) : SsD X E [st] f := pss_one h1
/-- what may be stored -/
def sto : Sl → Option Sl
  | .pl d => some (.pl d)
  | .own ds => some (.own ds)
  | .dic kvs => some (.dic kvs)
  | .obj a c d => if ownFs d = true then some (.obj a c d) else none
  | .tk ds => some (.tk ds)
  | .kq l ds r => some (.kq l ds r)
  | _ => none
@[simp] theorem sto_pl (d : D) : sto (.pl d) = some (.pl d) := rfl
@[simp] theorem sto_own (d : List D) : sto (.own d) = some (.own d) := rfl
@[simp] theorem sto_tk (d : List D) : sto (.tk d) = some (.tk d) := rfl
@[simp] theorem sto_dic (d : List (Key × D)) : sto (.dic d) = some (.dic d) := rfl
theorem sto_obj (a : Option Addr) (c : Str) (d : List (Str × Sl)) (h : ownFs d = true) : sto (.obj a c d) = some (.obj a c d) := if_pos h
theorem sto_slR {K : PySem.W.Frag} {B B' Z H : Hp} {v : Option V} {fp : List Addr} {s t : Sl} (h1 : slR K B' Z H s v fp) (e : sto s = some t) : slR K B Z H t v fp := by
  cases s with
  | obj a c d =>
    change (if ownFs d = true then some (Sl.obj a c d) else none) = some t at e
    by_cases o : ownFs d = true
    · rw [if_pos o] at e
      cases e
      exact slR.anyB (s := .obj a c d) o h1
    · rw [if_neg o] at e; cases e
  | _ => cases e <;> exact h1
theorem sto_ok {K : PySem.W.Frag} {B H0 Z H : Hp} {v : V} {s t : Sl} (h : vlR K H0 Z H v s) (e : sto s = some t) : ∃ fp, slR K B Z H t (some v) fp ∧ ∀ a ∈ fp, H0 a = none ∧ Z a = none := by
  obtain ⟨fp, h1, h2⟩ := h
  exact ⟨fp, sto_slR h1 e, h2⟩
def sAsg (i : Nat) (f : SEnv → Option Sl) : SEnv → Option Out := fun ρ => match f ρ with
  | some s => (sto s).map fun t => .nx (put ρ i t)
  | none => none
theorem asg_core {i : Nat} {f : SEnv → Option Sl} {te : TE} (h : ∀ σ H Q, ER X.K f σ H Q → te σ H Q) {D : Ends} {σ : L2.St} {H : Hp} (hw : SR X.K E (sAsg i f) D σ H) : tAsg te (gName i) D σ H := by
  obtain ⟨B, Z0, Z, ρ, o, x, e, k⟩ := hw
  unfold sAsg at e
  cases q : f ρ with
  | none => rw [q] at e; cases e
  | some s =>
    rw [q] at e
    cases qs : sto s with
    | none => simp only [qs] at e; cases e
    | some t =>
      simp only [qs] at e
      cases e
      exact h _ _ _ (er1 x q fun v Z' H' k' r => k Z' _ H' (x.set k' i (sto_ok r qs)))
theorem sd_asg {i : Nat} {x : Str} {e : Expr} {f : SEnv → Option Sl} {pos pos' : Pos} (hN : X.N.Nodup) (hi : X.N[i]? = some x) (hx : Loc X.env.scope x) (he : PD X e f) (hs : swapsWith e (some (.Name x pos')) pos.line X.env = pure false := by rfl) (hf : X.fn x = true ∨ X.env.scope.names.lookup x = some .local := by first | exact .inl rfl | exact .inr rfl | assumption) :
    SD X E (.Assign [.Name x pos'] e pos) (sAsg i f) := PS_imp (ps_set hN hi hx he hs hf) fun D σ H hw => asg_core (fun _ _ _ h => h) hw
def sRet (f : SEnv → Option Sl) : SEnv → Option Out := fun ρ => (f ρ).map .rt
theorem sd_ret {e : Expr} {f : SEnv → Option Sl} {pos : Pos} (he : PD X e f) : SD X E (.Return (some e) pos) (sRet f) := PS_imp (ps_ret he) fun D σ H ⟨B, Z0, Z, ρ, o, x, e, k⟩ => by
  unfold sRet at e
  cases q : f ρ with
  | none => rw [q] at e; cases e
  | some s =>
    rw [q] at e
    cases e
    refine er1 x q fun v Z' H' k' r => k v Z' H' (x.st.trans k') ?_
    obtain ⟨fp, h1, h2⟩ := r
    exact ⟨fp, h1, fun a ha => ⟨none_back x.bh (h2 a ha).1, (h2 a ha).2⟩⟩
/-- a list or an object of one's own is handed back -/
def sRetVar (i : Nat) : SEnv → Option Out := fun ρ => (sto (get ρ i)).map .rt
theorem sd_retVar (i : Nat) {x : Str} {p pos : Pos} (hv : PE X (.Name x p) (tVar i)) : SD X E (.Return (some (.Name x p)) pos) (sRetVar i) := PS_imp (ps_ret hv) fun D σ H ⟨B, Z0, Z, ρ, o, x, e, k⟩ => by
  unfold sRetVar at e
  cases q : sto (get ρ i) with
  | none => rw [q] at e; cases e
  | some s =>
    rw [q] at e
    cases e
    obtain ⟨st, len, fp, h1, h2, h3⟩ := id x
    have hi := h1 i
    have hv : ∃ v, look σ i = some v ∧ slR X.K H Z H s (some v) (fp i) := by
      cases c : get ρ i with
      | pl d => rw [c] at hi q; cases q; obtain ⟨a, y, b, d⟩ := hi; exact ⟨y, b, a, y, rfl, d⟩
      | own ds => rw [c] at hi q; cases q; obtain ⟨p, vs, a, b, d⟩ := hi; exact ⟨_, b, p, vs, a, rfl, d⟩
      | dic ds => rw [c] at hi q; cases q; obtain ⟨p, vs, a, b, d⟩ := hi; exact ⟨_, b, p, vs, a, rfl, d⟩
      | obj a cc d => 
        rw [c] at hi q
        change (if ownFs d = true then some (Sl.obj a cc d) else none) = some s at q
        by_cases o : ownFs d = true
        · rw [if_pos o] at q
          cases q
          obtain ⟨p, C, dx, vs, fq, e, hx, hq, hc, hp, hn, hf⟩ := hi
          exact ⟨_, hx, p, C, dx, vs, fq, e, rfl, hq, hc, hp, hn, fsR.mono hf st.bh (Same.refl _) fun _ _ => rfl⟩
        · rw [if_neg o] at q; cases q
      | tk ds => rw [c] at q hi; cases q; obtain ⟨e, p, hx, ht⟩ := hi; exact ⟨_, hx, e, p, rfl, ht⟩
      | kq l ds r => rw [c] at q hi; cases q; obtain ⟨e, p, hx, ht⟩ := hi; exact ⟨_, hx, e, p, rfl, ht⟩
      | _ => rw [c] at q; cases q
    obtain ⟨v, e1, r⟩ := hv
    exact ⟨v, look_some e1, k v Z H st ⟨fp i, r, fun a ha => h3 i a ha⟩⟩
def sRetN : SEnv → Option Out := fun _ => some (.rt (.pl .none))
theorem sd_retN {pos : Pos} : SD X E (.Return none pos) sRetN := PS_imp ps_retN fun D σ H ⟨B, Z0, Z, ρ, o, x, e, k⟩ => by
  cases e
  exact k .non Z H x.st ⟨[], ⟨rfl, _, rfl, .non⟩, fun _ h => nomatch h⟩
def sIf (t : SEnv → Option Bool) (f g : SEnv → Option Out) : SEnv → Option Out := fun ρ => match t ρ with
  | some true => f ρ
  | some false => g ρ
  | none => none
theorem sd_if {c : Expr} {a b : List Stmt} {t : SEnv → Option Bool} {f g : SEnv → Option Out} {pos : Pos} (hc : TD X c t) (ha : SsD X E a f) (hb : SsD X E b g) : SD X E (.If c a b pos) (sIf t f g) := PS_imp (ps_if hc ha hb) fun D σ H ⟨B, Z0, Z, ρ, o, x, e, k⟩ => by
  unfold sIf at e
  split at e
  · rename_i q
    exact tr1 x q fun Z' H' k' => iteT ⟨B, Z0, Z', ρ, o, x.step k', e, k⟩
  · rename_i q
    exact tr1 x q fun Z' H' k' => iteF ⟨B, Z0, Z', ρ, o, x.step k', e, k⟩
  · cases e
def sBrk : SEnv → Option Out := fun ρ => some (.bk ρ)
def sCnt : SEnv → Option Out := fun ρ => some (.ct ρ)
theorem sd_break {pos : Pos} : SD X E (.Break pos) sBrk := PS_imp ps_break fun D σ H ⟨B, Z0, Z, ρ, o, x, e, k⟩ => by cases e; exact k Z σ H x
theorem sd_continue {pos : Pos} : SD X E (.Continue pos) sCnt := PS_imp ps_continue fun D σ H ⟨B, Z0, Z, ρ, o, x, e, k⟩ => by cases e; exact k Z σ H x
theorem sd_pass {pos : Pos} : SD X E (.Pass pos) sNext := PS_imp ps_pass fun D σ H ⟨B, Z0, Z, ρ, o, x, e, k⟩ => by cases e; exact k Z σ H x
def sDrop (f : SEnv → Option Sl) : SEnv → Option Out := fun ρ => match f ρ with
  | some _ => some (.nx ρ)
  | none => none
theorem sd_drop {e : Expr} {f : SEnv → Option Sl} {pos : Pos} (he : PD X e f) (hs : swapsWith e none pos.line X.env = pure false := by rfl) : SD X E (.Expr e pos) (sDrop f) := PS_imp (ps_expr he hs) fun D σ H ⟨B, Z0, Z, ρ, o, x, e, k⟩ => by
  unfold sDrop at e
  cases q : f ρ with
  | none => rw [q] at e; cases e
  | some s =>
    rw [q] at e
    cases e
    exact er1 x q fun v Z' H' k' r => k Z' σ H' (x.step k')
/-- name op= e -/
def sAug (i : Nat) (g : Int → Int → Int) (f : SEnv → Option Sl) : SEnv → Option Out := fun ρ => match get ρ i, f ρ with
  | .pl (.int a), some (.pl (.int b)) => some (.nx (put ρ i (.pl (.int (g a b)))))
  | _, _ => none
theorem sd_aug {i : Nat} {x : Str} {e : Expr} {f : SEnv → Option Sl} {op : Operator} {g : Int → Int → Int} {pos pos' : Pos} (hN : X.N.Nodup) (hi : X.N[i]? = some x) (hx : Loc X.env.scope x) (he : PD X e f) (ho : PIp X op (ipI g)) (hf : X.fn x = true ∨ X.env.scope.names.lookup x = some .local := by first | exact .inl rfl | exact .inr rfl | assumption) :
    SD X E (.AugAssign (.Name x pos') op e pos) (sAug i g f) := PS_imp (ps_aug hN hi hx he ho hf) fun D σ H ⟨B, Z0, Z, ρ, o, x, e, k⟩ => by
  unfold sAug at e
  split at e
  · rename_i a b q1 q2
    cases e
    obtain ⟨v, hv, r⟩ := x.var (i := i) (t := .pl (.int a)) (by rw [q1]; rfl)
    have h1 := r.data
    cases h1
    refine ⟨_, hv, er1 x q2 fun w Z' H' k' r2 => ?_⟩
    have h2 := r2.data
    cases h2
    exact ⟨_, _, rfl, rfl, k Z' _ H' (x.set k' i ⟨[], ⟨rfl, _, rfl, .int _⟩, fun _ h => nomatch h⟩)⟩
  · cases e
/-- forget some slots, ahead or behind -/
def sWipe (is : List Nat) (f : SEnv → Option Out) : SEnv → Option Out := fun ρ => f (wipe1 ρ is)
theorem ssd_wipe (is : List Nat) {st : List Stmt} {f : SEnv → Option Out} (h : SsD X E st f) : SsD X E st (sWipe is f) := PSs_imp h fun D σ H ⟨B, Z0, Z, ρ, o, x, e, k⟩ => ⟨B, Z0, Z, _, o, St.wipe1 is x, e, k⟩
theorem sd_wipe (is : List Nat) {st : Stmt} {f : SEnv → Option Out} (h : SD X E st f) : SD X E st (sWipe is f) := PS_imp h fun D σ H ⟨B, Z0, Z, ρ, o, x, e, k⟩ => ⟨B, Z0, Z, _, o, St.wipe1 is x, e, k⟩
def wipeO (is : List Nat) : Out → Out
  | .nx ρ => .nx (wipe1 ρ is)
  | .bk ρ => .bk (wipe1 ρ is)
  | .ct ρ => .ct (wipe1 ρ is)
  | .ex x ρ => .ex x (wipe1 ρ is)
  | o => o
def sWipeB (is : List Nat) (f : SEnv → Option Out) : SEnv → Option Out := fun ρ => (f ρ).map (wipeO is)
theorem post_wipe {K : PySem.W.Frag} (is : List Nat) {B Z0 : Hp} {D : Ends} {o : Out} (h : post K E B Z0 D (wipeO is o)) : post K E B Z0 D o := by
  cases o with
  | nx ρ => exact fun Z σ H s => h Z σ H (St.wipe1 is s)
  | bk ρ => exact fun Z σ H s => h Z σ H (St.wipe1 is s)
  | ct ρ => exact fun Z σ H s => h Z σ H (St.wipe1 is s)
  | rt s => exact h
  | ex x ρ => exact fun c od Z σ H s => h c od Z σ H (St.wipe1 is s)
  | rm s ρ => exact h
theorem ssd_wipeB (is : List Nat) {st : List Stmt} {f : SEnv → Option Out} (h : SsD X E st f) : SsD X E st (sWipeB is f) := PSs_imp h fun D σ H ⟨B, Z0, Z, ρ, o, x, e, k⟩ => by
  unfold sWipeB at e
  cases q : f ρ with
  | none => rw [q] at e; cases e
  | some u =>
    rw [q] at e
    cases e
    exact ⟨B, Z0, Z, ρ, u, x, q, post_wipe is k⟩
theorem sd_wipeB (is : List Nat) {st : Stmt} {f : SEnv → Option Out} (h : SD X E st f) : SD X E st (sWipeB is f) := PS_imp h fun D σ H ⟨B, Z0, Z, ρ, o, x, e, k⟩ => by
  unfold sWipeB at e
  cases q : f ρ with
  | none => rw [q] at e; cases e
  | some u =>
    rw [q] at e
    cases e
    exact ⟨B, Z0, Z, ρ, u, x, q, post_wipe is k⟩
end
end
end DL

set_option Elab.async false
set_option linter.all false
set_option maxRecDepth 100000
set_option maxHeartbeats 1000000
/-! DL4: loops, comprehensions, lists changed, calls of defs. -/
namespace DL
open PySem PySem.Spec PyProof.Rows L2
section
variable {X : Cx} {E : WX}
/-! ### what is walked -/
/-- the walk gives the data ds; it stands as long as B and Zs do -/
structure WalkD (K : PySem.W.Frag) (B Zs : Hp) (J : It) (ds : List D) (G : Hp → Prop) (Y : Nat → Hp → V → Hp → Prop) : Prop where
  w : Walk J ds.length G Y
  stays : ∀ H, Same B H → Same Zs H → G H
  gives : ∀ (i : Nat) (Z H : Hp) (x : V) (H' : Hp) (d : D), ds[i]? = some d → Same Zs Z → Same Z H → Y i H x H' → ∃ Z', Step Z H Z' H' ∧ Dp K Z' x d
def LR (K : PySem.W.Frag) (f : SEnv → Option (List D)) : TI := fun σ H R => ∃ B Z0 Z ρ ds, St K B Z0 Z H σ ρ ∧ f ρ = some ds ∧ ∀ J G Y Z' H', Step Z H Z' H' → WalkD K B Z' J ds G Y → R J H'
/-- for a comprehension: it stands as long as the heap at its start does -/
def CR (K : PySem.W.Frag) (f : SEnv → Option (List D)) : TI := fun σ H R => ∃ B Z0 Z ρ ds, St K B Z0 Z H σ ρ ∧ f ρ = some ds ∧ ∀ J G Y Z' H', Step Z H Z' H' → WalkD K H' Z' J ds G Y → R J H'
theorem PI_imp {tg e : Expr} {t t' : TI} (h : PI X tg e t) (i : ∀ σ H R, t' σ H R → t σ H R) : PI X tg e t' := ⟨fun pins s σ H R I hw => h.run pins s σ H R I (i σ H R hw)⟩
abbrev LD (X : Cx) (tg e : Expr) (f : SEnv → Option (List D)) : Prop := PI X tg e (LR X.K f)
abbrev CD (X : Cx) (tg e : Expr) (f : SEnv → Option (List D)) : Prop := PI X tg e (CR X.K f)
theorem WalkD.mono {K : PySem.W.Frag} {B B' Zs Zs' : Hp} {J : It} {ds : List D} {G : Hp → Prop} {Y : Nat → Hp → V → Hp → Prop} (h : WalkD K B Zs J ds G Y) (hb : Same B B') (hz : Same Zs Zs') : WalkD K B' Zs' J ds G Y :=
  ⟨h.w, fun H a b => h.stays H (hb.trans a) (hz.trans b), fun i Z H x H' d a b c e => h.gives i Z H x H' d a (hz.trans b) c e⟩
theorem cd_of {tg e : Expr} {f : SEnv → Option (List D)} (h : LD X tg e f) : CD X tg e f := PI_imp h fun σ H R ⟨B, Z0, Z, ρ, ds, x, e, k⟩ => ⟨B, Z0, Z, ρ, ds, x, e, fun J G Y Z' H' k' w => k J G Y Z' H' k' (w.mono (x.bh.trans k'.bh) (Same.refl _))⟩
/-- items given one by one, the heap as it was -/
theorem yat_gives {K : PySem.W.Frag} {Zs : Hp} {vs : List V} {ds : List D} (hd : DpAll K Zs vs ds) (i : Nat) (Z H : Hp) (x : V) (H' : Hp) (d : D) (e : ds[i]? = some d) (hz : Same Zs Z) (zh : Same Z H) (y : YAt vs i H x H') : ∃ Z', Step Z H Z' H' ∧ Dp K Z' x d := by
  obtain ⟨rfl, hx⟩ := y
  obtain ⟨v, hv, r⟩ := DpAll_get hd e
  rw [hx] at hv
  cases hv
  exact ⟨Z, Step.refl zh, Dp_mono hz _ _ r⟩
/-- a list that stands in Z or B, a new list, a tuple -/
def lsrc : Sl → Option (List D)
  | .pl (.list ds) => some ds
  | .own ds => some ds
  | _ => none
def eSrc (g : Sl → Option (List D)) (f : SEnv → Option Sl) : SEnv → Option (List D) := fun ρ => (f ρ).bind g
theorem SqL_len {K : PySem.W.Frag} {Z : Hp} {vs : List V} {ds : List D} (h : DpAll K Z vs ds) : vs.length = ds.length := DpAll_length h
/-- over a list given by an expression -/
theorem ld_list {tg e : Expr} {f : SEnv → Option Sl} (h : PD X e f) : LD X tg e (eSrc lsrc f) := PI_imp (pi_list h) fun σ H R ⟨B, Z0, Z, ρ, ds, x, e, k⟩ => by
  unfold eSrc at e
  cases q : f ρ with
  | none => rw [q] at e; cases e
  | some s =>
    rw [q] at e
    refine er1 x q fun v Z' H' k' r => ?_
    cases s with
    | pl c =>
      cases c with
      | list es =>
        cases e
        have hd := r.data
        cases hd with
        | lst hq ha =>
          rename_i p vs
          refine ⟨p, rfl, ⟨vs, k'.zh.seq hq⟩, k _ _ _ Z' H' k' ⟨by rw [← SqL_len ha]; exact walk_list, fun H2 _ b => b.seq hq, yat_gives ha⟩⟩
      | _ => cases e
    | own es =>
      cases e
      obtain ⟨Z2, k2, zz, hd⟩ := toD_ok k' r rfl
      cases hd with
      | lst hq ha =>
        rename_i p vs
        refine ⟨p, rfl, ⟨vs, k2.zh.seq hq⟩, k _ _ _ Z2 H' k2 ⟨by rw [← SqL_len ha]; exact walk_list, fun H2 _ b => b.seq hq, yat_gives ha⟩⟩
    | _ => cases e
def tsrc : Sl → Option (List D)
  | .pl (.tuple ds) => some ds
  | _ => none
theorem ld_tup {tg e : Expr} {f : SEnv → Option Sl} (h : PD X e f) : LD X tg e (eSrc tsrc f) := PI_imp (pi_tup h) fun σ H R ⟨B, Z0, Z, ρ, ds, x, e, k⟩ => by
  unfold eSrc at e
  cases q : f ρ with
  | none => rw [q] at e; cases e
  | some s =>
    rw [q] at e
    refine er1 x q fun v Z' H' k' r => ?_
    cases s with
    | pl c =>
      cases c with
      | tuple es =>
        cases e
        obtain ⟨p, vs, rfl, hq, ha⟩ := titems_ok r.data
        exact ⟨p, rfl, ⟨vs, sqT_mono k'.zh hq⟩, k _ _ _ Z' H' k' ⟨by rw [← SqL_len ha]; exact walk_tup, fun H2 _ b => sqT_mono b hq, yat_gives ha⟩⟩
      | _ => cases e
    | _ => cases e
/-- a borrowed list at a slot -/
def vsrc (i : Nat) : SEnv → Option (List D) := fun ρ => match get ρ i with
  | .pl (.list ds) => some ds
  | .brw ds => some ds
  | _ => none
theorem ld_var (i : Nat) {tg : Expr} {x : Str} {pos : Pos} (h : PE X (.Name x pos) (tVar i)) : LD X tg (.Name x pos) (vsrc i) := PI_imp (pi_list h) fun σ H R ⟨B, Z0, Z, ρ, ds, x, e, k⟩ => by
  obtain ⟨st, _, fp, h1, _, _⟩ := id x
  have hi := h1 i
  unfold vsrc at e
  split at e
  · rename_i es q
    cases e
    rw [q] at hi
    obtain ⟨_, v, hv, hd⟩ := hi
    cases hd with
    | lst hq ha =>
      rename_i p vs
      exact ⟨_, look_some hv, p, rfl, ⟨vs, x.zh.seq hq⟩, k _ _ _ Z H (Step.refl x.zh) ⟨by rw [← SqL_len ha]; exact walk_list, fun H2 _ b => b.seq hq, yat_gives ha⟩⟩
  · rename_i es q
    cases e
    rw [q] at hi
    obtain ⟨_, p, vs, hv, hb, ha⟩ := hi
    exact ⟨_, look_some hv, p, rfl, ⟨vs, x.bh.seq (.inl (.inl hb))⟩, k _ _ _ Z H (Step.refl x.zh) ⟨by rw [← SqL_len ha]; exact walk_list, fun H2 a _ => a.seq (.inl (.inl hb)), yat_gives ha⟩⟩
  · cases e
/-- any list at a slot, for a comprehension -/
def csrc (f : SEnv → Option Sl) : SEnv → Option (List D) := fun ρ => (f ρ).bind litems
theorem cd_list {tg e : Expr} {f : SEnv → Option Sl} (h : PD X e f) : CD X tg e (csrc f) := PI_imp (pi_list h) fun σ H R ⟨B, Z0, Z, ρ, ds, x, e, k⟩ => by
  unfold csrc at e
  cases q : f ρ with
  | none => rw [q] at e; cases e
  | some s =>
    rw [q] at e
    refine er1 x q fun v Z' H' k' r => ?_
    obtain ⟨p, vs, rfl, hq, ha⟩ := litems_ok r k'.zh e
    exact ⟨p, rfl, ⟨vs, hq⟩, k _ _ _ Z' H' k' ⟨by rw [← SqL_len ha]; exact walk_list, fun H2 a _ => a.seq hq, yat_gives ha⟩⟩
/-- range(n), range(a, b) -/
def rgD (lo : Int) (n : Nat) : List D := (List.range n).map fun i => .int (lo + (i : Nat))
theorem rgD_length (lo : Int) (n : Nat) : (rgD lo n).length = n := by unfold rgD; rw [List.length_map, List.length_range]
theorem range_walk {K : PySem.W.Frag} {B Zs : Hp} {lo : Int} {n : Nat} : WalkD K B Zs (Itr lo n) (rgD lo n) (fun _ => True) (YFn fun i => .int (lo + i)) :=
  ⟨by rw [rgD_length]; exact walk_range, fun _ _ _ => trivial, fun i Z H x H' d e _ zh y => by
    obtain ⟨rfl, rfl⟩ := y
    refine ⟨Z, Step.refl zh, ?_⟩
    unfold rgD at e
    rw [List.getElem?_map] at e
    cases q : (List.range n)[i]? with
    | none => rw [q] at e; cases e
    | some j =>
      rw [q] at e
      cases e
      have := List.getElem?_eq_some_iff.mp q
      obtain ⟨hl, hj⟩ := this
      rw [List.getElem_range] at hj
      subst hj
      exact .int _⟩
def rg1 (a : SEnv → Option (List Sl)) : SEnv → Option (List D) := fun ρ => match a ρ with
  | some [.pl (.int j)] => if -(2 ^ 62) ≤ j ∧ j < 2 ^ 62 then some (rgD 0 j.toNat) else none
  | _ => none
def rg2 (a : SEnv → Option (List Sl)) : SEnv → Option (List D) := fun ρ => match a ρ with
  | some [.pl (.int i), .pl (.int j)] => if (-(2 ^ 62) ≤ i ∧ i < 2 ^ 62) ∧ -(2 ^ 62) ≤ j ∧ j < 2 ^ 62 then some (rgD i (j - i).toNat) else none
  | _ => none
theorem allB_int1 {K : PySem.W.Frag} {Z H : Hp} {vs : List V} {i : Int} (h : AllB K Z H vs [.pl (.int i)]) : vs = [.int i] := by
  match vs, h with
  | [v], h =>
    obtain ⟨_, x, e, hd⟩ := h.1
    cases e
    cases hd
    rfl
  | _ :: _ :: _, h => exact h.2.elim
theorem allB_int2 {K : PySem.W.Frag} {Z H : Hp} {vs : List V} {i j : Int} (h : AllB K Z H vs [.pl (.int i), .pl (.int j)]) : vs = [.int i, .int j] := by
  match vs, h with
  | [v, w], h =>
    obtain ⟨_, x, e, hd⟩ := h.1
    cases e
    cases hd
    obtain ⟨_, x, e, hd⟩ := h.2.1
    cases e
    cases hd
    rfl
  | [_], h => exact h.2.elim
  | _ :: _ :: _ :: _, h => exact h.2.2.elim
theorem ld_range1 {tg a : Expr} {fa : SEnv → Option (List Sl)} {p pos : Pos} (hg : Gl X "range") (hm : X.mg "range" = none) (ha : AD X [a] fa) (hs : starEach [a] X.env = [(false, eval a X.env)] := by rfl) : LD X tg (.Call (.Name "range" p) [a] [] pos) (rg1 fa) :=
  PI_imp (pi_range1 hg hm ha hs) fun σ H R ⟨B, Z0, Z, ρ, ds, x, e, k⟩ => by
    unfold rg1 at e
    split at e
    · rename_i j q
      by_cases c : -(2 ^ 62) ≤ j ∧ j < 2 ^ 62
      · rw [if_pos c] at e
        cases e
        refine ⟨B, Z0, Z, ρ, _, x, q, fun vs Z' H' k' r => ?_⟩
        cases allB_int1 r
        exact ⟨j, rfl, c.1, c.2, k _ _ _ Z' H' k' range_walk⟩
      · rw [if_neg c] at e; cases e
    · cases e
theorem ld_range2 {tg a b : Expr} {fa : SEnv → Option (List Sl)} {p pos : Pos} (hg : Gl X "range") (hm : X.mg "range" = none) (ha : AD X [a, b] fa) (hs : starEach [a, b] X.env = [(false, eval a X.env), (false, eval b X.env)] := by rfl) (hs2 : starEach [b] X.env = [(false, eval b X.env)] := by rfl) : LD X tg (.Call (.Name "range" p) [a, b] [] pos) (rg2 fa) :=
  PI_imp (pi_range2 hg hm ha hs hs2) fun σ H R ⟨B, Z0, Z, ρ, ds, x, e, k⟩ => by
    unfold rg2 at e
    split at e
    · rename_i i j q
      by_cases c : (-(2 ^ 62) ≤ i ∧ i < 2 ^ 62) ∧ -(2 ^ 62) ≤ j ∧ j < 2 ^ 62
      · rw [if_pos c] at e
        cases e
        refine ⟨B, Z0, Z, ρ, _, x, q, fun vs Z' H' k' r => ?_⟩
        cases allB_int2 r
        exact ⟨i, j, rfl, ⟨c.1.1, c.1.2, c.2.1, c.2.2⟩, k _ _ _ Z' H' k' range_walk⟩
      · rw [if_neg c] at e; cases e
    · cases e
/-! ### targets -/
/-- what a target does with an item -/
abbrev GF := D → SEnv → Option SEnv
def GR (K : PySem.W.Frag) (g : GF) : TG := fun v σ H Q => ∃ B Z0 Z ρ d ρ', St K B Z0 Z H σ ρ ∧ Dp K Z v d ∧ g d ρ = some ρ' ∧ ∀ σ', St K B Z0 Z H σ' ρ' → Q σ' H
theorem PG_imp {e : Expr} {t t' : TG} (h : PG X e t) (i : ∀ v σ H Q, t' v σ H Q → t v σ H Q) : PG X e t' := ⟨fun pins s σ H v u Q I r hw => h.run pins s σ H v u Q I r (i v σ H Q hw)⟩
abbrev GD (X : Cx) (e : Expr) (g : GF) : Prop := PG X e (GR X.K g)
def gPut (i : Nat) : GF := fun d ρ => some (put ρ i (.pl d))
theorem St.setD {K : PySem.W.Frag} {B Z0 Z H : Hp} {σ : L2.St} {ρ : SEnv} (x : St K B Z0 Z H σ ρ) (i : Nat) {v : V} {d : D} (h : Dp K Z v d) : St K B Z0 Z H (σ.set i (some v)) (put ρ i (.pl d)) :=
  x.set (Step.refl x.zh) i ⟨[], ⟨rfl, v, rfl, h⟩, fun _ h => nomatch h⟩
theorem gd_name {i : Nat} {x : Str} {pos : Pos} (hN : X.N.Nodup) (hi : X.N[i]? = some x) (hx : Loc X.env.scope x) (hf : X.fn x = true ∨ X.env.scope.names.lookup x = some .local := by first | exact .inl rfl | exact .inr rfl | assumption) : GD X (.Name x pos) (gPut i) :=
  PG_imp (pg_name hN hi hx hf) fun v σ H Q ⟨B, Z0, Z, ρ, d, ρ', x, hd, e, k⟩ => by
    cases e
    exact k _ (x.setD i hd)
/-- several targets -/
abbrev GsF := List D → SEnv → Option SEnv
def GsR (K : PySem.W.Frag) (g : GsF) : TGs := fun vs σ H Q => ∃ B Z0 Z ρ ds ρ', St K B Z0 Z H σ ρ ∧ DpAll K Z vs ds ∧ g ds ρ = some ρ' ∧ ∀ σ', St K B Z0 Z H σ' ρ' → Q σ' H
theorem PGs_imp {es : List Expr} {t t' : TGs} (h : PGs X es t) (i : ∀ v σ H Q, t' v σ H Q → t v σ H Q) : PGs X es t' := ⟨fun pins s σ H v u Q I r hw => h.run pins s σ H v u Q I r (i v σ H Q hw)⟩
abbrev GsD (X : Cx) (es : List Expr) (g : GsF) : Prop := PGs X es (GsR X.K g)
def gsNil : GsF := fun ds ρ => match ds with
  | [] => some ρ
  | _ => none
def gsCons (i : Nat) (g : GsF) : GsF := fun ds ρ => match ds with
  | d :: ds => g ds (put ρ i (.pl d))
  | [] => none
theorem gsd_nil : GsD X [] gsNil := PGs_imp pgs_nil fun vs σ H Q ⟨B, Z0, Z, ρ, ds, ρ', x, hd, e, k⟩ => by
  cases hd with
  | nil => cases e; exact ⟨rfl, k _ x⟩
  | cons _ _ => cases e
theorem gsd_cons {i : Nat} {x : Str} {pos : Pos} {es : List Expr} {g : GsF} (hN : X.N.Nodup) (hi : X.N[i]? = some x) (hx : Loc X.env.scope x) (h2 : GsD X es g) (hf : X.fn x = true ∨ X.env.scope.names.lookup x = some .local := by first | exact .inl rfl | exact .inr rfl | assumption) : GsD X (.Name x pos :: es) (gsCons i g) :=
  PGs_imp (pgs_cons (pg_name hN hi hx hf) h2) fun vs σ H Q ⟨B, Z0, Z, ρ, ds, ρ', x, hd, e, k⟩ => by
    cases hd with
    | nil => cases e
    | cons r t => exact ⟨_, _, rfl, B, Z0, Z, _, _, ρ', x.setD i r, t, e, k⟩
def gTupF (n : Nat) (g : GsF) : GF := fun d ρ => match d with
  | .tuple ds => if ds.length = n then g ds ρ else none
  | _ => none
theorem gd_tup {es : List Expr} {k : Nat} {g : GsF} {n : Nat} {pos : Pos} (hc : X.calm = true) (h : GsD X es g) (hn : (assignEach es X.env).length = n := by rfl) (hst : (assignEach es X.env).findIdx? (·.1) = none := by rfl) : GD X (.Tuple es k pos) (gTupF n g) :=
  PG_imp (pg_tup hc h hn hst) fun v σ H Q ⟨B, Z0, Z, ρ, d, ρ', x, hd, e, k⟩ => by
    cases d with
    | tuple ds =>
      change (if ds.length = n then g ds ρ else none) = some ρ' at e
      by_cases c : ds.length = n
      · rw [if_pos c] at e
        obtain ⟨p, vs, rfl, hq, ha⟩ := titems_ok hd
        exact ⟨p, vs, rfl, sqT_mono x.zh hq, by rw [DpAll_length ha]; exact c, B, Z0, Z, ρ, ds, ρ', x, ha, e, k⟩
      · rw [if_neg c] at e; cases e
    | _ => cases e
end
end DL

set_option Elab.async false
set_option linter.all false
set_option maxRecDepth 100000
set_option maxHeartbeats 1000000
/-! DL5: for, while, comprehensions, lists changed, calls of defs. -/
namespace DL
open PySem PySem.Spec PyProof.Rows L2
section
variable {X : Cx} {E : WX}
/-! ### loops -/
def forD (g : GF) (b : SEnv → Option Out) : List D → SEnv → Option Out
  | [], ρ => some (.nx ρ)
  | d :: ds, ρ => match g d ρ with
    | none => none
    | some ρ1 => match b ρ1 with
      | some (.nx ρ2) => forD g b ds ρ2
      | some (.ct ρ2) => forD g b ds ρ2
      | some (.bk ρ2) => some (.nx ρ2)
      | o => o
def sFor (src : SEnv → Option (List D)) (g : GF) (b : SEnv → Option Out) : SEnv → Option Out := fun ρ => match src ρ with
  | some ds => forD g b ds ρ
  | none => none
theorem St.base {K : PySem.W.Frag} {B Z0 Z H : Hp} {σ : L2.St} {ρ : SEnv} (x : St K B Z0 Z H σ ρ) : St K B Z Z H σ ρ := ⟨⟨x.st.bh, Same.refl Z, x.st.zh, fun _ q => .inl q⟩, x.len, x.sl⟩
theorem StepB.to {B Z0 Z1 H1 Z H : Hp} (a : StepB B Z0 Z1 H1) (b : StepB B Z1 Z H) : StepB B Z0 Z H := ⟨b.bh, a.zz.trans b.zz, b.zh, fun p q => by
  rcases b.gr p q with z | z
  · exact a.gr p z
  · exact .inr z⟩
theorem St.unbase {K : PySem.W.Frag} {B Z0 Z1 H1 Z H : Hp} {σ : L2.St} {ρ : SEnv} (a : StepB B Z0 Z1 H1) (x : St K B Z1 Z H σ ρ) : St K B Z0 Z H σ ρ := ⟨a.to x.st, x.len, x.sl⟩
theorem post_base {K : PySem.W.Frag} {B Z0 Z1 H1 : Hp} {D : Ends} {o : Out} (a : StepB B Z0 Z1 H1) (h : post K E B Z0 D o) : post K E B Z1 D o := by
  cases o with
  | nx ρ => exact fun Z σ H s => h Z σ H (s.unbase a)
  | bk ρ => exact fun Z σ H s => h Z σ H (s.unbase a)
  | ct ρ => exact fun Z σ H s => h Z σ H (s.unbase a)
  | rt s => exact fun v Z H k r => h v Z H (a.to k) r
  | ex x ρ => exact fun c od Z σ H s r => h c od Z σ H (s.unbase a) r
  | rm s ρ => exact fun v Z Z1 σ H1 H s k r => h v Z Z1 σ H1 H (s.unbase a) k r
theorem sd_for {tg iter : Expr} {body : List Stmt} {src : SEnv → Option (List D)} {g : GF} {b : SEnv → Option Out} {pos : Pos} (hp : PassesOwn (model X.prog X.w) X.A X.env X.xe) (hc : X.calm = true) (hi : LD X tg iter src) (hg : GD X tg g) (hb : SsD X E body b)
    (hs : ∀ x, foldedSetIterable iter X.env x = pure x := by intro _; rfl) : SD X E (.For tg iter body [] pos) (sFor src g b) := PS_imp (ps_for hp hc hi hg hb hs) fun D σ H ⟨B, Z0, Z, ρ, o, x, e, k⟩ => by
  unfold sFor at e
  cases q : src ρ with
  | none => rw [q] at e; cases e
  | some ds =>
    rw [q] at e
    refine ⟨B, Z0, Z, ρ, ds, x, q, fun J G Y Z' H' k' w => ?_⟩
    have x1 := (x.step k')
    refine for_it w.w (fun i σ2 H2 => ∃ Z2 ρ2, St X.K B Z' Z2 H2 σ2 ρ2 ∧ forD g b (ds.drop i) ρ2 = some o) ⟨Z', ρ, x1.base, by rw [List.drop_zero]; exact e⟩ (fun i σ2 H2 _ ⟨Z2, ρ2, x2, _⟩ => w.stays H2 x2.bh (x2.st.zz.trans x2.zh)) ?_ ?_
    · rintro i v σ2 H2 H3 hi ⟨Z2, ρ2, x2, e2⟩ y
      obtain ⟨d, hd⟩ : ∃ d, ds[i]? = some d := ⟨ds[i], List.getElem?_eq_getElem hi⟩
      obtain ⟨Z3, k3, r3⟩ := w.gives i Z2 H2 v H3 d hd x2.st.zz x2.zh y
      have hdrop : ds.drop i = d :: ds.drop (i + 1) := by
        rw [List.drop_eq_getElem_cons hi]
        rw [List.getElem?_eq_getElem hi] at hd
        cases hd
        rfl
      rw [hdrop] at e2
      unfold forD at e2
      cases qg : g d ρ2 with
      | none => rw [qg] at e2; cases e2
      | some ρ3 =>
        rw [qg] at e2
        refine ⟨B, Z', Z3, ρ2, d, ρ3, x2.step k3, r3, qg, fun σ3 x3 => ?_⟩
        cases qb : b ρ3 with
        | none => simp only [qb] at e2; cases e2
        | some ob =>
          refine ⟨B, Z', Z3, ρ3, ob, x3, qb, ?_⟩
          simp only [qb] at e2
          cases ob with
          | nx ρ4 => exact fun Z4 σ4 H4 x4 => ⟨Z4, ρ4, x4, e2⟩
          | ct ρ4 => exact fun Z4 σ4 H4 x4 => ⟨Z4, ρ4, x4, e2⟩
          | bk ρ4 => cases e2; exact fun Z4 σ4 H4 x4 => k Z4 σ4 H4 (x4.unbase x1.st)
          | rt s => cases e2; exact fun v Z4 H4 k4 r4 => k v Z4 H4 (x1.st.to k4) r4
          | ex s ρ => cases e2; exact fun c od Z4 σ4 H4 x4 r4 => k c od Z4 σ4 H4 (x4.unbase x1.st) r4
          | rm s ρ => cases e2; exact fun v Z4 Z5 σ4 H5 H4 x4 k4 r4 => k v Z4 Z5 σ4 H5 H4 (x4.unbase x1.st) k4 r4
    · rintro σ2 H2 ⟨Z2, ρ2, x2, e2⟩
      rw [List.drop_length] at e2
      cases e2
      exact k Z2 σ2 H2 (x2.unbase x1.st)
/-- while, with so many turns at most -/
def whileD (c : SEnv → Option Bool) (b : SEnv → Option Out) : Nat → SEnv → Option Out
  | 0, _ => none
  | n + 1, ρ => match c ρ with
    | none => none
    | some false => some (.nx ρ)
    | some true => match b ρ with
      | some (.nx ρ2) => whileD c b n ρ2
      | some (.ct ρ2) => whileD c b n ρ2
      | some (.bk ρ2) => some (.nx ρ2)
      | o => o
theorem sd_while {c : Expr} {body : List Stmt} {t : SEnv → Option Bool} {b : SEnv → Option Out} {pos : Pos} (n : Nat) (hp : PassesOwn (model X.prog X.w) X.A X.env X.xe) (hc : TD X c t) (hb : SsD X E body b) : SD X E (.While c body [] pos) (whileD t b n) := PS_imp (ps_while hp hc hb) fun D σ H ⟨B, Z0, Z, ρ, o, x, e, k⟩ => by
  refine ⟨fun m σ2 H2 => ∃ Z2 ρ2, St X.K B Z0 Z2 H2 σ2 ρ2 ∧ whileD t b m ρ2 = some o, ⟨n, Z, ρ, x, e⟩, ?_⟩
  rintro m σ2 H2 ⟨Z2, ρ2, x2, e2⟩
  cases m with
  | zero => cases e2
  | succ m =>
    unfold whileD at e2
    cases qc : t ρ2 with
    | none => simp only [qc] at e2; cases e2
    | some bb =>
      refine tr1 x2 qc fun Z3 H3 k3 => ?_
      cases bb with
      | false =>
        simp only [qc] at e2
        cases e2
        exact iteF (k Z3 σ2 H3 (x2.step k3))
      | true =>
        simp only [qc] at e2
        refine iteT ⟨fun σ4 H4 => ∃ Z4 ρ4, St X.K B Z0 Z4 H4 σ4 ρ4 ∧ whileD t b m ρ4 = some o, fun σ4 H4 h => ⟨m, Nat.lt_succ_self m, h⟩, ?_⟩
        cases qb : b ρ2 with
        | none => simp only [qb] at e2; cases e2
        | some ob =>
          refine ⟨B, Z0, Z3, ρ2, ob, x2.step k3, qb, ?_⟩
          simp only [qb] at e2
          cases ob with
          | nx ρ4 => exact fun Z4 σ4 H4 x4 => ⟨Z4, ρ4, x4, e2⟩
          | ct ρ4 => exact fun Z4 σ4 H4 x4 => ⟨Z4, ρ4, x4, e2⟩
          | bk ρ4 => cases e2; exact fun Z4 σ4 H4 x4 => k Z4 σ4 H4 x4
          | rt s => cases e2; exact k
          | ex s ρ => cases e2; exact k
          | rm s ρ => cases e2; exact k
/-! ### frozen, moved -/
def sFrz (i : Nat) (f : SEnv → Option Out) : SEnv → Option Out := fun ρ => f (frz ρ i)
theorem sd_frz (i : Nat) {st : Stmt} {f : SEnv → Option Out} (h : SD X E st f) : SD X E st (sFrz i f) := PS_imp h fun D σ H ⟨B, Z0, Z, ρ, o, x, e, k⟩ => by
  obtain ⟨Z', x', _⟩ := x.frz i
  exact ⟨B, Z0, Z', _, o, x', e, k⟩
theorem ssd_frz (i : Nat) {st : List Stmt} {f : SEnv → Option Out} (h : SsD X E st f) : SsD X E st (sFrz i f) := PSs_imp h fun D σ H ⟨B, Z0, Z, ρ, o, x, e, k⟩ => by
  obtain ⟨Z', x', _⟩ := x.frz i
  exact ⟨B, Z0, Z', _, o, x', e, k⟩
/-- x = y, y not used any more -/
def sMov (i j : Nat) : SEnv → Option Out := fun ρ => if i = j then none else match get ρ j with
  | .un => none
  | s => some (.nx (put (put ρ j .un) i s))
theorem slR_val {K : PySem.W.Frag} {B Z H : Hp} {s : Sl} {o : Option V} {fp : List Addr} (h : slR K B Z H s o fp) (hs : s ≠ .un) : ∃ v, o = some v := by
  cases s with
  | un => exact absurd rfl hs
  | pl d => obtain ⟨_, x, hx, _⟩ := h; exact ⟨x, hx⟩
  | own ds => obtain ⟨p, vs, _, hx, _⟩ := h; exact ⟨_, hx⟩
  | brw ds => obtain ⟨_, p, vs, hx, _⟩ := h; exact ⟨_, hx⟩
  | dic ds => obtain ⟨p, vs, _, hx, _⟩ := h; exact ⟨_, hx⟩
  | bdc ds => obtain ⟨_, p, vs, hx, _⟩ := h; exact ⟨_, hx⟩
  | obj a c d => obtain ⟨p, C, dx, vs, fq, e, hx, _⟩ := h; exact ⟨_, hx⟩
  | bob c d => obtain ⟨_, p, C, dx, vs, fq, hx, _⟩ := h; exact ⟨_, hx⟩
  | exc a => exact ⟨_, h.2⟩
  | tk ds => obtain ⟨_, p, hx, _⟩ := h; exact ⟨_, hx⟩
  | kq l ds r => obtain ⟨_, p, hx, _⟩ := h; exact ⟨_, hx⟩
  | lno a ds => obtain ⟨vs, _, hx, _⟩ := h; exact ⟨_, hx⟩
theorem St.mov {K : PySem.W.Frag} {B Z0 Z H : Hp} {σ : L2.St} {ρ : SEnv} (x : St K B Z0 Z H σ ρ) {i j : Nat} (hij : i ≠ j) {s : Sl} (e : get ρ j = s) (hs : s ≠ .un) : ∃ v, σ[j]? = some (some v) ∧ St K B Z0 Z H (σ.set i (some v)) (put (put ρ j .un) i s) := by
  subst e
  have y := x.forget j
  obtain ⟨st, len, fp, h1, h2, h3⟩ := x
  obtain ⟨v, hv⟩ := slR_val (h1 j) hs
  refine ⟨v, look_some hv, ?_⟩
  have hj : j < ρ.length := by
    by_cases c : j < ρ.length
    · exact c
    · exact absurd (get_out _ _ (by omega)) hs
  by_cases hi : i < ρ.length
  · refine St.sets (fp := sw fp j []) y.st y.len (fun l hl => ?_) (fun l m a hl hm hlm ha => ?_) (fun l a hl ha => ?_) (by rw [← hv]; exact h1 j) (fun a ha => h3 j a ha) (fun l a hl ha q => ?_) (by rw [put_length]; exact hi)
    · by_cases c : l = j
      · subst c
        rw [sw_same, get_put_same _ _ _ hj]
        exact rfl
      · rw [sw_ne _ _ c, get_put_ne _ _ _ _ (Ne.symm c)]
        exact h1 l
    · by_cases c : l = j
      · subst c; rw [sw_same] at ha; cases ha
      · rw [sw_ne _ _ c] at ha
        by_cases c2 : m = j
        · subst c2; rw [sw_same]; exact fun q => nomatch q
        · rw [sw_ne _ _ c2]; exact h2 l m a hlm ha
    · by_cases c : l = j
      · subst c; rw [sw_same] at ha; cases ha
      · rw [sw_ne _ _ c] at ha; exact h3 l a ha
    · by_cases c : l = j
      · subst c; rw [sw_same] at q; cases q
      · rw [sw_ne _ _ c] at q; exact h2 j l a (Ne.symm c) ha q
  · rw [put_out _ _ _ (by rw [put_length]; omega), List.set_eq_of_length_le (by rw [len]; omega)]
    exact y
theorem sd_mov {i j : Nat} {x y : Str} {pos pos' p2 : Pos} (hN : X.N.Nodup) (hi : X.N[i]? = some x) (hx : Loc X.env.scope x) (he : PE X (.Name y p2) (tVar j)) (hs : swapsWith (.Name y p2) (some (.Name x pos')) pos.line X.env = pure false := by rfl) (hf : X.fn x = true ∨ X.env.scope.names.lookup x = some .local := by first | exact .inl rfl | exact .inr rfl | assumption) :
    SD X E (.Assign [.Name x pos'] (.Name y p2) pos) (sMov i j) := PS_imp (ps_set hN hi hx he hs hf) fun D σ H ⟨B, Z0, Z, ρ, o, x, e, k⟩ => by
  unfold sMov at e
  by_cases c : i = j
  · rw [if_pos c] at e; cases e
  · rw [if_neg c] at e
    have hs : get ρ j ≠ .un := fun q => by rw [q] at e; cases e
    have e' : o = .nx (put (put ρ j .un) i (get ρ j)) := by
      cases q : get ρ j <;> rw [q] at e <;> cases e <;> first | rfl | exact absurd q hs
    subst e'
    obtain ⟨v, hv, x'⟩ := x.mov c rfl hs
    exact ⟨v, hv, k Z _ H x'⟩
/-! ### comprehensions -/
def lcD (g : GF) (t : SEnv → Option Bool) (e : SEnv → Option Sl) : List D → SEnv → Option (List D)
  | [], _ => some []
  | d :: ds, ρ => match g d ρ with
    | none => none
    | some ρ1 => match t ρ1 with
      | none => none
      | some false => lcD g t e ds ρ
      | some true => match (e ρ1).bind toD, lcD g t e ds ρ with
        | some y, some r => some (y :: r)
        | _, _ => none
def eLc (src : SEnv → Option (List D)) (is : List Nat) (g : GF) (t : SEnv → Option Bool) (e : SEnv → Option Sl) : SEnv → Option Sl := fun ρ => match src ρ with
  | some ds => if ds.length ≤ 100000 then (lcD g t e ds (wipe1 ρ is)).map .own else none
  | none => none
def tYesD : SEnv → Option Bool := fun _ => some true
theorem td_yes : PTs X [] (TR X.K tYesD) := ⟨fun pins s σ H Q I h => pts_nil.run pins s σ H Q I (by obtain ⟨B, Z0, Z, ρ, b, x, e, k⟩ := h; cases e; exact k Z H (Step.refl x.zh))⟩
theorem td_ifs {c : Expr} {t : SEnv → Option Bool} (h : TD X c t) : PTs X [c] (TR X.K t) := pts_one h
/-- how a raw target stores an item: the slots of is alone -/
structure TgtD (K : PySem.W.Frag) (is : List Nat) (g : TG) (f : GF) : Prop where
  run : ∀ {B Z0 Z H : Hp} {σ : L2.St} {ρ ρ' : SEnv} {v : V} {d : D} {Q : L2.St → Hp → Prop}, St K B Z0 Z H σ ρ → Dp K Z v d → f d ρ = some ρ' → (∀ σ', St K B Z0 Z H σ' ρ' → L2.wipe σ' is = L2.wipe σ is → Q σ' H) → g v σ H Q
theorem wipe_set {is : List Nat} : ∀ {σ : L2.St} {i : Nat} {o : Option V}, i ∈ is → L2.wipe (σ.set i o) is = L2.wipe σ is := by
  induction is with
  | nil => intro _ _ _ h; cases h
  | cons j r ih =>
    intro σ i o h
    show (L2.wipe (σ.set i o) r).set j none = (L2.wipe σ r).set j none
    by_cases c : i ∈ r
    · rw [ih c]
    · have e : i = j := by
        rcases List.mem_cons.mp h with z | z
        · exact z
        · exact absurd z c
      subst e
      have : ∀ (is : List Nat) (σ : L2.St), i ∉ is → L2.wipe (σ.set i o) is = (L2.wipe σ is).set i o := by
        intro is
        induction is with
        | nil => intro _ _; rfl
        | cons l m ihm =>
          intro σ hn
          show (L2.wipe (σ.set i o) m).set l none = ((L2.wipe σ m).set l none).set i o
          rw [ihm σ (fun q => hn (List.mem_cons_of_mem _ q))]
          exact List.set_comm _ _ (fun z => hn (by rw [z]; exact List.mem_cons_self ..))
      rw [this r σ c, List.set_set]
theorem wipe_wipe {is : List Nat} (σ : L2.St) : ∀ js : List Nat, (∀ j ∈ js, j ∈ is) → L2.wipe (L2.wipe σ js) is = L2.wipe σ is
  | [], _ => rfl
  | j :: r, h => by
    show L2.wipe ((L2.wipe σ r).set j none) is = _
    rw [wipe_set (h j (List.mem_cons_self ..))]
    exact wipe_wipe σ r fun l q => h l (List.mem_cons_of_mem _ q)
theorem tgt_name {K : PySem.W.Frag} {is : List Nat} {i : Nat} (h : i ∈ is) : TgtD K is (gName i) (gPut i) := ⟨fun x hd e k => by
  cases e
  exact k _ (x.setD i hd) (wipe_set h)⟩
theorem tgt_tup2 {K : PySem.W.Frag} {is : List Nat} {i j : Nat} (hi : i ∈ is) (hj : j ∈ is) : TgtD K is (gTup K 2 (gCons (gName i) (gCons (gName j) gNil))) (gTupF 2 (gsCons i (gsCons j gsNil))) := ⟨fun {B Z0 Z H σ ρ ρ' v d Q} x hd e k => by
  cases d with
  | tuple ds =>
    change (if ds.length = 2 then _ else none) = some ρ' at e
    by_cases c : ds.length = 2
    · rw [if_pos c] at e
      obtain ⟨p, vs, rfl, hq, ha⟩ := titems_ok hd
      refine ⟨p, vs, rfl, sqT_mono x.zh hq, by rw [DpAll_length ha]; exact c, ?_⟩
      cases ha with
      | nil => exact absurd c (by decide)
      | cons r1 t1 =>
        cases t1 with
        | nil => exact absurd c (by simp)
        | cons r2 t2 =>
          cases t2 with
          | cons _ _ => exact absurd c (by simp)
          | nil =>
            have e2 : ρ' = put (put ρ i (.pl _)) j (.pl _) := (Option.some.inj e).symm
            subst e2
            exact ⟨_, _, rfl, _, _, rfl, rfl, k _ ((x.setD i r1).setD j r2) (by rw [wipe_set hj, wipe_set hi])⟩
    · rw [if_neg c] at e; cases e
  | _ => cases e⟩
theorem lc_reading {K : PySem.W.Frag} {wi : TI} {src : SEnv → Option (List D)} {is : List Nat} {g : TG} {gf : GF} {t : SEnv → Option Bool} {e : SEnv → Option Sl} (hw : wi = CR K src) (hg : TgtD K is g gf) {σ : L2.St} {H : Hp} {Q : VK} (h : ER K (eLc src is gf t e) σ H Q) : tLc wi g (TR K t) (ER K e) is σ H Q := by
  subst hw
  obtain ⟨B, Z0, Z, ρ, s, x, ee, k⟩ := h
  unfold eLc at ee
  cases q : src ρ with
  | none => rw [q] at ee; cases ee
  | some ds =>
    rw [q] at ee
    by_cases hz : ds.length ≤ 100000
    · simp only [if_pos hz] at ee
      cases ql : lcD gf t e ds (wipe1 ρ is) with
      | none => rw [ql] at ee; cases ee
      | some all =>
        rw [ql] at ee
        cases ee
        refine ⟨B, Z0, Z, ρ, ds, x, q, fun J G Y Z' H' k' w Dl hDl => ?_⟩
        have hZ'Dl : Z' Dl = none := none_back k'.zh hDl
        refine lc_it w.w (fun i H2 => ∃ Z2 acc ads r, H2 Dl = some (.lst acc) ∧ DpAll K Z2 acc ads ∧ Z2 Dl = none ∧ StepB H' Z' Z2 H2 ∧ lcD gf t e (ds.drop i) (wipe1 ρ is) = some r ∧ ads ++ r = all ∧ acc.length ≤ i) ?_ ?_ ?_ ?_
        · exact ⟨Z', [], [], all, upd_same, .nil, hZ'Dl, Step.newH k'.zh hDl, by rw [List.drop_zero]; exact ql, rfl, Nat.zero_le _⟩
        · rintro i H2 _ ⟨Z2, acc, ads, r, h1, h2, h3, h4, h5, h6, h7⟩
          exact w.stays H2 h4.bh (h4.zz.trans h4.zh)
        · rintro i v H2 H3 hi ⟨Z2, acc, ads, r, h1, h2, h3, h4, h5, h6, h7⟩ y
          obtain ⟨d, hd⟩ : ∃ d, ds[i]? = some d := ⟨ds[i], List.getElem?_eq_getElem hi⟩
          obtain ⟨Z3, k3, r3⟩ := w.gives i Z2 H2 v H3 d hd h4.zz h4.zh y
          have hdrop : ds.drop i = d :: ds.drop (i + 1) := by
            rw [List.drop_eq_getElem_cons hi]
            rw [List.getElem?_eq_getElem hi] at hd
            cases hd
            rfl
          rw [hdrop] at h5
          unfold lcD at h5
          have kH : StepB H' Z' Z3 H3 := h4.trans k3
          have x3 : St K B Z0 Z3 H3 (L2.wipe σ is) (wipe1 ρ is) := by
            have := ((x.step k').step (show Step Z' H' Z3 H3 from kH))
            exact this.wipes is
          cases qg : gf d (wipe1 ρ is) with
          | none => rw [qg] at h5; cases h5
          | some ρ1 =>
            rw [qg] at h5
            refine hg.run x3 r3 qg fun σ2 x4 hws => ?_
            refine ⟨by rw [hws, wipe_wipe σ is fun _ h => h], ?_⟩
            have stay : ∀ {Z4 H4 : Hp}, Step Z2 H2 Z4 H4 → H4 Dl = some (.lst acc) ∧ Z4 Dl = none := fun {Z4 H4} k4 => by
              refine ⟨k4.bh _ _ h1, ?_⟩
              cases c : Z4 Dl with
              | none => rfl
              | some o =>
                rcases k4.gr Dl (by rw [c]; intro z; cases z) with z | z
                · exact absurd h3 z
                · rw [h1] at z; cases z
            cases qt : t ρ1 with
            | none => simp only [qt] at h5; cases h5
            | some bb =>
              refine tr1 x4 qt fun Z4 H4 k4 => ?_
              have k24 : Step Z2 H2 Z4 H4 := k3.trans k4
              cases bb with
              | false =>
                simp only [qt] at h5
                exact iteF ⟨Z4, acc, ads, r, (stay k24).1, DpAll_mono k24.zz _ _ h2, (stay k24).2, h4.trans k24, h5, h6, by omega⟩
              | true =>
                simp only [qt] at h5
                refine iteT ?_
                cases qe : e ρ1 with
                | none => rw [qe] at h5; simp only [Option.bind] at h5; cases h5
                | some sv =>
                  rw [qe] at h5
                  cases qd : toD sv with
                  | none => simp only [Option.bind, qd] at h5; cases h5
                  | some yd =>
                    cases qr : lcD gf t e (ds.drop (i + 1)) (wipe1 ρ is) with
                    | none => simp only [Option.bind, qd, qr] at h5; cases h5
                    | some r' =>
                      simp only [Option.bind, qd, qr] at h5
                      cases h5
                      refine er1 (x4.step k4) qe fun y Z5 H5 k5 r5 => ?_
                      obtain ⟨Z6, k6, zz6, r6⟩ := toD_ok k5 r5 qd
                      have k26 : Step Z2 H2 Z6 H5 := k24.trans k6
                      have s26 := stay k26
                      refine ⟨acc, s26.1, by rw [sizeLine_eq]; omega, Z6, acc ++ [y], ads ++ [yd], r', upd_same, DpAll_append (DpAll_mono k26.zz _ _ h2) (.cons r6 .nil), s26.2, ?_, rfl, by rw [List.append_assoc]; exact h6, by rw [List.length_append]; simp; omega⟩
                      have k' := h4.trans k26
                      refine ⟨fun b u eb => ?_, k'.zz, fun b u eb => ?_, k'.gr⟩
                      · rw [upd_ne (ne_of_none eb hDl)]; exact k'.bh b u eb
                      · rw [upd_ne (ne_of_none eb s26.2)]; exact k'.zh b u eb
        · rintro H2 ⟨Z2, acc, ads, r, h1, h2, h3, h4, h5, h6, h7⟩
          rw [List.drop_length] at h5
          cases h5
          rw [List.append_nil] at h6
          subst h6
          have kk : Step Z H Z2 H2 := k'.trans h4
          refine k _ Z2 H2 kk ⟨[Dl], ⟨Dl, acc, rfl, rfl, h1, h2⟩, fun a ha => ?_⟩
          rw [List.mem_singleton.mp ha]
          exact ⟨none_back k'.bh hDl, h3⟩
    · simp only [if_neg hz] at ee; cases ee
theorem pd_lc {elt tg iter : Expr} {ifs : List Expr} {scope : Scope} {own : List (Str × Nat)} {pos : Pos} {src : SEnv → Option (List D)} {g : TG} {gf : GF} {t : SEnv → Option Bool} {e : SEnv → Option Sl} (hc : X.calm = true) (hN : X.N.Nodup) (hi : CD X tg iter src) (ok : BlkOk X.N X.env.scope scope own) (ht : TgtD X.K (own.map (·.2)) g gf)
    (hg : ∀ (s : Shared) (H : Hp) (C : Addr) (cl : List (Str × Addr)) (fp : List Addr), PG (X.blk s H scope (compEnvC scope cl C X.env) fp) tg g)
    (hts : ∀ (s : Shared) (H : Hp) (C : Addr) (cl : List (Str × Addr)) (fp : List Addr), PTs (X.blk s H scope (compEnvC scope cl C X.env) fp) ifs (TR X.K t))
    (he : ∀ (s : Shared) (H : Hp) (C : Addr) (cl : List (Str × Addr)) (fp : List Addr), PE (X.blk s H scope (compEnvC scope cl C X.env) fp) elt (ER X.K e))
    (hf : ∀ x, foldedSetIterable iter X.env x = pure x := by intro _; rfl) : PD X (.ListComp elt [⟨tg, iter, ifs, 0⟩] scope pos) (eLc src (own.map (·.2)) gf t e) :=
  PE_imp (pe_lc hc hN hi ok hg hts he hf) fun σ H Q h => lc_reading rfl ht h
theorem sd_setLc {i : Nat} {y : Str} {py : Pos} {elt tg iter : Expr} {ifs : List Expr} {scope : Scope} {own : List (Str × Nat)} {pos spos : Pos} {src : SEnv → Option (List D)} {g : TG} {gf : GF} {t : SEnv → Option Bool} {e : SEnv → Option Sl} (hc : X.calm = true) (hN : X.N.Nodup) (hy : X.N[i]? = some y) (hyl : X.env.scope.names.lookup y = some .local)
    (hsw : swapsWith (.ListComp elt [⟨tg, iter, ifs, 0⟩] scope pos) (some (.Name y py)) spos.line X.env = pure true) (hi : CD X tg iter src) (ok : BlkOk X.N X.env.scope scope own) (ht : TgtD X.K (own.map (·.2)) g gf)
    (hg : ∀ (s : Shared) (H : Hp) (C : Addr) (cl : List (Str × Addr)) (fp : List Addr), PG (X.blk s H scope (compEnvC scope cl C X.env) fp) tg g)
    (hts : ∀ (s : Shared) (H : Hp) (C : Addr) (cl : List (Str × Addr)) (fp : List Addr), PTs (X.blk s H scope (compEnvC scope cl C X.env) fp) ifs (TR X.K t))
    (he : ∀ (s : Shared) (H : Hp) (C : Addr) (cl : List (Str × Addr)) (fp : List Addr), PE (X.blk s H scope (compEnvC scope cl C X.env) fp) elt (ER X.K e))
    (hf : ∀ x, foldedSetIterable iter X.env x = pure x := by intro _; rfl) : SD X E (.Assign [.Name y py] (.ListComp elt [⟨tg, iter, ifs, 0⟩] scope pos) spos) (sAsg i (eLc src (own.map (·.2)) gf t e)) :=
  PS_imp (ps_setLc hc hN hy hyl hsw hi ok hg hts he hf) fun D σ H hw => asg_core (fun σ H Q h => lc_reading rfl ht h) hw
end
end DL

set_option Elab.async false
set_option linter.all false
set_option maxRecDepth 100000
set_option maxHeartbeats 1000000
/-! DLE: enumerate of a tuple. -/
namespace PySem
open Sem (wp)
open AutoSeq1 (wpAny_loadPart')
theorem enumT_new (l : Addr) (items : Array Value) (n : Nat) (dct : Option Addr) (sl : Array (Option Value)) :
    Meets (Builtin.«enumerate.__new__» ⟨[.type "enumerate", .ref l], []⟩) (fun _ R s => s.heap.get? l = some { cls := .type "tuple", dict := dct, data := .seq items n, slots := sl } ∧
      R (.ok (.ret (.ref (s.heap.push { cls := .type "tuple_iterator", data := .fields #[.ref l, .int 0 0] }).objs.size)))
        { s with heap := (s.heap.push { cls := .type "tuple_iterator", data := .fields #[.ref l, .int 0 0] }).push { cls := .type "enumerate", data := .fields #[.none, .bool false, .ref s.heap.objs.size, rawInt 0, .none, .none] } }) :=
  .of_wp fun prog w A R s h => by
    obtain ⟨hp, g, d, tk, os⟩ := s; obtain ⟨hl, h⟩ := h
    have hsub := sub_enumerate
    have hL : Heap.IsTuple (Shared.heap ⟨hp, g, d, tk, os⟩) l items := ⟨_, hl, rfl, n, rfl⟩
    wp_walk
    refine wpAny_stack_any fun st => wpAny_pure ?_
    split
    · rename_i c _ _ _ _ _
      cases (c == Value.type "enumerate")
      · wp_walk using wpAny_pyIter_tuple hL
        exact ⟨_, rfl, h⟩
      · wp_walk using wpAny_pyIter_tuple hL
        exact ⟨_, rfl, h⟩
    · wp_walk using wpAny_pyIter_tuple hL
      exact ⟨_, rfl, h⟩
section
variable {prog : Program} {w : World} {A : Around} {E : Value → Shared → Prop} {s : Shared}
theorem call_enumT {l : Addr} {items : Array Value} {Q : Value → Shared → Prop} (hL : s.heap.IsTuple l items)
    (h : ∀ h', IsEnum h' (s.heap.objs.size + 1) s.heap.objs.size 0 .none → h'.IsTupleIter s.heap.objs.size l 0 → h'.objs.size = s.heap.objs.size + 2 →
      (∀ b o, s.heap.get? b = some o → h'.get? b = some o) → Q (.ref (s.heap.objs.size + 1)) { s with heap := h' }) :
    wpAny (model prog w) A (call (.type "enumerate") [.ref l]) Q E s := by
  obtain ⟨⟨c, dct, dt, sl⟩, hl, hc, n, hd⟩ := hL
  replace hc : c = .type "tuple" := hc
  replace hd : dt = .seq items n := hd
  subst hc hd
  refine callType_new F.called_enumerate (by decide) (F.typeCall_enumerate_1 _) (F.newCall_enumerate_1 _) (fun obj => F.args_object_init_2 obj _) F.entry_enumerate_new
    (enumT_new l items n dct sl) ⟨hl, ?_⟩
  have hz : (s.heap.push { cls := .type "tuple_iterator", data := .fields #[.ref l, .int 0 0] }).objs.size = s.heap.objs.size + 1 := Heap.size_push ..
  show _ ∧ _
  rw [hz]
  have he : IsEnum ((s.heap.push { cls := .type "tuple_iterator", data := .fields #[.ref l, .int 0 0] }).push
      { cls := .type "enumerate", data := .fields #[.none, .bool false, .ref s.heap.objs.size, rawInt 0, .none, .none] }) (s.heap.objs.size + 1) s.heap.objs.size 0 .none := by
    have := Heap.get?_push_size (s.heap.push { cls := .type "tuple_iterator", data := .fields #[.ref l, .int 0 0] })
      (o := { cls := .type "enumerate", data := .fields #[.none, .bool false, .ref s.heap.objs.size, rawInt 0, .none, .none] }) rfl
    rw [hz] at this; exact this
  refine ⟨⟨_, he, rfl⟩, h _ he ⟨_, Heap.get?_push_of_some _ (Heap.get?_push_size _ rfl), rfl, rfl⟩ (by rw [Heap.size_push, hz]) fun b o x => Heap.get?_push_of_some _ (Heap.get?_push_of_some _ x)⟩
end
end PySem
namespace L2
open PySem PySem.Spec PyProof.Rows
/-- the tuple at a, each item in a new pair -/
def ItU (K : PySem.W.Frag) (a : Addr) : It :=
  ⟨fun i H => ∃ (xs : List V) (x : V), SqT K H a xs ∧ xs[i]? = some x, fun i H v H' => ∃ T x, v = .ref T ∧ H T = none ∧ H' = upd H T (.tup [.int (i : Nat), x]) ∧ ∀ xs, SqT K H a xs → xs[i]? = some x, fun i H => ∃ xs : List V, SqT K H a xs ∧ xs.length = i⟩
theorem turn_enumU {P : Program} {w : World} {K : PySem.W.Frag} {elts : List Expr} {kk : Nat} {tpos : Pos} (a e it : Addr) :
    Turn P w K (.Tuple elts kk tpos) (ItU K a) [e, it] e (fun i h => (∃ old, IsEnum h e it ((i : Nat) : Int) old) ∧ h.IsTupleIter it a i ∧ e ≠ it) where
  mem := by simp
  obj := fun i h st b hb => by
    obtain ⟨⟨old, he⟩, ⟨o, ho, hc, hd⟩, _⟩ := st
    have e' : b = e ∨ b = it := by simpa using hb
    rcases e' with z | z
    · rw [z]; exact ⟨_, he, fun v q => nomatch q⟩
    · rw [z]; exact ⟨o, ho, fun v q => by rw [hd] at q; cases q⟩
  keep := fun i h h' st k => let ⟨⟨old, he⟩, hi, hne⟩ := st; ⟨⟨old, k e (by simp) _ he⟩, hi.at fun o q => k it (by simp) o q, hne⟩
  item := by
    intro X hP hw hK hc i pins s σ H E I hf st hg
    subst hP hw hK
    obtain ⟨⟨old, he⟩, hit, hne⟩ := st
    obtain ⟨xs, x, hq, hx⟩ := hg
    obtain ⟨its, rv, p, hz⟩ := I.tuple hq
    obtain ⟨u, hu, ru⟩ := rv.get hx
    have hel : e < s.heap.objs.size := Heap.lt_size he
    have hil : it < s.heap.objs.size := by obtain ⟨_, q, _⟩ := hit; exact Heap.lt_size q
    have pT : s.heap.IsTuple a its.toArray := p
    have hait : a ≠ it := by
      intro z
      subst z
      obtain ⟨o, ho, hc1, _⟩ := id pT
      obtain ⟨o2, ho2, hc2, _⟩ := id hit
      rw [ho] at ho2
      cases ho2
      rw [hc1] at hc2
      injection hc2 with z
      exact absurd z (by decide)
    have hae : e ≠ a := by
      intro z
      subst z
      obtain ⟨o, ho, hc1, _⟩ := id pT
      rw [show s.heap.get? e = _ from he] at ho
      cases ho
      injection hc1 with z
      exact absurd z (by decide)
    refine wpAny_pyNext_enum_itemD (Draws.tuple (prog := X.prog) (w := X.w) (A := X.A.in1) (I.ok.hd hc) it a hait its.toArray) he ⟨hit, pT⟩ (by have := (List.getElem?_eq_some_iff.mp hu).1; simpa using this) hne (by simp [hne, hae]) fun y h' tk hy ho hst' hT hsz hk => ?_
    obtain ⟨hit', _⟩ := hst'
    have ey : y = u := by
      have hy' : its[i]? = some y := by simpa using hy
      rw [hu] at hy'
      exact (Option.some.inj hy').symm
    subst ey
    refine ⟨_, rfl, wpAny_letOwnedTupleGo_enum (s := { s with heap := h', toks := tk + 1 }) ho fun h'' he' sb => ?_⟩
    have hT2 : h''.get? s.heap.objs.size = some { cls := .type "tuple", data := .seq #[.int i tk, y] } := (sb.2 _ (Nat.ne_of_gt hel)).trans hT
    have new : ObjOk X.prog X.w (upd H s.heap.objs.size (.tup [.int (i : Nat), x])) h'' s.heap.objs.size (.tup [.int (i : Nat), x]) :=
      ⟨by show 2 ≤ sizeLine; decide, [.int i tk, y], .cons ⟨_, rfl⟩ (.cons ru .nil), ⟨_, hT2, rfl, _, rfl⟩⟩
    have I1 : Inv X pins σ (upd H s.heap.objs.size (.tup [.int (i : Nat), x])) { s with heap := h'', toks := tk + 1 } :=
      I.turnedNew (ch := [e, it]) (fun b ob hb q => (sb.2 b (fun z => hb (by simp [z]))).trans (hk b ob (fun z => hb (by simp [z])) (fun z => hb (by simp [z])) q)) hf (Nat.le_refl _) new
    refine ⟨.ref s.heap.objs.size, _, I1, rfl, ⟨_, x, rfl, I.hok.fresh (Nat.le_refl _), rfl, fun ys hy => by rw [I.tuple_inj hy hq]; exact hx⟩, ⟨⟨y, ?_⟩, hit'.at fun o q => (sb.2 it (Ne.symm hne)).trans q, hne⟩, fun b hb => ?_⟩
    · have e1 : ((i + 1 : Nat) : Int) = (i : Int) + 1 := by omega
      rw [e1]; exact he'
    · have hb' : b < s.heap.objs.size := by
        have e' : b = e ∨ b = it := by simpa using hb
        rcases e' with z | z
        · rw [z]; exact hel
        · rw [z]; exact hil
      rw [upd_ne (Nat.ne_of_lt hb')]
      exact (hf b hb).1
  done := by
    intro X hP hw hK hc i pins s σ H E I hf st hg
    subst hP hw hK
    obtain ⟨⟨old, he⟩, hit, hne⟩ := st
    obtain ⟨xs, hq, hx⟩ := hg
    obtain ⟨its, rv, p, hz⟩ := I.tuple hq
    obtain ⟨f0, f1, f2, f3, f4, f5⟩ := hf it (by simp)
    have hl := rv.length
    have pT : s.heap.IsTuple a its.toArray := p
    have hait : a ≠ it := by
      intro z
      subst z
      obtain ⟨o, ho, hc1, _⟩ := id pT
      obtain ⟨o2, ho2, hc2, _⟩ := id hit
      rw [ho] at ho2
      cases ho2
      rw [hc1] at hc2
      injection hc2 with z
      exact absurd z (by decide)
    have hn : its.toArray.size = i := by simp; omega
    exact wpAny_pyNext_enum_endD (Draws.tuple (prog := X.prog) (w := X.w) (A := X.A.in1) (I.ok.hd hc) it a hait its.toArray) he (by rw [hn]; exact ⟨hit, pT⟩) fun h' eb => ⟨rfl, I.turned (t' := s.toks) (fun b o hb q => eb b o hb q) f0 f1 f3 f4 f5⟩
  self := fun A i s Q E st h => let ⟨⟨_, he⟩, _⟩ := st; wpAny_pyIter_enum he h
def iEnumU (K : PySem.W.Frag) (ta : TA) : TI := fun σ H R => ta σ H fun vs H1 => ∃ a xs, vs = [.ref a] ∧ SqT K H1 a xs ∧ R (ItU K a) H1
theorem pi_enumU {X : Cx} {e : Expr} {ta : TA} {p pos tpos : Pos} {elts : List Expr} {kk : Nat} (hg : Gl X "enumerate") (hm : X.mg "enumerate" = none) (ha : PA X [e] ta) (hs : starEach [e] X.env = [(false, eval e X.env)] := by rfl) :
    PI X (.Tuple elts kk tpos) (.Call (.Name "enumerate" p) [e] [] pos) (iEnumU X.K ta) := by
  refine ⟨fun pins s σ H R I h => ?_⟩
  refine Call_ (ld_blt I hg hm boot_enumerate (PyProof.Rows.callWith_type1 (thn (ha.run pos pins s σ H _ I h) fun us s1 ⟨vs, H1, I1, r1, q1⟩ => ?_) hs rfl))
  obtain ⟨a, xs, ex, hq, q⟩ := q1
  subst ex
  cases r1 with
  | cons r rr =>
    cases rr
    cases r
    obtain ⟨its, rv, p', hz⟩ := I1.tuple hq
    refine call_enumT (show s1.heap.IsTuple a its.toArray from p') fun h' he hit hsz hk => wpAny_pyIter_enum he ?_
    have I2 : Inv X pins σ H1 { s1 with heap := h' } := I1.kept (t' := s1.toks) hk
    refine ⟨s1.heap.objs.size + 1, [s1.heap.objs.size + 1, s1.heap.objs.size], _, _, H1, rfl, I2, turn_enumU a (s1.heap.objs.size + 1) s1.heap.objs.size, ⟨⟨.none, he⟩, hit, Nat.succ_ne_self _⟩, fun b hb => ?_, q⟩
    have e' : b = s1.heap.objs.size + 1 ∨ b = s1.heap.objs.size := by simpa using hb
    have hle : s1.heap.objs.size ≤ b := by
      rcases e' with z | z
      · rw [z]; exact Nat.le_add_right _ _
      · rw [z]; exact Nat.le_refl _
    exact I1.fpOk hle (I1.hok.fresh hle)
theorem walk_enumU {K : PySem.W.Frag} {a : Addr} {xs : List V} : Walk (ItU K a) xs.length (fun H => SqT K H a xs) (YPair (fun i => some (.int (i : Nat))) (fun i => xs[i]?)) := by
  refine ⟨fun i _ hi q => ⟨xs, xs[i], q, by simp [hi]⟩, fun _ q => ⟨xs, q, rfl⟩, fun i H v H' _ q y => ?_⟩
  obtain ⟨T, x, h1, h2, h3, h4⟩ := y
  exact ⟨T, .int (i : Nat), x, h1, h2, h3, rfl, h4 xs q⟩
end L2

set_option Elab.async false
set_option linter.all false
set_option maxRecDepth 100000
set_option maxHeartbeats 1000000
/-! DL6: enumerate, zip, lists changed, calls of defs, a def by its body. -/
namespace DL
open PySem PySem.Spec PyProof.Rows L2
section
variable {X : Cx} {E : WX}
/-! ### pairs -/
theorem pair_gives {K : PySem.W.Frag} {Zs : Hp} {f g : Nat → Option V} {ds : List D} {df dg : Nat → D} (hds : ∀ (i : Nat) (d : D), ds[i]? = some d → d = PyData.tuple [df i, dg i])
    (hf : ∀ i v, i < ds.length → f i = some v → Dp K Zs v (df i)) (hg : ∀ i v, i < ds.length → g i = some v → Dp K Zs v (dg i))
    (i : Nat) (Z H : Hp) (x : V) (H' : Hp) (d : D) (e : ds[i]? = some d) (hz : Same Zs Z) (zh : Same Z H) (y : YPair f g i H x H') : ∃ Z', Step Z H Z' H' ∧ Dp K Z' x d := by
  obtain ⟨T, a, b, rfl, hT, rfl, ha, hb⟩ := y
  have hi := (List.getElem?_eq_some_iff.mp e).1
  have := hds i d e
  subst this
  obtain ⟨k, r⟩ := Dp_newT zh hT (DpAll.cons (Dp_mono hz _ _ (hf i a hi ha)) (DpAll.cons (Dp_mono hz _ _ (hg i b hi hb)) DpAll.nil))
  exact ⟨_, k, r⟩
def enumD (ds : List D) : List D := ds.zipIdx.map fun p => .tuple [.int (p.2 : Nat), p.1]
theorem enumD_length (ds : List D) : (enumD ds).length = ds.length := by simp [enumD]
theorem enumD_get {ds : List D} {i : Nat} {d : D} (h : (enumD ds)[i]? = some d) : d = .tuple [.int (i : Nat), ds.getD i .none] := by
  unfold enumD at h
  rw [List.getElem?_map, List.getElem?_zipIdx] at h
  cases q : ds[i]? with
  | none => rw [q] at h; cases h
  | some z =>
    rw [q] at h
    cases h
    have : ds.getD i .none = z := by simp [List.getD, q]
    rw [this]
    simp
theorem getD_of {ds : List D} {i : Nat} {d : D} (h : ds[i]? = some d) : ds.getD i .none = d := by simp [List.getD, h]
theorem enum_walk {K : PySem.W.Frag} {B Zs : Hp} {J : It} {G : Hp → Prop} {vs : List V} {ds : List D} (hd : DpAll K Zs vs ds) (w : Walk J vs.length G (YPair (fun i => some (.int (i : Nat))) (fun i => vs[i]?))) (hs : ∀ H, Same B H → Same Zs H → G H) : WalkD K B Zs J (enumD ds) G (YPair (fun i => some (.int (i : Nat))) (fun i => vs[i]?)) :=
  ⟨by rw [enumD_length, ← DpAll_length hd]; exact w, hs, pair_gives (df := fun i => .int (i : Nat)) (dg := fun i => ds.getD i .none) (fun i d h => enumD_get h) (fun i v _ h => by cases h; exact .int _) (fun i v _ h => by
    obtain ⟨d, e, r⟩ := DpAll_get' hd h
    rw [getD_of e]
    exact r)⟩
def enT (f : SEnv → Option Sl) : SEnv → Option (List D) := fun ρ => match f ρ with
  | some (.pl (.tuple ds)) => some (enumD ds)
  | _ => none
def enL (f : SEnv → Option Sl) : SEnv → Option (List D) := fun ρ => match f ρ with
  | some (.pl (.list ds)) => some (enumD ds)
  | _ => none
theorem ar_one {f : SEnv → Option Sl} {B Z0 Z H : Hp} {σ : L2.St} {ρ : SEnv} {d : D} {Q : List V → Hp → Prop} (x : St X.K B Z0 Z H σ ρ) (q : f ρ = some (.pl d)) (k : ∀ v Z' H', Step Z H Z' H' → Dp X.K Z' v d → Q [v] H') : AR X.K (aCons f aNil) σ H Q := by
  refine ⟨B, Z0, Z, ρ, [.pl d], x, by unfold aCons aNil; rw [q]; rfl, fun vs Z' H' k' r => ?_⟩
  match vs, r with
  | [v], r =>
    obtain ⟨_, y, e, hd⟩ := r.1
    cases e
    exact k v Z' H' k' hd
  | _ :: _ :: _, r => exact r.2.elim
theorem ld_enumT {e : Expr} {f : SEnv → Option Sl} {p pos tpos : Pos} {elts : List Expr} {kk : Nat} (hg : Gl X "enumerate") (hm : X.mg "enumerate" = none) (he : PD X e f) (hs : starEach [e] X.env = [(false, eval e X.env)] := by rfl) : LD X (.Tuple elts kk tpos) (.Call (.Name "enumerate" p) [e] [] pos) (enT f) :=
  PI_imp (pi_enumU hg hm (ad_cons he ad_nil hs) hs) fun σ H R ⟨B, Z0, Z, ρ, ds, x, e, k⟩ => by
    unfold enT at e
    split at e
    · rename_i es q
      cases e
      refine ar_one x q fun v Z' H' k' hd => ?_
      obtain ⟨a, vs, rfl, hq, ha⟩ := titems_ok hd
      exact ⟨a, vs, rfl, sqT_mono k'.zh hq, k _ _ _ Z' H' k' (enum_walk ha walk_enumU fun H2 _ b => sqT_mono b hq)⟩
    · cases e
theorem ld_enumL {e : Expr} {f : SEnv → Option Sl} {p pos tpos : Pos} {elts : List Expr} {kk : Nat} (hg : Gl X "enumerate") (hm : X.mg "enumerate" = none) (he : PD X e f) (hs : starEach [e] X.env = [(false, eval e X.env)] := by rfl) : LD X (.Tuple elts kk tpos) (.Call (.Name "enumerate" p) [e] [] pos) (enL f) :=
  PI_imp (pi_enum hg hm (ad_cons he ad_nil hs) hs) fun σ H R ⟨B, Z0, Z, ρ, ds, x, e, k⟩ => by
    unfold enL at e
    split at e
    · rename_i es q
      cases e
      refine ar_one x q fun v Z' H' k' hd => ?_
      cases hd with
      | lst hq ha => exact ⟨_, _, rfl, k'.zh.seq hq, k _ _ _ Z' H' k' (enum_walk ha walk_enum fun H2 _ b => b.seq hq)⟩
    · cases e

/-! ### lists changed -/
theorem St.mut {K : PySem.W.Frag} {B Z0 Z H : Hp} {σ : L2.St} {ρ : SEnv} (x : St K B Z0 Z H σ ρ) {i : Nat} {ds : List D} (e : get ρ i = .own ds) : ∃ p vs, σ[i]? = some (some (.ref p)) ∧ H p = some (.lst vs) ∧ DpAll K Z vs ds ∧
    ∀ {Z' H' : Hp}, Step Z H Z' H' → H' p = some (.lst vs) ∧ ∀ vs' ds', DpAll K Z' vs' ds' → St K B Z0 Z' (upd H' p (.lst vs')) σ (put ρ i (.own ds')) := by
  obtain ⟨st, len, fp, h1, h2, h3⟩ := id x
  have hi := h1 i
  rw [e] at hi
  obtain ⟨p, vs, ef, hv, hp, hd⟩ := hi
  refine ⟨p, vs, look_some hv, hp, hd, fun {Z' H'} k => ⟨k.bh _ _ hp, fun vs' ds' hd' => ?_⟩⟩
  have y := x.step k
  have hB : B p = none := (h3 i p (by rw [ef]; simp)).1
  have hil : i < ρ.length := by
    by_cases c : i < ρ.length
    · exact c
    · rw [get_out _ _ (by omega)] at e; cases e
  have hZ : ∀ j a, a ∈ fp j → Z' a = none := fun j a ha => by
    cases q : Z' a with
    | none => rfl
    | some o =>
      rcases k.gr a (by rw [q]; intro z; cases z) with z | z
      · exact absurd (h3 j a ha).2 z
      · exact absurd z ((h1 j).live a ha)
  have hZp : Z' p = none := hZ i p (by rw [ef]; simp)
  have st' : StepB B Z0 Z' (upd H' p (.lst vs')) := by
    refine ⟨fun b u eb => ?_, y.st.zz, fun b u eb => ?_, y.st.gr⟩
    · rw [upd_ne (ne_of_none eb hB)]; exact y.st.bh b u eb
    · rw [upd_ne (ne_of_none eb hZp)]; exact y.st.zh b u eb
  have := St.sets (K := K) (σ := σ) (ρ := ρ) (i := i) (s := .own ds') (o := look σ i) (fpn := [p]) (fp := fp) st' len (fun j hj => (h1 j).mono (Same.refl B) k.zz fun a ha => ?_) (fun j l a _ _ => h2 j l a) (fun j a _ ha => ⟨(h3 j a ha).1, hZ j a ha⟩)
    ⟨p, vs', rfl, hv, upd_same, hd'⟩ (fun a ha => by rw [List.mem_singleton.mp ha]; exact ⟨hB, hZp⟩) (fun j a hj ha q => h2 j i a hj q (by rw [ef]; exact ha)) hil
  · rw [set_look (by rw [len]; exact hil)] at this
    exact this
  · have hne : a ≠ p := fun z => h2 j i a hj ha (by rw [ef, z]; simp)
    rw [upd_ne hne]
    cases q : H a with
    | none => exact absurd q ((h1 j).live a ha)
    | some o => exact k.bh a o q
/-- xs.append(e) -/
def sApp (i : Nat) (f : SEnv → Option Sl) : SEnv → Option Out := fun ρ => match get ρ i, (f ρ).bind toD with
  | .own ds, some d => if ds.length < 100000 then some (.nx (put ρ i (.own (ds ++ [d])))) else none
  | _, _ => none
theorem sd_append (i : Nat) {x : Str} {e : Expr} {f : SEnv → Option Sl} {p apos cpos pos : Pos} (hv : PE X (.Name x p) (tVar i)) (he : PD X e f)
    (hb : PE X (.Call (.Attribute (.Name x p) "append" apos) [e] [] cpos) (tBM X.K "list" rAppend (tVar i) (tCons (ER X.K f) tNil))) (hs : swapsWith (.Call (.Attribute (.Name x p) "append" apos) [e] [] cpos) none pos.line X.env = pure false := by rfl) :
    SD X E (.Expr (.Call (.Attribute (.Name x p) "append" apos) [e] [] cpos) pos) (sApp i f) := PS_imp (ps_expr hb hs) fun D σ H ⟨B, Z0, Z, ρ, o, x, e, k⟩ => by
  unfold sApp at e
  split at e
  · rename_i ds d q1 q2
    by_cases c : ds.length < 100000
    · rw [if_pos c] at e
      cases e
      obtain ⟨p, vs, hv, hp, hd, km⟩ := x.mut q1
      refine ⟨_, hv, .inl ⟨rfl, vs, .inl (.inl hp)⟩, ?_⟩
      cases qf : f ρ with
      | none => rw [qf] at q2; cases q2
      | some s =>
        rw [qf] at q2
        refine er1 x qf fun v Z' H' k' r => ?_
        obtain ⟨Z2, k2, zz, hvd⟩ := toD_ok k' r q2
        obtain ⟨hp', km'⟩ := km k2
        exact ⟨p, vs, v, rfl, rfl, hp', by rw [sizeLine_eq, DpAll_length hd]; omega, k Z2 σ _ (km' _ _ (DpAll_append (DpAll_mono k2.zz _ _ hd) (.cons hvd .nil)))⟩
    · rw [if_neg c] at e; cases e
  · cases e
/-- xs[i] = e -/
def sSetIx (j : Nat) (fi fe : SEnv → Option Sl) : SEnv → Option Out := fun ρ => match get ρ j, (fe ρ).bind toD, fi ρ with
  | .own ds, some d, some (.pl (.int k)) => match ixN ds.length k with
    | some m => some (.nx (put ρ j (.own (ds.set m d))))
    | none => none
  | _, _, _ => none
theorem sd_setIx (j : Nat) {x : Str} {e i : Expr} {fe fi : SEnv → Option Sl} {p tpos pos : Pos} (hv : PE X (.Name x p) (tVar j)) (hi : PD X i fi) (he : PD X e fe)
    (ha : PS X (.Assign [.Subscript (.Name x p) i tpos] e pos) (tAsg (ER X.K fe) (gSub (tVar j) (ER X.K fi) rSetL))) :
    SD X E (.Assign [.Subscript (.Name x p) i tpos] e pos) (sSetIx j fi fe) := PS_imp ha fun D σ H ⟨B, Z0, Z, ρ, o, x, e, k⟩ => by
  unfold sSetIx at e
  split at e
  · rename_i ds d kk q1 q2 q3
    split at e
    · rename_i m qm
      cases e
      obtain ⟨p, vs, hv, hp, hd, km⟩ := x.mut q1
      cases qf : fe ρ with
      | none => rw [qf] at q2; cases q2
      | some s =>
        rw [qf] at q2
        refine er1 x qf fun v Z' H' k' r => ?_
        obtain ⟨Z2, k2, zz, hvd⟩ := toD_ok k' r q2
        refine ⟨_, hv, er1 (x.step k2) q3 fun w Z3 H3 k3 r3 => ?_⟩
        have hw := r3.data
        cases hw
        obtain ⟨hp', km'⟩ := km (k2.trans k3)
        refine ⟨p, vs, kk, m, rfl, rfl, hp', by rw [DpAll_length hd]; exact qm, k Z3 σ _ (km' _ _ (DpAll_set (Dp_mono k3.zz _ _ hvd) m (DpAll_mono (k2.trans k3).zz _ _ hd)))⟩
    · cases e
  · cases e
/-- y = xs.pop() -/
def sPopTo (i j : Nat) : SEnv → Option Out := fun ρ => match get ρ j with
  | .own ds => match ds.getLast? with
    | some d => some (.nx (put (put ρ j (.own ds.dropLast)) i (.pl d)))
    | none => none
  | _ => none
theorem pop_read {K : PySem.W.Frag} {B Z0 Z H : Hp} {σ : L2.St} {ρ : SEnv} {j : Nat} {ds : List D} {d : D} (x : St K B Z0 Z H σ ρ) (q1 : get ρ j = .own ds) (q2 : ds.getLast? = some d) {Q : VK} (k : ∀ v p vs, Dp K Z v d → St K B Z0 Z (upd H p (.lst vs)) σ (put ρ j (.own ds.dropLast)) → Q v (upd H p (.lst vs))) : tBM0 K "list" rPop (tVar j) σ H Q := by
  obtain ⟨p, vs, hv, hp, hd, km⟩ := x.mut q1
  obtain ⟨_, km'⟩ := km (Step.refl x.zh)
  have hl := DpAll_length hd
  rw [List.getLast?_eq_getElem?] at q2
  obtain ⟨v, e1, r⟩ := DpAll_get hd q2
  exact ⟨_, hv, .inl ⟨rfl, vs, .inl (.inl hp)⟩, p, vs, v, rfl, rfl, hp, by rw [hl]; exact e1, k v p vs.dropLast r (km' _ _ (DpAll_dropLast hd))⟩
theorem sd_popTo {i j : Nat} {x y : Str} {p apos cpos pos pos' : Pos} (hN : X.N.Nodup) (hi : X.N[i]? = some x) (hx : Loc X.env.scope x) (hb : PE X (.Call (.Attribute (.Name y p) "pop" apos) [] [] cpos) (tBM0 X.K "list" rPop (tVar j))) (hs : swapsWith (.Call (.Attribute (.Name y p) "pop" apos) [] [] cpos) (some (.Name x pos')) pos.line X.env = pure false := by rfl) (hf : X.fn x = true ∨ X.env.scope.names.lookup x = some .local := by first | exact .inl rfl | exact .inr rfl | assumption) :
    SD X E (.Assign [.Name x pos'] (.Call (.Attribute (.Name y p) "pop" apos) [] [] cpos) pos) (sPopTo i j) := PS_imp (ps_set hN hi hx hb hs hf) fun D σ H ⟨B, Z0, Z, ρ, o, x, e, k⟩ => by
  unfold sPopTo at e
  split at e
  · rename_i ds q1
    split at e
    · rename_i d q2
      cases e
      exact pop_read x q1 q2 fun v p vs r x' => k Z _ _ (x'.setD i r)
    · cases e
  · cases e
/-- xs.pop(), dropped -/
def sPop (j : Nat) : SEnv → Option Out := fun ρ => match get ρ j with
  | .own ds => match ds.getLast? with
    | some _ => some (.nx (put ρ j (.own ds.dropLast)))
    | none => none
  | _ => none
theorem sd_pop {j : Nat} {y : Str} {p apos cpos pos : Pos} (hb : PE X (.Call (.Attribute (.Name y p) "pop" apos) [] [] cpos) (tBM0 X.K "list" rPop (tVar j))) (hs : swapsWith (.Call (.Attribute (.Name y p) "pop" apos) [] [] cpos) none pos.line X.env = pure false := by rfl) :
    SD X E (.Expr (.Call (.Attribute (.Name y p) "pop" apos) [] [] cpos) pos) (sPop j) := PS_imp (ps_expr hb hs) fun D σ H ⟨B, Z0, Z, ρ, o, x, e, k⟩ => by
  unfold sPop at e
  split at e
  · rename_i ds q1
    split at e
    · rename_i d q2
      cases e
      exact pop_read x q1 q2 fun v p vs r x' => k Z _ _ x'
    · cases e
  · cases e
/-- xs + ys, new lists or lists that are tracked by themselves -/
def ditems : Sl → Option (List D)
  | .own ds => some ds
  | .brw ds => some ds
  | _ => none
theorem ditems_ok {K : PySem.W.Frag} {H0 Z H : Hp} {v : V} {s : Sl} {ds : List D} (h : vlR K H0 Z H v s) (e : ditems s = some ds) : ∃ p vs, v = .ref p ∧ H p = some (.lst vs) ∧ DpAll K Z vs ds := by
  obtain ⟨fp, h1, h2⟩ := h
  cases s with
  | own es => cases e; obtain ⟨p, vs, _, hx, hp, hd⟩ := h1; cases hx; exact ⟨p, vs, rfl, hp, hd⟩
  | brw es => cases e; obtain ⟨_, p, vs, hx, hp, hd⟩ := h1; cases hx; exact ⟨p, vs, rfl, hp, hd⟩
  | _ => cases e
def catF (a b : Option Sl) : Option Sl := match a, b with
  | some s, some t => match ditems s, ditems t with
    | some xs, some ys => if xs.length + ys.length ≤ 100000 then some (.own (xs ++ ys)) else none
    | _, _ => none
  | _, _ => none
def eCat (a b : SEnv → Option Sl) : SEnv → Option Sl := fun ρ => catF (a ρ) (b ρ)
theorem pd_cat {a b : Expr} {fa fb : SEnv → Option Sl} {pos : Pos} (ha : PD X a fa) (hb : PD X b fb) : PD X (.BinOp a .Add b pos) (eCat fa fb) :=
  PE_imp (pe_op op_cat ha hb) fun σ H Q ⟨B, Z0, Z, ρ, s, x, e, k⟩ => by
    unfold eCat catF at e
    split at e
    · rename_i sa sb qa qb
      split at e
      · rename_i xs ys q1 q2
        by_cases c : xs.length + ys.length ≤ 100000
        · rw [if_pos c] at e
          cases e
          refine er2 x qa qb fun v w Z' H' k' r1 r2 => ?_
          obtain ⟨p, vs, rfl, hp, hd⟩ := ditems_ok r1 q1
          obtain ⟨q, ws, rfl, hq, hd2⟩ := ditems_ok r2 q2
          refine ⟨p, q, vs, ws, rfl, rfl, hp, hq, by rw [sizeLine_eq, DpAll_length hd, DpAll_length hd2]; omega, fun l hl => ?_⟩
          obtain ⟨k3, r3⟩ := vlR.newL k'.zh hl (DpAll_append hd hd2)
          exact k _ _ _ (k'.trans k3) (r3.back k'.bh)
        · rw [if_neg c] at e; cases e
      · cases e
    · cases e
/-! ### own defs -/
inductive Rs where
  | ret (s : Sl)
  | exn (x : Exn)
abbrev Fn := List Sl → Option Rs
/-- arguments: data, borrowed things, or things that are handed over -/
def ArgR (K : PySem.W.Frag) (B Z H : Hp) (vs : List V) (ss : List Sl) : Prop := vs.length = ss.length ∧ ∃ fp : Nat → List Addr, (∀ i, slR K B Z H (get ss i) (vs[i]?) (fp i)) ∧ (∀ i j a, i ≠ j → a ∈ fp i → ¬ a ∈ fp j) ∧ ∀ i a, a ∈ fp i → B a = none ∧ Z a = none
def FSp (K : PySem.W.Frag) (F : Fn) : Sp := fun vs H Q E => ∃ B Z ss r, Same B H ∧ Same Z H ∧ ArgR K B Z H vs ss ∧ F ss = some r ∧ match r with
  | .ret s => ∀ v Z' H', StepB B Z Z' H' → vlB K B Z' H' v s → Q v H'
  | .exn x => ∀ c od Z' H', StepB B Z Z' H' → exR K Z' H' x c od → E c od H'
def ent (n : Nat) (ss : List Sl) : SEnv := ss ++ List.replicate (n - ss.length) .un
/-- a def's function by its body's -/
def fnD (n m : Nat) (g : SEnv → Option Out) : Fn := fun ss => if ss.length = m then match g (ent n ss) with
    | some (.rt s) => some (.ret s)
    | some (.nx _) => some (.ret (.pl .none))
    | some (.ex x _) => some (.exn x)
    | _ => none
  else none
theorem get_app : ∀ (l : List Sl) (n i : Nat), get (l ++ List.replicate n .un) i = get l i
  | [], 0, _ => rfl
  | [], n + 1, 0 => rfl
  | [], n + 1, i + 1 => by
    show get (List.replicate n .un) i = .un
    have := get_app [] n i
    simp only [List.nil_append] at this
    rw [this]
    rfl
  | _ :: _, _, 0 => rfl
  | _ :: r, n, i + 1 => get_app r n i
theorem look_start {N : List Str} {vs : List V} (i : Nat) : look (L2.start N vs) i = vs[i]? := by
  unfold look L2.start
  by_cases c : i < vs.length
  · rw [List.getElem?_append_left (by simpa using c), List.getElem?_map, List.getElem?_eq_getElem c]
    rfl
  · rw [List.getElem?_append_right (by simpa using c)]
    rw [List.getElem?_eq_none (l := vs) (by omega)]
    rw [List.length_map]
    rw [List.getElem?_replicate]
    split <;> rfl
theorem st_start {K : PySem.W.Frag} {B Z H : Hp} {N : List Str} {vs : List V} {ss : List Sl} (bh : Same B H) (zh : Same Z H) (a : ArgR K B Z H vs ss) (hN : vs.length ≤ N.length) : St K B Z Z H (L2.start N vs) (ent N.length ss) := by
  obtain ⟨hl, fp, h1, h2, h3⟩ := a
  refine ⟨⟨bh, Same.refl Z, zh, fun _ q => .inl q⟩, ?_, fp, fun i => ?_, h2, h3⟩
  · unfold L2.start ent
    simp [hl]
  · unfold ent
    rw [get_app, look_start]
    exact h1 i
theorem body_read {K : PySem.W.Frag} {E : XK} {N : List Str} {m : Nat} {g : SEnv → Option Out} {vs : List V} {H : Hp} {Q : VK} (hm : m ≤ N.length) (h : FSp K (fnD N.length m g) vs H Q E) : SR K (fun c d _ H => E c d H) g { nx := fun _ H' => Q .non H', rt := Q } (L2.start N vs) H := by
  obtain ⟨B, Z, ss, r, bh, zh, a, e, k⟩ := h
  unfold fnD at e
  by_cases c : ss.length = m
  · rw [if_pos c] at e
    have x := st_start bh zh a (N := N) (by rw [a.1, c]; exact hm)
    split at e
    · rename_i s q
      cases e
      exact ⟨B, Z, Z, _, _, x, q, k⟩
    · rename_i ρ' q
      cases e
      exact ⟨B, Z, Z, _, _, x, q, fun Z' σ' H' x' => k _ Z' H' x'.st ⟨[], ⟨rfl, _, rfl, .non⟩, fun _ h => nomatch h⟩⟩
    · rename_i ex ρ' q
      cases e
      exact ⟨B, Z, Z, _, _, x, q, fun c od Z' σ' H' x' r => k c od Z' H' x'.st r⟩
    · cases e
  · rw [if_neg c] at e; cases e
theorem FSp_len {K : PySem.W.Frag} {n m : Nat} {g : SEnv → Option Out} {vs : List V} {H : Hp} {Q : VK} {E : XK} (h : FSp K (fnD n m g) vs H Q E) : vs.length = m := by
  obtain ⟨B, Z, ss, r, bh, zh, a, e, k⟩ := h
  unfold fnD at e
  by_cases c : ss.length = m
  · rw [a.1, c]
  · rw [if_neg c] at e; cases e
section
variable {P : Program} {w : World} {K : PySem.W.Frag} {mg : Str → Option Value} {base : Heap}
/-- THE RULE of a def from which nothing is raised -/
theorem fn_ok {x qual : Str} {st : Stmt} {f : Addr} {fd : FuncData} {N ps : List Str} {k m : Nat} {g : SEnv → Option Out} (F : Fun K x qual st f fd) (S : FnScope N ps (defScope st)) (hm : ps.length = m) (hn : m ≤ N.length)
    (hbody : ∀ (cdv : Value) (A : Around) (outer : List Env) (s : Shared) (H : Hp) (E : XK), Room k (A.deeper (PyProof.Rows.envOfC qual (defScope st) s.heap.objs.size f cdv)) → SsD (cxOf L2.CX0 P w K mg base N qual (defScope st) f cdv A outer s H E).nox (fun c d _ H => E c d H) (defBody st) g) :
    FnOk P w K mg base L2.CX0 (k + 1) f fd ps (FSp K (fnD N.length m g)) := by
  refine F.ok S (fun vs H Q E h => by rw [hm]; exact FSp_len h) fun cdv A outer s H vs Q E hr h => ⟨_, hbody cdv A outer s H E hr, body_read hn h⟩
end
/-- a call of a def that hands back a value here -/
def eCall (F : Fn) (a : SEnv → Option (List Sl)) : SEnv → Option Sl := fun ρ => match a ρ with
  | some ss => match F ss with
    | some (.ret s) => some s
    | _ => none
  | none => none
theorem AllB_arg {K : PySem.W.Frag} {Z H : Hp} : ∀ {vs : List V} {ss : List Sl}, AllB K Z H vs ss → ArgR K H Z H vs ss := fun {vs ss} h => by
  refine ⟨?_, fun _ => [], fun i => ?_, fun _ _ _ _ h => (List.not_mem_nil h).elim, fun _ _ h => (List.not_mem_nil h).elim⟩
  · induction vs generalizing ss with
    | nil => cases ss with | nil => rfl | cons _ _ => exact h.elim
    | cons v vs ih => cases ss with | nil => exact h.elim | cons s ss => simpa using ih h.2
  · induction vs generalizing ss i with
    | nil => cases ss with | nil => exact rfl | cons _ _ => exact h.elim
    | cons v vs ih =>
      cases ss with
      | nil => exact h.elim
      | cons s ss =>
        cases i with
        | zero => exact h.1
        | succ i => exact ih h.2 i
theorem AllB_app {K : PySem.W.Frag} {Z H : Hp} : ∀ {vs ws : List V} {ss ts : List Sl}, AllB K Z H vs ss → AllB K Z H ws ts → AllB K Z H (vs ++ ws) (ss ++ ts)
  | [], _, [], _, _, h => h
  | _ :: _, _, _ :: _, _, h, h' => ⟨h.1, AllB_app h.2 h'⟩
  | [], _, _ :: _, _, h, _ => h.elim
  | _ :: _, _, [], _, h, _ => h.elim
theorem call_read {K : PySem.W.Frag} {F : Fn} {a : SEnv → Option (List Sl)} {E : XK} {dvs : List V} {dss : List Sl} (hd : ∀ Z H, AllB K Z H dvs dss) {σ : L2.St} {H : Hp} {Q : VK} (h : ER K (eCall F (fun ρ => (a ρ).map (· ++ dss))) σ H Q) : tCall (FSp K F) dvs E (AR K a) σ H Q := by
  obtain ⟨B, Z0, Z, ρ, s, x, e, k⟩ := h
  unfold eCall at e
  dsimp only at e
  cases q : a ρ with
  | none => rw [q] at e; cases e
  | some ss =>
    rw [q] at e
    simp only [Option.map] at e
    refine ⟨B, Z0, Z, ρ, ss, x, q, fun vs Z' H' k' r => ?_⟩
    split at e
    · rename_i t qf
      cases e
      refine ⟨H', Z', ss ++ dss, .ret _, Same.refl _, k'.zh, AllB_arg (AllB_app r (hd _ _)), qf, fun v Z2 H2 k2 r2 => k v Z2 H2 (k'.trans k2) ?_⟩
      exact vlR.back (h := r2) k'.bh
    · cases e
theorem map_nil {a : SEnv → Option (List Sl)} : (fun ρ => (a ρ).map (· ++ [])) = a := by
  funext ρ
  cases a ρ <;> simp
theorem pd_call {k : Nat} {f : Addr} {fd : FuncData} {ps : List Str} {x : Str} {p pos : Pos} {e : Expr} {es : List Expr} {F : Fn} {a : SEnv → Option (List Sl)} (G : FnOk X.prog X.w X.K X.mg X.base L2.CX0 k f fd ps (FSp X.K F)) (hr : Room k X.A) (hg : Gl X x) (hm : X.mg x = some (.ref f)) (hk : PySem.W.keepIn X.K (.ref f) = true) (hb : Binds X.K fd ps []) (ha : AD X (e :: es) a)
    (hdb : (x == ("__debug__" : Str)) = false := by decide) (h1 : starEach (e :: es) X.env = (false, eval e X.env) :: starEach es X.env := by rfl) (h2 : ((backTo pos (starEach es X.env)).any fun x => x.fst) = false := by rfl) : PD X (.Call (.Name x p) (e :: es) [] pos) (eCall F a) :=
  PE_imp (pe_call G hr hg hm hk hb .nil (L2.pass0 (X := X)) ha hdb h1 h2) fun σ H Q h => call_read (dvs := []) (dss := []) (fun _ _ => trivial) (by rw [map_nil]; exact h)
end
end DL

set_option Elab.async false
set_option linter.all false
set_option maxRecDepth 100000
set_option maxHeartbeats 1000000
/-! DL7: more built-ins. -/
namespace DL
open PySem PySem.Spec PyProof.Rows L2
section
variable {X : Cx} {E : WX}
/-- isinstance(x, T), T a built-in class -/
def eIsi (T : String) (a : SEnv → Option Sl) : SEnv → Option Sl := fun ρ => match a ρ with
  | some s => (isiS T s).map fun b => .pl (.bool b)
  | none => none
theorem tyX_L {K : PySem.W.Frag} {H : Hp} {p : Addr} {vs : List V} (h : SqL K H p vs) : TyX K H (.ref p) (.type "list") := by
  rcases h with (h | ⟨o, h⟩) | ⟨o, its, n, h, hc, _⟩
  · exact .base (.lst h)
  · exact .base (.frz h)
  · exact .kList h hc
theorem tyX_T {K : PySem.W.Frag} {H : Hp} {p : Addr} {vs : List V} (h : SqT K H p vs) : TyX K H (.ref p) (.type "tuple") := by
  rcases h with (h | ⟨o, h⟩) | ⟨o, its, n, h, hc, _⟩
  · exact .base (.tup h)
  · exact .fTuple h
  · exact .kTuple h hc
theorem tyD_ok {K : PySem.W.Frag} {H0 Z H : Hp} {v : V} {s : Sl} {t : String} (h : vlR K H0 Z H v s) (zh : Same Z H) (e : tyD s = some t) : TyX K H v (.type t) := by
  obtain ⟨fp, h1, h2⟩ := h
  cases s with
  | pl c =>
    obtain ⟨_, x, hx, hd⟩ := h1
    cases hx
    cases hd with
    | non => cases e; exact .base .non
    | bl k => cases e; exact .base (.bl k)
    | int i => cases e; exact .base (.int i)
    | str y => cases e; exact .base (.str y)
    | lst q r => cases e; exact tyX_L (zh.seq q)
    | tup q r => cases e; exact tyX_T (sqT_mono zh q)
  | own ds => cases e; obtain ⟨p, vs, _, hx, hp, hd⟩ := h1; cases hx; exact .base (.lst hp)
  | brw ds => cases e; obtain ⟨_, p, vs, hx, hp, hd⟩ := h1; cases hx; exact .base (.lst hp)
  | _ => cases e
theorem pd_isi {p pos p2 : Pos} {e : Expr} {T : Str} {T' : String} {a : SEnv → Option Sl} (hg : Gl X "isinstance") (hm : X.mg "isinstance" = none) (hg2 : Gl X T) (hm2 : X.mg T = none) (hv : bootBuiltins T = some (.type T')) (he : PD X e a)
    (hn : T ≠ "__name__" := by decide) (hd : (T == ("__debug__" : Str)) = false := by decide) (h1 : starEach [e, .Name T p2] X.env = (false, eval e X.env) :: starEach [.Name T p2] X.env := by rfl) (h3 : starEach [.Name T p2] X.env = (false, eval (.Name T p2) X.env) :: starEach [] X.env := by rfl) : PD X (.Call (.Name "isinstance" p) [e, .Name T p2] [] pos) (eIsi T' a) :=
  PE_imp (pe_callB call_isi hg hm (by decide +kernel) (pa_cons he (pa_cons (pe_bltn (v := .ty T') hg2 hm2 hv rfl hn hd) pa_nil h3) h1) (by decide) (by decide) h1 (by rfl)) fun σ H Q ⟨B, Z0, Z, ρ, s, x, e, k⟩ => by
    unfold eIsi at e
    cases q : a ρ with
    | none => rw [q] at e; cases e
    | some t =>
      rw [q] at e
      cases qt : isiS T' t with
      | none => simp only [qt] at e; cases e
      | some b =>
        simp only [qt] at e
        cases e
        unfold isiS at qt
        cases qy : tyD t with
        | none => rw [qy] at qt; cases qt
        | some ty =>
          rw [qy] at qt
          refine er1 x q fun v Z' H' k' r => ?_
          exact ⟨v, .ty T', .type ty, .type T', b, rfl, .ty _, tyD_ok r k'.zh qy, kit_ty qt, k _ Z' H' k' (vlR.pl (.bl b))⟩
/-- list(range(n)) -/
def eListRg (a : SEnv → Option Sl) : SEnv → Option Sl := fun ρ => match a ρ with
  | some (.pl (.int n)) => if 0 ≤ n ∧ n ≤ 16777216 then some (.own (rgD 0 n.toNat)) else none
  | _ => none
theorem rgV_D {K : PySem.W.Frag} {Z : Hp} (n : Int) : DpAll K Z (rgV 0 n) (rgD 0 n.toNat) := by
  unfold rgV rgD
  rw [show n - 0 = n by omega]
  generalize List.range n.toNat = l
  induction l with
  | nil => exact .nil
  | cons i l ih => exact .cons (.int _) ih
theorem pd_listRg {p pos p2 pos2 : Pos} {e : Expr} {a : SEnv → Option Sl} (hg : Gl X "list") (hm : X.mg "list" = none) (hg2 : Gl X "range") (hm2 : X.mg "range" = none) (he : PD X e a) (hc : X.calm = true := by rfl) (h1 : starEach [e] X.env = (false, eval e X.env) :: starEach [] X.env := by rfl)
    (h2 : starEach [.Call (.Name "range" p2) [e] [] pos2] X.env = (false, eval (.Call (.Name "range" p2) [e] [] pos2) X.env) :: starEach [] X.env := by rfl) : PD X (.Call (.Name "list" p) [.Call (.Name "range" p2) [e] [] pos2] [] pos) (eListRg a) :=
  PE_imp (pe_listRg hc hg hm (prg_1 hg2 hm2 he h1) h2) fun σ H Q ⟨B, Z0, Z, ρ, s, x, e, k⟩ => by
    unfold eListRg at e
    split at e
    · rename_i n q
      by_cases c : 0 ≤ n ∧ n ≤ 16777216
      · rw [if_pos c] at e
        cases e
        refine er1 x q fun v Z' H' k' r => ?_
        have hd := r.data
        cases hd
        refine ⟨n, rfl, RgOk.of_le (by omega) c.2 (by omega) c.1, fun l hl => ?_⟩
        obtain ⟨k2, r2⟩ := vlR.newL k'.zh hl (rgV_D n)
        exact k _ _ _ (k'.trans k2) (r2.back k'.bh)
      · rw [if_neg c] at e; cases e
    · cases e
/-- sum, min, max of a list of ints -/
def intsD : List D → Option (List Int)
  | [] => some []
  | .int i :: r => (intsD r).map (i :: ·)
  | _ => none
theorem ints_ok {K : PySem.W.Frag} {Z : Hp} : ∀ {vs : List V} {ds : List D} {ns : List Int}, DpAll K Z vs ds → intsD ds = some ns → vs = ns.map V.int
  | _, _, _, .nil, e => by cases e; rfl
  | _, _, ns, .cons (d := d) r t, e => by
    cases d <;> first | (cases e; done) | skip
    rename_i ds i
    cases r
    change (intsD ds).map (i :: ·) = some ns at e
    cases q : intsD ds with
    | none => rw [q] at e; cases e
    | some l =>
      rw [q] at e
      cases e
      rw [ints_ok t q]
      rfl
@[simp] theorem intsD_map (ns : List Int) : intsD (ns.map PyData.int) = some ns := by
  induction ns with
  | nil => rfl
  | cons n ns ih => show (intsD (ns.map PyData.int)).map (n :: ·) = _; rw [ih]; rfl
def sumS (s : Sl) : Option Sl := ((litems s).bind intsD).map fun ns => .pl (.int ns.sum)
def sumF : List Sl → Option Sl := fun ss => match ss with | [s] => sumS s | _ => none
theorem ok_sum {K : PySem.W.Frag} : BuiOK K (rSum K) sumF := bui1 (F := sumS) fun Z H v s t Q zh r e k => by
  unfold sumS at e
  cases qi : litems s with
  | none => rw [qi] at e; cases e
  | some ds =>
    rw [qi] at e
    cases qn : intsD ds with
    | none => simp only [Option.bind, qn] at e; cases e
    | some ns =>
      simp only [Option.bind, qn] at e
      cases e
      obtain ⟨p, vs, rfl, hq, hd⟩ := litems_ok r zh qi
      have := ints_ok hd qn
      subst this
      exact ⟨p, ns, rfl, hq, k _ Z H (Step.refl zh) (vlR.pl (.int _))⟩
theorem pd_sum {p pos : Pos} {e : Expr} {a : SEnv → Option Sl} (hg : Gl X "sum") (hm : X.mg "sum" = none) (ha : PD X e a) (hc : X.calm = true := by rfl) (h1 : starEach [e] X.env = (false, eval e X.env) :: starEach [] X.env := by rfl) : PD X (.Call (.Name "sum" p) [e] [] pos) (eBui sumF (aCons a aNil)) :=
  pd_callB (cr_sum hc) ok_sum hg hm (by decide +kernel) (ad_cons ha ad_nil h1) (by decide) (by decide) h1 rfl
def minL : Int → List Int → Int
  | a, [] => a
  | a, b :: l => minL (if b < a then b else a) l
def maxL : Int → List Int → Int
  | a, [] => a
  | a, b :: l => maxL (if a < b then b else a) l
theorem minL_le : ∀ (l : List Int) (a : Int), minL a l ≤ a ∧ ∀ y ∈ l, minL a l ≤ y
  | [], a => ⟨Int.le_refl a, fun _ h => nomatch h⟩
  | b :: l, a => by
    obtain ⟨h1, h2⟩ := minL_le l (if b < a then b else a)
    have h0 : (if b < a then b else a) ≤ a ∧ (if b < a then b else a) ≤ b := by split <;> omega
    refine ⟨Int.le_trans h1 h0.1, fun y hy => ?_⟩
    rcases List.mem_cons.mp hy with e | e
    · rw [e]; exact Int.le_trans h1 h0.2
    · exact h2 y e
theorem minL_mem : ∀ (l : List Int) (a : Int), minL a l = a ∨ minL a l ∈ l
  | [], a => .inl rfl
  | b :: l, a => by
    show minL (if b < a then b else a) l = a ∨ minL (if b < a then b else a) l ∈ b :: l
    rcases minL_mem l (if b < a then b else a) with e | e
    · rw [e]
      split
      · exact .inr (List.mem_cons_self ..)
      · exact .inl rfl
    · exact .inr (List.mem_cons_of_mem _ e)
theorem maxL_ge : ∀ (l : List Int) (a : Int), a ≤ maxL a l ∧ ∀ y ∈ l, y ≤ maxL a l
  | [], a => ⟨Int.le_refl a, fun _ h => nomatch h⟩
  | b :: l, a => by
    obtain ⟨h1, h2⟩ := maxL_ge l (if a < b then b else a)
    have h0 : a ≤ (if a < b then b else a) ∧ b ≤ (if a < b then b else a) := by split <;> omega
    refine ⟨Int.le_trans h0.1 h1, fun y hy => ?_⟩
    rcases List.mem_cons.mp hy with e | e
    · rw [e]; exact Int.le_trans h0.2 h1
    · exact h2 y e
theorem maxL_mem : ∀ (l : List Int) (a : Int), maxL a l = a ∨ maxL a l ∈ l
  | [], a => .inl rfl
  | b :: l, a => by
    show maxL (if a < b then b else a) l = a ∨ maxL (if a < b then b else a) l ∈ b :: l
    rcases maxL_mem l (if a < b then b else a) with e | e
    · rw [e]
      split
      · exact .inr (List.mem_cons_self ..)
      · exact .inl rfl
    · exact .inr (List.mem_cons_of_mem _ e)
def minS (s : Sl) : Option Sl := match (litems s).bind intsD with
  | some (a :: l) => some (.pl (.int (minL a l)))
  | _ => none
def maxS (s : Sl) : Option Sl := match (litems s).bind intsD with
  | some (a :: l) => some (.pl (.int (maxL a l)))
  | _ => none
def minF : List Sl → Option Sl := fun ss => match ss with | [s] => minS s | _ => none
def maxF : List Sl → Option Sl := fun ss => match ss with | [s] => maxS s | _ => none
theorem ok_min {K : PySem.W.Frag} : BuiOK K (rMin K) minF := bui1 (F := minS) fun Z H v s t Q zh r e k => by
  unfold minS at e
  cases qi : litems s with
  | none => rw [qi] at e; cases e
  | some ds =>
    rw [qi] at e
    cases qn : intsD ds with
    | none => simp only [Option.bind, qn] at e; cases e
    | some ns =>
      simp only [Option.bind, qn] at e
      cases ns with
      | nil => cases e
      | cons a l =>
        cases e
        obtain ⟨p, vs, rfl, hq, hd⟩ := litems_ok r zh qi
        have := ints_ok hd qn
        subst this
        refine ⟨p, a :: l, rfl, hq, by simp, fun m hm hle => ?_⟩
        have e2 : m = minL a l := by
          have h1 := minL_le l a
          have h3 : m ≤ minL a l := by
            rcases minL_mem l a with q | q
            · rw [q]; exact hle a (List.mem_cons_self ..)
            · exact hle _ (List.mem_cons_of_mem _ q)
          have h4 : minL a l ≤ m := by
            rcases List.mem_cons.mp hm with q | q
            · rw [q]; exact h1.1
            · exact h1.2 m q
          omega
        subst e2
        exact k _ Z H (Step.refl zh) (vlR.pl (.int _))
theorem ok_max {K : PySem.W.Frag} : BuiOK K (rMax K) maxF := bui1 (F := maxS) fun Z H v s t Q zh r e k => by
  unfold maxS at e
  cases qi : litems s with
  | none => rw [qi] at e; cases e
  | some ds =>
    rw [qi] at e
    cases qn : intsD ds with
    | none => simp only [Option.bind, qn] at e; cases e
    | some ns =>
      simp only [Option.bind, qn] at e
      cases ns with
      | nil => cases e
      | cons a l =>
        cases e
        obtain ⟨p, vs, rfl, hq, hd⟩ := litems_ok r zh qi
        have := ints_ok hd qn
        subst this
        refine ⟨p, a :: l, rfl, hq, by simp, fun m hm hle => ?_⟩
        have e2 : m = maxL a l := by
          have h1 := maxL_ge l a
          have h3 : maxL a l ≤ m := by
            rcases maxL_mem l a with q | q
            · rw [q]; exact hle a (List.mem_cons_self ..)
            · exact hle _ (List.mem_cons_of_mem _ q)
          have h4 : m ≤ maxL a l := by
            rcases List.mem_cons.mp hm with q | q
            · rw [q]; exact h1.1
            · exact h1.2 m q
          omega
        subst e2
        exact k _ Z H (Step.refl zh) (vlR.pl (.int _))
theorem pd_min {p pos : Pos} {e : Expr} {a : SEnv → Option Sl} (hg : Gl X "min") (hm : X.mg "min" = none) (ha : PD X e a) (hc : X.calm = true := by rfl) (h1 : starEach [e] X.env = (false, eval e X.env) :: starEach [] X.env := by rfl) : PD X (.Call (.Name "min" p) [e] [] pos) (eBui minF (aCons a aNil)) :=
  pd_callB (cr_min hc) ok_min hg hm (by decide +kernel) (ad_cons ha ad_nil h1) (by decide) (by decide) h1 rfl
theorem pd_max {p pos : Pos} {e : Expr} {a : SEnv → Option Sl} (hg : Gl X "max") (hm : X.mg "max" = none) (ha : PD X e a) (hc : X.calm = true := by rfl) (h1 : starEach [e] X.env = (false, eval e X.env) :: starEach [] X.env := by rfl) : PD X (.Call (.Name "max" p) [e] [] pos) (eBui maxF (aCons a aNil)) :=
  pd_callB (cr_max hc) ok_max hg hm (by decide +kernel) (ad_cons ha ad_nil h1) (by decide) (by decide) h1 rfl
/-- all(xs), any(xs) of truths -/
def blsD : List D → Option (List Bool)
  | [] => some []
  | .bool i :: r => (blsD r).map (i :: ·)
  | _ => none
@[simp] theorem blsD_map (ns : List Bool) : blsD (ns.map PyData.bool) = some ns := by
  induction ns with
  | nil => rfl
  | cons n ns ih => show (blsD (ns.map PyData.bool)).map (n :: ·) = _; rw [ih]; rfl
theorem bls_ok {K : PySem.W.Frag} {Z : Hp} : ∀ {vs : List V} {ds : List D} {ns : List Bool}, DpAll K Z vs ds → blsD ds = some ns → vs = ns.map V.bl
  | _, _, _, .nil, e => by cases e; rfl
  | _, _, ns, .cons (d := d) r t, e => by
    cases d <;> first | (cases e; done) | skip
    rename_i ds i
    cases r
    change (blsD ds).map (i :: ·) = some ns at e
    cases q : blsD ds with
    | none => rw [q] at e; cases e
    | some l =>
      rw [q] at e
      cases e
      rw [bls_ok t q]
      rfl
def allS (s : Sl) : Option Sl := ((litems s).bind blsD).map fun bs => .pl (.bool (bs.all id))
def allF : List Sl → Option Sl := fun ss => match ss with | [s] => allS s | _ => none
theorem ok_all {K : PySem.W.Frag} : BuiOK K (rAll K) allF := bui1 (F := allS) fun Z H v s t Q zh r e k => by
  unfold allS at e
  cases qi : litems s with
  | none => rw [qi] at e; cases e
  | some ds =>
    rw [qi] at e
    cases qn : blsD ds with
    | none => simp only [Option.bind, qn] at e; cases e
    | some ns =>
      simp only [Option.bind, qn] at e
      cases e
      obtain ⟨p, vs, rfl, hq, hd⟩ := litems_ok r zh qi
      have := bls_ok hd qn
      subst this
      exact ⟨p, ns, rfl, hq, k _ Z H (Step.refl zh) (vlR.pl (.bl _))⟩
theorem pd_all {p pos : Pos} {e : Expr} {a : SEnv → Option Sl} (hg : Gl X "all") (hm : X.mg "all" = none) (ha : PD X e a) (hc : X.calm = true := by rfl) (h1 : starEach [e] X.env = (false, eval e X.env) :: starEach [] X.env := by rfl) : PD X (.Call (.Name "all" p) [e] [] pos) (eBui allF (aCons a aNil)) :=
  pd_callB (cr_all hc) ok_all hg hm (by decide +kernel) (ad_cons ha ad_nil h1) (by decide) (by decide) h1 rfl
/-- max(a, b), min(a, b) -/
def max2F : List Sl → Option Sl
  | [.pl (.int i), .pl (.int j)] => some (.pl (.int (if j > i then j else i)))
  | _ => none
def min2F : List Sl → Option Sl
  | [.pl (.int i), .pl (.int j)] => some (.pl (.int (if j < i then j else i)))
  | _ => none
theorem ok_max2 {K : PySem.W.Frag} : BuiOK K (fun xs H Q => ∃ i j, xs = [.int i, .int j] ∧ Q (.int (if j > i then j else i)) H) max2F := by
  intro Z H vs ss s Q zh ha e k
  unfold max2F at e
  split at e
  · cases e
    have := allB_int2 ha
    subst this
    exact ⟨_, _, rfl, k _ Z H (Step.refl zh) (vlR.pl (.int _))⟩
  · cases e
theorem ok_min2 {K : PySem.W.Frag} : BuiOK K (fun xs H Q => ∃ i j, xs = [.int i, .int j] ∧ Q (.int (if j < i then j else i)) H) min2F := by
  intro Z H vs ss s Q zh ha e k
  unfold min2F at e
  split at e
  · cases e
    have := allB_int2 ha
    subst this
    exact ⟨_, _, rfl, k _ Z H (Step.refl zh) (vlR.pl (.int _))⟩
  · cases e
theorem pd_max2 {p pos : Pos} {e e2 : Expr} {a b : SEnv → Option Sl} (hg : Gl X "max") (hm : X.mg "max" = none) (ha : PD X e a) (hb : PD X e2 b) (hc : X.calm = true := by rfl) (h1 : starEach [e, e2] X.env = (false, eval e X.env) :: starEach [e2] X.env := by rfl) (h2 : starEach [e2] X.env = (false, eval e2 X.env) :: starEach [] X.env := by rfl) (h3 : ((backTo pos (starEach [e2] X.env)).any fun x => x.fst) = false := by rfl) : PD X (.Call (.Name "max" p) [e, e2] [] pos) (eBui max2F (aCons a (aCons b aNil))) :=
  pd_callB (call_max2 hc) ok_max2 hg hm (by decide +kernel) (ad_cons ha (ad_cons hb ad_nil h2) h1) (by decide) (by decide) h1 h3
theorem pd_min2 {p pos : Pos} {e e2 : Expr} {a b : SEnv → Option Sl} (hg : Gl X "min") (hm : X.mg "min" = none) (ha : PD X e a) (hb : PD X e2 b) (hc : X.calm = true := by rfl) (h1 : starEach [e, e2] X.env = (false, eval e X.env) :: starEach [e2] X.env := by rfl) (h2 : starEach [e2] X.env = (false, eval e2 X.env) :: starEach [] X.env := by rfl) (h3 : ((backTo pos (starEach [e2] X.env)).any fun x => x.fst) = false := by rfl) : PD X (.Call (.Name "min" p) [e, e2] [] pos) (eBui min2F (aCons a (aCons b aNil))) :=
  pd_callB (call_min2 hc) ok_min2 hg hm (by decide +kernel) (ad_cons ha (ad_cons hb ad_nil h2) h1) (by decide) (by decide) h1 h3
/-- targets by a tuple: a, b = e -/
def sAsgT (g : GF) (f : SEnv → Option Sl) : SEnv → Option Out := fun ρ => match f ρ with
  | some (.pl d) => (g d ρ).map .nx
  | _ => none
theorem sd_asgT {tg e : Expr} {f : SEnv → Option Sl} {g : GF} {pos : Pos} (he : PD X e f) (hg : GD X tg g) (hs : swapsWithSole [tg] e pos.line X.env = pure false := by rfl) (hw : swappedStores [tg] e X.env = pure none := by rfl) (hq : (assignEach [tg] X.env).map (·.2) = [assign tg X.env] := by rfl) : SD X E (.Assign [tg] e pos) (sAsgT g f) := PS_imp (ps_asg he hg hs hw hq) fun D σ H ⟨B, Z0, Z, ρ, o, x, e, k⟩ => by
  unfold sAsgT at e
  split at e
  · rename_i d q
    cases qg : g d ρ with
    | none => rw [qg] at e; cases e
    | some ρ' =>
      rw [qg] at e
      cases e
      refine er1 x q fun v Z' H' k' r => ?_
      exact ⟨B, Z0, Z', ρ, d, ρ', x.step k', r.data, qg, fun σ' x' => k Z' σ' H' x'⟩
  · cases e
/-- the law's own promise, from its function -/
def spLawD (K : PySem.W.Frag) : Sp := fun vs H Q _ => ∃ (a : Addr) (ns : List Int), vs = [.ref a] ∧ SqL K H a (ns.map V.int) ∧ ns.length ≤ 63 ∧ ∀ H', Q (.bl true) H'
theorem ints_Dp {K : PySem.W.Frag} {Z : Hp} : ∀ ns : List Int, DpAll K Z (ns.map V.int) (ns.map PyData.int)
  | [] => .nil
  | n :: ns => .cons (.int n) (ints_Dp ns)
theorem law_of {K : PySem.W.Frag} {F : Fn} (h : ∀ ns : List Int, ns.length ≤ 63 → F [.pl (.list (ns.map PyData.int))] = some (.ret (.pl (.bool true)))) {vs : List V} {H : Hp} {Q : VK} {E : XK} (q : spLawD K vs H Q E) : FSp K F vs H Q E := by
  obtain ⟨a, ns, rfl, hS, hl, k⟩ := q
  refine ⟨H, H, [.pl (.list (ns.map PyData.int))], _, Same.refl H, Same.refl H, AllB_arg ⟨⟨rfl, _, rfl, .lst hS (ints_Dp ns)⟩, trivial⟩, h ns hl, fun v Z' H' k' r => ?_⟩
  obtain ⟨fp, ⟨_, x, e, hd⟩, _⟩ := r
  cases e
  cases hd
  exact k H'
end
/-- a statement or an expression that no told run comes to: nothing is said of it -/
def sStk : SEnv → Option Out := fun _ => none
def eStk : SEnv → Option Sl := fun _ => none
theorem sd_stuck {X : Cx} {E : WX} {st : Stmt} : SD X E st sStk := ⟨fun _ _ _ _ _ _ h => by obtain ⟨_, _, _, _, _, _, e, _⟩ := h; cases e⟩
theorem pd_stuck {X : Cx} {e : Expr} : PD X e eStk := ⟨fun _ _ _ _ _ _ h => by obtain ⟨_, _, _, _, _, _, e, _⟩ := h; cases e⟩
end DL

set_option Elab.async false
set_option linter.all false
set_option maxRecDepth 100000
set_option maxHeartbeats 1000000
/-! DLP: reckoning with the pure functions. -/
namespace DL
open PySem PySem.Spec PyProof.Rows L2
theorem eBin_def (f : D → D → Option D) (a b : SEnv → Option Sl) (ρ : SEnv) : eBin f a b ρ = sl2 f (a ρ) (b ρ) := rfl
theorem eUn_def (f : D → Option D) (a : SEnv → Option Sl) (ρ : SEnv) : eUn f a ρ = sl1 f (a ρ) := rfl
theorem eVar_def (i : Nat) (ρ : SEnv) : eVar i ρ = borq (get ρ i) := rfl
theorem eC_def (d : D) (ρ : SEnv) : eC d ρ = some (.pl d) := rfl
theorem tCmp2_def (f : D → D → Option Bool) (a b : SEnv → Option Sl) (ρ : SEnv) : tCmp2 f a b ρ = vw2 f (a ρ) (b ρ) := rfl
theorem eB_def (t : SEnv → Option Bool) (ρ : SEnv) : eB t ρ = (t ρ).map fun b => .pl (.bool b) := rfl
theorem sSeq_nx {f g : SEnv → Option Out} {ρ ρ' : SEnv} (h : f ρ = some (.nx ρ')) : sSeq f g ρ = g ρ' := by unfold sSeq; rw [h]
theorem sSeq_rt {f g : SEnv → Option Out} {ρ : SEnv} {s : Sl} (h : f ρ = some (.rt s)) : sSeq f g ρ = some (.rt s) := by unfold sSeq; rw [h]
theorem sAsg_of {i : Nat} {f : SEnv → Option Sl} {ρ : SEnv} {s t : Sl} (h : f ρ = some s) (hs : sto s = some t) : sAsg i f ρ = some (.nx (put ρ i t)) := by unfold sAsg; rw [h]; simp only [hs]; rfl
theorem eAnd_t {a b : SEnv → Option Sl} {ρ : SEnv} (h : a ρ = some (.pl (.bool true))) : eAnd a b ρ = b ρ := by unfold eAnd; rw [h]
theorem forD_nil (g : GF) (b : SEnv → Option Out) (ρ : SEnv) : forD g b [] ρ = some (.nx ρ) := rfl
theorem forD_nx {g : GF} {b : SEnv → Option Out} {d : D} {ds : List D} {ρ ρ1 ρ2 : SEnv} (h1 : g d ρ = some ρ1) (h2 : b ρ1 = some (.nx ρ2)) : forD g b (d :: ds) ρ = forD g b ds ρ2 := by rw [forD, h1]; simp only [h2]
theorem forD_rt {g : GF} {b : SEnv → Option Out} {d : D} {ds : List D} {ρ ρ1 : SEnv} {s : Sl} (h1 : g d ρ = some ρ1) (h2 : b ρ1 = some (.rt s)) : forD g b (d :: ds) ρ = some (.rt s) := by rw [forD, h1]; simp only [h2]
/-- a loop that goes on at each item, by an invariant -/
theorem forD_inv {g : GF} {b : SEnv → Option Out} (P : List D → SEnv → Prop) (h : ∀ d ds ρ, P (d :: ds) ρ → ∃ ρ1 ρ2, g d ρ = some ρ1 ∧ (b ρ1 = some (.nx ρ2) ∨ b ρ1 = some (.ct ρ2)) ∧ P ds ρ2) : ∀ ds ρ, P ds ρ → ∃ ρ', forD g b ds ρ = some (.nx ρ') ∧ P [] ρ'
  | [], ρ, p => ⟨ρ, rfl, p⟩
  | d :: ds, ρ, p => by
    obtain ⟨ρ1, ρ2, h1, h2, h3⟩ := h d ds ρ p
    obtain ⟨ρ', h4, h5⟩ := forD_inv P h ds ρ2 h3
    refine ⟨ρ', ?_, h5⟩
    rw [forD, h1]
    rcases h2 with h2 | h2 <;> simp only [h2] <;> exact h4
/-- a comprehension whose items all come out well -/
theorem lcD_all {g : GF} {t : SEnv → Option Bool} {e : SEnv → Option Sl} {α : Type} (ρ : SEnv) (f : α → D) (enc : α → D) (l : List α) (h : ∀ x ∈ l, ∃ ρ1 s, g (enc x) ρ = some ρ1 ∧ t ρ1 = some true ∧ e ρ1 = some s ∧ toD s = some (f x)) : lcD g t e (l.map enc) ρ = some (l.map f) := by
  induction l with
  | nil => rfl
  | cons x l ih =>
    obtain ⟨ρ1, s, h1, h2, h3, h4⟩ := h x (List.mem_cons_self ..)
    rw [List.map_cons, lcD, h1]
    simp only [h2, h3, Option.bind, h4]
    rw [ih fun y hy => h y (List.mem_cons_of_mem _ hy)]
    rfl
end DL
namespace DL
open PySem PySem.Spec PyProof.Rows L2
theorem sSeq_def (f g : SEnv → Option Out) (ρ : SEnv) : sSeq f g ρ = match f ρ with | some (.nx ρ') => g ρ' | o => o := rfl
theorem sAsg_def (i : Nat) (f : SEnv → Option Sl) (ρ : SEnv) : sAsg i f ρ = match f ρ with | some s => (sto s).map fun t => .nx (put ρ i t) | none => none := rfl
theorem sRet_def (f : SEnv → Option Sl) (ρ : SEnv) : sRet f ρ = (f ρ).map .rt := rfl
theorem sNext_def (ρ : SEnv) : sNext ρ = some (.nx ρ) := rfl
theorem sIf_def (t : SEnv → Option Bool) (f g : SEnv → Option Out) (ρ : SEnv) : sIf t f g ρ = match t ρ with | some true => f ρ | some false => g ρ | none => none := rfl
theorem fnD_def (n m : Nat) (g : SEnv → Option Out) (ss : List Sl) : fnD n m g ss = if ss.length = m then (match g (ss ++ List.replicate (n - ss.length) .un) with
    | some (.rt s) => some (.ret s)
    | some (.nx _) => some (.ret (.pl .none))
    | some (.ex x _) => some (.exn x)
    | _ => none) else none := rfl
theorem eCall_def (F : Fn) (a : SEnv → Option (List Sl)) (ρ : SEnv) : eCall F a ρ = match a ρ with | some ss => (match F ss with | some (.ret s) => some s | _ => none) | none => none := rfl
theorem eBui_def (F : List Sl → Option Sl) (a : SEnv → Option (List Sl)) (ρ : SEnv) : eBui F a ρ = match a ρ with | some ss => F ss | none => none := rfl
theorem aCons_def (a : SEnv → Option Sl) (r : SEnv → Option (List Sl)) (ρ : SEnv) : aCons a r ρ = match a ρ, r ρ with | some s, some ss => some (bor s :: ss) | _, _ => none := rfl
theorem aNil_def (ρ : SEnv) : aNil ρ = some [] := rfl
theorem dCons_def (a : SEnv → Option Sl) (r : SEnv → Option (List D)) (ρ : SEnv) : dCons a r ρ = match a ρ with | some s => (match toD s, r ρ with | some d, some ds => some (d :: ds) | _, _ => none) | none => none := rfl
theorem dNil_def (ρ : SEnv) : dNil ρ = some [] := rfl
theorem eTup_def (f : SEnv → Option (List D)) (ρ : SEnv) : eTup f ρ = match f ρ with | some ds => if ds.length ≤ 1000 then some (.pl (.tuple ds)) else none | none => none := rfl
theorem eLst_def (f : SEnv → Option (List D)) (ρ : SEnv) : eLst f ρ = match f ρ with | some ds => if ds.length ≤ 1000 then some (.own ds) else none | none => none := rfl
theorem eIx_def (a b : SEnv → Option Sl) (ρ : SEnv) : eIx a b ρ = match a ρ, b ρ with | some s, some (.pl i) => (ixD s i).map .pl | _, _ => none := rfl
theorem tAnd2_def (t u : SEnv → Option Bool) (ρ : SEnv) : tAnd2 t u ρ = match t ρ with | some true => u ρ | some false => some false | none => none := rfl
theorem tOr2_def (t u : SEnv → Option Bool) (ρ : SEnv) : tOr2 t u ρ = match t ρ with | some true => some true | some false => u ρ | none => none := rfl
theorem tNot1_def (t : SEnv → Option Bool) (ρ : SEnv) : tNot1 t ρ = (t ρ).map (!·) := rfl
theorem tTru_def (a : SEnv → Option Sl) (ρ : SEnv) : tTru a ρ = match a ρ with | some s => truD s | none => none := rfl
theorem eAnd_def (a b : SEnv → Option Sl) (ρ : SEnv) : eAnd a b ρ = match a ρ with | some (.pl (.bool true)) => b ρ | some (.pl (.bool false)) => some (.pl (.bool false)) | _ => none := rfl
theorem eOr_def (a b : SEnv → Option Sl) (ρ : SEnv) : eOr a b ρ = match a ρ with | some (.pl (.bool true)) => some (.pl (.bool true)) | some (.pl (.bool false)) => b ρ | _ => none := rfl
theorem eIsi_def (T : String) (a : SEnv → Option Sl) (ρ : SEnv) : eIsi T a ρ = match a ρ with | some s => (isiS T s).map fun b => .pl (.bool b) | none => none := rfl
theorem sWipeB_def (is : List Nat) (f : SEnv → Option Out) (ρ : SEnv) : sWipeB is f ρ = (f ρ).map (wipeO is) := rfl
theorem sFor_def (src : SEnv → Option (List D)) (g : GF) (b : SEnv → Option Out) (ρ : SEnv) : sFor src g b ρ = match src ρ with | some ds => forD g b ds ρ | none => none := rfl
theorem eLc_def (src : SEnv → Option (List D)) (is : List Nat) (g : GF) (t : SEnv → Option Bool) (e : SEnv → Option Sl) (ρ : SEnv) : eLc src is g t e ρ = match src ρ with | some ds => if ds.length ≤ 100000 then (lcD g t e ds (wipe1 ρ is)).map .own else none | none => none := rfl
theorem eSl_def (a : SEnv → Option Sl) (l h : SEnv → Option (Option Int)) (ρ : SEnv) : eSl a l h ρ = match a ρ, l ρ, h ρ with | some s, some lo, some hi => slD s lo hi | _, _, _ => none := rfl
theorem oNone_def (ρ : SEnv) : oNone ρ = some none := rfl
theorem oSome_def (f : SEnv → Option Sl) (ρ : SEnv) : oSome f ρ = match f ρ with | some (.pl (.int i)) => some (some i) | _ => none := rfl
theorem wipeO_nx (is : List Nat) (ρ : SEnv) : wipeO is (.nx ρ) = .nx (wipe1 ρ is) := rfl
theorem wipeO_rt (is : List Nat) (s : Sl) : wipeO is (.rt s) = .rt s := rfl
theorem wipeO_bk (is : List Nat) (ρ : SEnv) : wipeO is (.bk ρ) = .bk (wipe1 ρ is) := rfl
theorem wipeO_ct (is : List Nat) (ρ : SEnv) : wipeO is (.ct ρ) = .ct (wipe1 ρ is) := rfl
theorem gPut_def (i : Nat) (d : D) (ρ : SEnv) : gPut i d ρ = some (put ρ i (.pl d)) := rfl
theorem gTupF_tup (n : Nat) (g : GsF) (ds : List D) (ρ : SEnv) : gTupF n g (.tuple ds) ρ = if ds.length = n then g ds ρ else none := rfl
theorem gsCons_cons (i : Nat) (g : GsF) (d : D) (ds : List D) (ρ : SEnv) : gsCons i g (d :: ds) ρ = g ds (put ρ i (.pl d)) := rfl
theorem gsNil_nil (ρ : SEnv) : gsNil [] ρ = some ρ := rfl
@[simp] theorem opt_map_some {α β : Type} (f : α → β) (a : α) : Option.map f (some a) = some (f a) := rfl
theorem opt_bind_some {α β : Type} (f : α → Option β) (a : α) : (some a).bind f = f a := rfl
theorem toD_pl (d : D) : toD (.pl d) = some d := rfl
theorem toD_own (ds : List D) : toD (.own ds) = some (.list ds) := rfl
theorem isi_int_int (i : Int) : isiS "int" (.pl (.int i)) = some true := show kitB "int" "int" = some true by decide +kernel
theorem isi_int_bool (i : Int) : isiS "bool" (.pl (.int i)) = some false := show kitB "int" "bool" = some false by decide +kernel
theorem csrc_def (f : SEnv → Option Sl) (ρ : SEnv) : csrc f ρ = (f ρ).bind litems := rfl
theorem vsrc_def (i : Nat) (ρ : SEnv) : vsrc i ρ = match get ρ i with | .pl (.list ds) => some ds | .brw ds => some ds | _ => none := rfl
theorem rg1_def (a : SEnv → Option (List Sl)) (ρ : SEnv) : rg1 a ρ = match a ρ with | some [.pl (.int j)] => if -(2 ^ 62) ≤ j ∧ j < 2 ^ 62 then some (rgD 0 j.toNat) else none | _ => none := rfl
theorem rg2_def (a : SEnv → Option (List Sl)) (ρ : SEnv) : rg2 a ρ = match a ρ with | some [.pl (.int i), .pl (.int j)] => if (-(2 ^ 62) ≤ i ∧ i < 2 ^ 62) ∧ -(2 ^ 62) ≤ j ∧ j < 2 ^ 62 then some (rgD i (j - i).toNat) else none | _ => none := rfl
theorem eSrc_def (g : Sl → Option (List D)) (f : SEnv → Option Sl) (ρ : SEnv) : eSrc g f ρ = (f ρ).bind g := rfl
theorem enT_def (f : SEnv → Option Sl) (ρ : SEnv) : enT f ρ = match f ρ with | some (.pl (.tuple ds)) => some (enumD ds) | _ => none := rfl
theorem enL_def (f : SEnv → Option Sl) (ρ : SEnv) : enL f ρ = match f ρ with | some (.pl (.list ds)) => some (enumD ds) | _ => none := rfl
theorem sFrz_def (i : Nat) (f : SEnv → Option Out) (ρ : SEnv) : sFrz i f ρ = f (frz ρ i) := rfl
theorem sRetVar_def (i : Nat) (ρ : SEnv) : sRetVar i ρ = (sto (get ρ i)).map .rt := rfl
theorem sMov_def (i j : Nat) (ρ : SEnv) : sMov i j ρ = if i = j then none else match get ρ j with | .un => none | s => some (.nx (put (put ρ j .un) i s)) := rfl
theorem lenF_brw (ds : List D) : lenF [.brw ds] = some (.pl (.int (ds.length : Int))) := rfl
theorem lenF_tuple (ds : List D) : lenF [.pl (.tuple ds)] = some (.pl (.int (ds.length : Int))) := rfl
theorem lenF_list (ds : List D) : lenF [.pl (.list ds)] = some (.pl (.int (ds.length : Int))) := rfl
theorem ixD_tuple (ds : List D) (i : Int) : ixD (.pl (.tuple ds)) (.int i) = atI ds i := rfl
theorem ixD_list (ds : List D) (i : Int) : ixD (.pl (.list ds)) (.int i) = atI ds i := rfl
theorem ixD_brw (ds : List D) (i : Int) : ixD (.brw ds) (.int i) = atI ds i := rfl
theorem ixD_own (ds : List D) (i : Int) : ixD (.own ds) (.int i) = atI ds i := rfl
theorem atI_map {α β : Type} (f : α → β) (xs : List α) (i : Int) : atI (xs.map f) i = (atI xs i).map f := by
  unfold atI
  rw [List.length_map]
  cases ixN xs.length i with
  | none => rfl
  | some j => simp only [Option.bind, List.getElem?_map]
theorem atI_lt {α : Type} {xs : List α} {i : Int} (h0 : 0 ≤ i) (h : i < xs.length) : atI xs i = xs[i.toNat]? := by
  unfold atI ixN
  rw [if_pos h0, if_pos h]
  rfl
theorem rgD_succ (lo : Int) (n : Nat) : rgD lo (n + 1) = .int lo :: rgD (lo + 1) n := by
  unfold rgD
  rw [List.range_succ_eq_map, List.map_cons, List.map_map]
  congr 1
  · simp
  · apply List.map_congr_left
    intro i _
    show PyData.int (lo + ((i + 1 : Nat) : Int)) = PyData.int (lo + 1 + (i : Int))
    congr 1
    omega
theorem rgD_zero (lo : Int) : rgD lo 0 = [] := rfl
/-- enumerate from a number on -/
def enumFrom (i : Nat) (ds : List D) : List D := (ds.zipIdx i).map fun p => .tuple [.int (p.2 : Nat), p.1]
theorem enumD_eq (ds : List D) : enumD ds = enumFrom 0 ds := rfl
theorem enumFrom_nil (i : Nat) : enumFrom i [] = [] := rfl
theorem enumFrom_cons (i : Nat) (d : D) (ds : List D) : enumFrom i (d :: ds) = .tuple [.int (i : Nat), d] :: enumFrom (i + 1) ds := rfl
/-- None or a whole number -/
def oD : Option Int → D
  | none => .none
  | some i => .int i
theorem oD_none : oD none = .none := rfl
theorem oD_some (i : Int) : oD (some i) = .int i := rfl
theorem fn_if {P : Prop} [Decidable P] {α : Type} {a b : α} (h : P) : (if P then a else b) = a := if_pos h
/-! ### items by their places -/
def mapI {α β : Type} (f : Nat → α → β) : Nat → List α → List β
  | _, [] => []
  | i, x :: xs => f i x :: mapI f (i + 1) xs
def anyI {α : Type} (p : Nat → α → Bool) : Nat → List α → Bool
  | _, [] => false
  | i, x :: xs => p i x || anyI p (i + 1) xs
def foldI {α β : Type} (f : Nat → α → β → β) : Nat → List α → β → β
  | _, [], b => b
  | i, x :: xs, b => foldI f (i + 1) xs (f i x b)
/-- those that pass -/
def collI {α β : Type} (p : Nat → α → Bool) (v : Nat → α → β) : Nat → List α → List β
  | _, [] => []
  | i, x :: xs => if p i x then v i x :: collI p v (i + 1) xs else collI p v (i + 1) xs
theorem mapI_length {α β : Type} (f : Nat → α → β) : ∀ (i : Nat) (xs : List α), (mapI f i xs).length = xs.length
  | _, [] => rfl
  | i, x :: xs => by rw [mapI, List.length_cons, mapI_length f (i + 1) xs, List.length_cons]
theorem enumFrom_mapI {α : Type} (e : α → D) : ∀ (i : Nat) (xs : List α), enumFrom i (xs.map e) = mapI (fun k x => .tuple [.int (k : Nat), e x]) i xs
  | _, [] => rfl
  | i, x :: xs => by rw [List.map_cons, enumFrom_cons, mapI, enumFrom_mapI e (i + 1) xs]
theorem rgD_mapI {α : Type} : ∀ (i : Nat) (xs : List α), rgD (i : Int) xs.length = mapI (fun k _ => .int (k : Nat)) i xs
  | _, [] => rfl
  | i, x :: xs => by
    rw [List.length_cons, rgD_succ, mapI, ← rgD_mapI (i + 1) xs]
    rfl
theorem rgD0_mapI {α : Type} (xs : List α) : rgD 0 xs.length = mapI (fun k _ => .int (k : Nat)) 0 xs := rgD_mapI 0 xs
theorem rgD0_range (n : Nat) : rgD 0 n = mapI (fun k _ => .int (k : Nat)) 0 (List.replicate n ()) := by
  have := rgD0_mapI (List.replicate n ())
  rw [List.length_replicate] at this
  exact this
theorem anyI_iff {α : Type} {p : Nat → α → Bool} : ∀ {i : Nat} {xs : List α}, anyI p i xs = true ↔ ∃ k x, xs[k]? = some x ∧ p (i + k) x = true
  | i, [] => by simp [anyI]
  | i, x :: xs => by
    rw [anyI, Bool.or_eq_true, anyI_iff]
    constructor
    · rintro (h | ⟨k, y, h1, h2⟩)
      · exact ⟨0, x, rfl, h⟩
      · exact ⟨k + 1, y, by simpa using h1, by rw [show i + (k + 1) = i + 1 + k by omega]; exact h2⟩
    · rintro ⟨k, y, h1, h2⟩
      cases k with
      | zero => simp at h1; subst h1; exact .inl h2
      | succ k => exact .inr ⟨k, y, by simpa using h1, by rw [show i + 1 + k = i + (k + 1) by omega]; exact h2⟩
theorem collI_mem {α β : Type} {p : Nat → α → Bool} {v : Nat → α → β} {b : β} : ∀ {i : Nat} {xs : List α}, b ∈ collI p v i xs ↔ ∃ k x, xs[k]? = some x ∧ p (i + k) x = true ∧ b = v (i + k) x
  | i, [] => by simp [collI]
  | i, x :: xs => by
    have ih := collI_mem (p := p) (v := v) (b := b) (i := i + 1) (xs := xs)
    rw [collI]
    constructor
    · intro h
      by_cases c : p i x = true
      · rw [if_pos c] at h
        rcases List.mem_cons.mp h with e | h
        · exact ⟨0, x, rfl, c, e⟩
        · obtain ⟨k, y, h1, h2, h3⟩ := ih.mp h
          exact ⟨k + 1, y, by simpa using h1, by rw [show i + (k + 1) = i + 1 + k by omega]; exact h2, by rw [show i + (k + 1) = i + 1 + k by omega]; exact h3⟩
      · rw [if_neg c] at h
        obtain ⟨k, y, h1, h2, h3⟩ := ih.mp h
        exact ⟨k + 1, y, by simpa using h1, by rw [show i + (k + 1) = i + 1 + k by omega]; exact h2, by rw [show i + (k + 1) = i + 1 + k by omega]; exact h3⟩
    · rintro ⟨k, y, h1, h2, h3⟩
      cases k with
      | zero =>
        simp at h1
        subst h1
        rw [if_pos (by simpa using h2)]
        exact List.mem_cons.mpr (.inl (by simpa using h3))
      | succ k =>
        have : b ∈ collI p v (i + 1) xs := ih.mpr ⟨k, y, by simpa using h1, by rw [show i + 1 + k = i + (k + 1) by omega]; exact h2, by rw [show i + 1 + k = i + (k + 1) by omega]; exact h3⟩
        split
        · exact List.mem_cons_of_mem _ this
        · exact this
theorem collI_map {α β γ : Type} (p : Nat → α → Bool) (v : Nat → α → β) (f : β → γ) : ∀ (i : Nat) (xs : List α), collI p (fun k x => f (v k x)) i xs = (collI p v i xs).map f
  | _, [] => rfl
  | i, x :: xs => by
    rw [collI, collI, collI_map p v f (i + 1) xs]
    split <;> rfl
/-- a loop that leaves with s at the first item that p tells -/
theorem forD_find {α : Type} {g : GF} {b : SEnv → Option Out} (f : Nat → α → D) (p : Nat → α → Bool) (o : Out) (ho : ∀ ρ', o ≠ .nx ρ' ∧ o ≠ .ct ρ' ∧ o ≠ .bk ρ') (ρ : SEnv) : ∀ (xs : List α) (i : Nat), (∀ k x, xs[k]? = some x → ∃ ρ1, g (f (i + k) x) ρ = some ρ1 ∧ b ρ1 = if p (i + k) x then some o else some (.nx ρ)) →
    forD g b (mapI f i xs) ρ = if anyI p i xs then some o else some (.nx ρ)
  | [], i, _ => rfl
  | x :: xs, i, h => by
    obtain ⟨ρ1, h1, h2⟩ := h 0 x rfl
    rw [Nat.add_zero] at h1 h2
    rw [mapI, anyI, forD, h1]
    have ih := forD_find f p o ho ρ xs (i + 1) fun k y e => by
      have := h (k + 1) y (by simpa using e)
      rw [show i + (k + 1) = i + 1 + k by omega] at this
      exact this
    cases c : p i x with
    | true =>
      rw [c] at h2
      simp only [h2, if_true, Bool.true_or]
      cases o with
      | nx ρ' => exact absurd rfl (ho ρ').1
      | ct ρ' => exact absurd rfl (ho ρ').2.1
      | bk ρ' => exact absurd rfl (ho ρ').2.2
      | rt s => rfl
      | ex x ρ => rfl
      | rm s ρ => rfl
    | false =>
      rw [c] at h2
      simp only [h2, Bool.false_eq_true, if_false, Bool.false_or]
      exact ih
theorem rt_ok (s : Sl) (ρ' : SEnv) : (Out.rt s) ≠ .nx ρ' ∧ (Out.rt s) ≠ .ct ρ' ∧ (Out.rt s) ≠ .bk ρ' := ⟨fun h => (nomatch h), fun h => (nomatch h), fun h => (nomatch h)⟩
/-- a loop that goes on, its state told by st -/
theorem forD_fold {α β : Type} {g : GF} {b : SEnv → Option Out} (f : Nat → α → D) (E : β → SEnv) (step : Nat → α → β → β) (I : Nat → β → Prop) : ∀ (xs : List α) (i : Nat) (st : β), I i st →
    (∀ k x st, xs[k]? = some x → I (i + k) st → (∃ ρ1, g (f (i + k) x) (E st) = some ρ1 ∧ b ρ1 = some (.nx (E (step (i + k) x st)))) ∧ I (i + k + 1) (step (i + k) x st)) →
    forD g b (mapI f i xs) (E st) = some (.nx (E (foldI step i xs st))) ∧ I (i + xs.length) (foldI step i xs st)
  | [], i, st, hI, _ => ⟨rfl, hI⟩
  | x :: xs, i, st, hI, h => by
    obtain ⟨⟨ρ1, h1, h2⟩, h3⟩ := h 0 x st rfl hI
    rw [Nat.add_zero] at h1 h2 h3
    have ih := forD_fold (g := g) (b := b) f E step I xs (i + 1) (step i x st) h3 fun k y st e hI => by
      have := h (k + 1) y st (by simpa using e)
      rw [show i + (k + 1) = i + 1 + k by omega] at this
      exact this hI
    rw [mapI, forD_nx h1 h2, foldI, List.length_cons, show i + (xs.length + 1) = i + 1 + xs.length by omega]
    exact ih
/-- a comprehension with a test -/
theorem lcD_coll {α : Type} {g : GF} {t : SEnv → Option Bool} {e : SEnv → Option Sl} (f : Nat → α → D) (p : Nat → α → Bool) (v : Nat → α → D) (ρ : SEnv) : ∀ (xs : List α) (i : Nat), (∀ k x, xs[k]? = some x → ∃ ρ1, g (f (i + k) x) ρ = some ρ1 ∧ t ρ1 = some (p (i + k) x) ∧ (p (i + k) x = true → ∃ s, e ρ1 = some s ∧ toD s = some (v (i + k) x))) →
    lcD g t e (mapI f i xs) ρ = some (collI p v i xs)
  | [], i, _ => rfl
  | x :: xs, i, h => by
    obtain ⟨ρ1, h1, h2, h3⟩ := h 0 x rfl
    rw [Nat.add_zero] at h1 h2 h3
    have ih := lcD_coll (g := g) (t := t) (e := e) f p v ρ xs (i + 1) fun k y q => by
      have := h (k + 1) y (by simpa using q)
      rw [show i + (k + 1) = i + 1 + k by omega] at this
      exact this
    rw [mapI, lcD, h1, collI]
    cases c : p i x with
    | true =>
      rw [c] at h2
      obtain ⟨s, h4, h5⟩ := h3 c
      simp only [h2, h4, Option.bind, h5, ih, if_true]
    | false =>
      rw [c] at h2
      simp only [h2, ih, Bool.false_eq_true, if_false]
/-- the least of the numbers that P tells -/
def IsLeast (P : Int → Prop) : Option Int → Prop
  | none => ∀ x, ¬ P x
  | some v => P v ∧ ∀ x, P x → v ≤ x
theorem IsLeast.uniq {P : Int → Prop} : ∀ {o o' : Option Int}, IsLeast P o → IsLeast P o' → o = o'
  | none, none, _, _ => rfl
  | none, some v, h, h' => absurd h'.1 (h v)
  | some v, none, h, h' => absurd h.1 (h' v)
  | some v, some w, h, h' => by
    have h1 := h.2 w h'.1
    have h2 := h'.2 v h.1
    rw [show v = w by omega]
theorem IsLeast.imp {P P' : Int → Prop} (e : ∀ x, P x ↔ P' x) : ∀ {o : Option Int}, IsLeast P o → IsLeast P' o
  | none, h => fun x q => h x ((e x).mpr q)
  | some v, h => ⟨(e v).mp h.1, fun x q => h.2 x ((e x).mpr q)⟩
def minO : List Int → Option Int
  | [] => none
  | a :: l => some (minL a l)
theorem minO_least (l : List Int) : IsLeast (· ∈ l) (minO l) := by
  cases l with
  | nil => exact fun x h => nomatch h
  | cons a l =>
    refine ⟨?_, fun x hx => ?_⟩
    · rcases minL_mem l a with e | e
      · rw [e]; exact List.mem_cons_self ..
      · exact List.mem_cons_of_mem _ e
    · rcases List.mem_cons.mp hx with e | e
      · rw [e]; exact (minL_le l a).1
      · exact (minL_le l a).2 x e
theorem minF_ints {s : Sl} {a : Int} {l : List Int} (h : litems s = some ((a :: l).map PyData.int)) : minF [s] = some (.pl (.int (minL a l))) := by
  show minS s = _
  unfold minS
  rw [h, opt_bind_some, intsD_map]
/-- a loop that goes on, some state behind each turn -/
theorem forD_ex {α β : Type} {g : GF} {b : SEnv → Option Out} (f : Nat → α → D) (E : β → SEnv) (I : Nat → β → Prop) : ∀ (xs : List α) (i : Nat) (st : β), I i st →
    (∀ k x st, xs[k]? = some x → I (i + k) st → ∃ st', (∃ ρ1, g (f (i + k) x) (E st) = some ρ1 ∧ (b ρ1 = some (.nx (E st')) ∨ b ρ1 = some (.ct (E st')))) ∧ I (i + k + 1) st') →
    ∃ st', forD g b (mapI f i xs) (E st) = some (.nx (E st')) ∧ I (i + xs.length) st'
  | [], i, st, hI, _ => ⟨st, rfl, hI⟩
  | x :: xs, i, st, hI, h => by
    obtain ⟨st', ⟨ρ1, h1, h2⟩, h3⟩ := h 0 x st rfl hI
    rw [Nat.add_zero] at h1 h3
    obtain ⟨st2, h4, h5⟩ := forD_ex (g := g) (b := b) f E I xs (i + 1) st' h3 fun k y st e hI => by
      have := h (k + 1) y st (by simpa using e)
      rw [show i + (k + 1) = i + 1 + k by omega] at this
      exact this hI
    refine ⟨st2, ?_, by rw [List.length_cons, show i + (xs.length + 1) = i + 1 + xs.length by omega]; exact h5⟩
    rw [mapI, forD, h1]
    rcases h2 with h2 | h2 <;> simp only [h2] <;> exact h4
theorem map_mapI {α : Type} (f : α → D) (xs : List α) : ∀ i : Nat, xs.map f = mapI (fun _ x => f x) i xs := by
  induction xs with
  | nil => exact fun _ => rfl
  | cons x xs ih => exact fun i => by rw [List.map_cons, mapI, ← ih (i + 1)]
end DL
namespace DL
theorem fnD_rt {n m : Nat} {g : SEnv → Option Out} {ss : List Sl} {s : Sl} (hl : ss.length = m) (h : g (ss ++ List.replicate (n - ss.length) .un) = some (.rt s)) : fnD n m g ss = some (.ret s) := by
  rw [fnD_def, if_pos hl, h]
theorem fnD_nx {n m : Nat} {g : SEnv → Option Out} {ss : List Sl} {ρ : SEnv} (hl : ss.length = m) (h : g (ss ++ List.replicate (n - ss.length) .un) = some (.nx ρ)) : fnD n m g ss = some (.ret (.pl .none)) := by
  rw [fnD_def, if_pos hl, h]
end DL

set_option Elab.async false
set_option linter.all false
set_option maxRecDepth 100000
set_option maxHeartbeats 1000000
/-! DLB: sets of worlds as ints, bit by bit. -/
namespace DL
open PySem PySem.Spec PyProof.Rows L2
/-- the k-th bit -/
def bt (x : Int) (k : Nat) : Bool := x / 2 ^ k % 2 == 1
theorem pow_pos2 (k : Nat) : (0 : Int) < 2 ^ k := Int.pow_pos (by decide)
theorem bt_nat (n k : Nat) : bt (n : Int) k = n.testBit k := by
  unfold bt
  rw [Nat.testBit_eq_decide_div_mod_eq]
  have e : ((n : Int) / 2 ^ k % 2) = ((n / 2 ^ k % 2 : Nat) : Int) := by
    rw [Int.natCast_emod, Int.natCast_ediv, Int.natCast_pow]
    rfl
  rw [e]
  by_cases c : n / 2 ^ k % 2 = 1
  · rw [c]; rfl
  · rw [decide_eq_false c, beq_eq_false_iff_ne]
    omega
theorem bitNot_eq (x : Int) : Builtin.bitNot x = -x - 1 := by unfold Builtin.bitNot; omega
theorem neg_div (x d : Int) (hd : 0 < d) : (-x - 1) / d = -(x / d) - 1 := by
  have h1 := Int.emod_add_mul_ediv x d
  have h2 := Int.emod_nonneg x (show d ≠ 0 by omega)
  have h3 := Int.emod_lt_of_pos x hd
  have e : -x - 1 = (d - 1 - x % d) + d * (-(x / d) - 1) := by
    rw [Int.mul_sub, Int.mul_neg]
    omega
  rw [e, Int.add_mul_ediv_left _ _ (show d ≠ 0 by omega), Int.ediv_eq_zero_of_lt (by omega) (by omega)]
  omega
theorem bt_not (x : Int) (k : Nat) : bt (Builtin.bitNot x) k = !bt x k := by
  unfold bt
  rw [bitNot_eq, neg_div x _ (pow_pos2 k)]
  generalize x / 2 ^ k = y
  by_cases c : y % 2 = 1
  · rw [c]
    have : (-y - 1) % 2 = 0 := by omega
    rw [this]
    rfl
  · have c0 : y % 2 = 0 := by omega
    have : (-y - 1) % 2 = 1 := by omega
    rw [this, c0]
    rfl
theorem sub_and_xor (a b : Nat) : a - (a &&& b) = a ^^^ (a &&& b) := by
  have h1 := Bits.nat_xor_add_and a (a &&& b)
  have h2 : a &&& (a &&& b) = a &&& b := by
    apply Nat.eq_of_testBit_eq
    intro i
    rw [Nat.testBit_and, Nat.testBit_and]
    cases a.testBit i <;> cases b.testBit i <;> rfl
  rw [h2] at h1
  omega
theorem sub_and_test (a b k : Nat) : (a - (a &&& b)).testBit k = (a.testBit k && !b.testBit k) := by
  rw [sub_and_xor, Nat.testBit_xor, Nat.testBit_and]
  cases a.testBit k <;> cases b.testBit k <;> rfl
theorem bt_cast {x : Int} (h : 0 ≤ x) (k : Nat) : bt x k = x.toNat.testBit k := by
  rw [← bt_nat, Int.toNat_of_nonneg h]
theorem bt_neg {x : Int} (h : ¬ 0 ≤ x) (k : Nat) : bt x k = !(Builtin.bitNot x).toNat.testBit k := by
  have := bt_not x k
  rw [bt_cast (by rw [bitNot_eq]; omega)] at this
  rw [this]
  cases bt x k <;> rfl
theorem bt_and (x y : Int) (k : Nat) : bt (Builtin.bitAnd x y) k = (bt x k && bt y k) := by
  unfold Builtin.bitAnd
  by_cases hx : 0 ≤ x
  · by_cases hy : 0 ≤ y
    · rw [decide_eq_true hx, decide_eq_true hy]
      show bt ((x.toNat &&& y.toNat : Nat) : Int) k = _
      rw [bt_nat, Nat.testBit_and, bt_cast hx, bt_cast hy]
    · rw [decide_eq_true hx, decide_eq_false hy]
      show bt (x - ((x.toNat &&& (Builtin.bitNot y).toNat : Nat) : Int)) k = _
      have hle := @Nat.and_le_left x.toNat (Builtin.bitNot y).toNat
      have e : x - ((x.toNat &&& (Builtin.bitNot y).toNat : Nat) : Int) = ((x.toNat - (x.toNat &&& (Builtin.bitNot y).toNat) : Nat) : Int) := by omega
      rw [e, bt_nat, sub_and_test, bt_cast hx, bt_neg hy]
  · by_cases hy : 0 ≤ y
    · rw [decide_eq_false hx, decide_eq_true hy]
      show bt (y - ((y.toNat &&& (Builtin.bitNot x).toNat : Nat) : Int)) k = _
      have hle := @Nat.and_le_left y.toNat (Builtin.bitNot x).toNat
      have e : y - ((y.toNat &&& (Builtin.bitNot x).toNat : Nat) : Int) = ((y.toNat - (y.toNat &&& (Builtin.bitNot x).toNat) : Nat) : Int) := by omega
      rw [e, bt_nat, sub_and_test, bt_cast hy, bt_neg hx, Bool.and_comm]
    · rw [decide_eq_false hx, decide_eq_false hy]
      show bt (Builtin.bitNot (((Builtin.bitNot x).toNat ||| (Builtin.bitNot y).toNat : Nat) : Int)) k = _
      rw [bt_not, bt_nat, Nat.testBit_or, bt_neg hx, bt_neg hy, Bool.not_or]
theorem bt_or (x y : Int) (k : Nat) : bt (Builtin.bitOr x y) k = (bt x k || bt y k) := by
  unfold Builtin.bitOr
  rw [bt_not, bt_and, bt_not, bt_not]
  cases bt x k <;> cases bt y k <;> rfl
theorem bt_mask (n k : Nat) : bt (2 ^ n - 1) k = decide (k < n) := by
  have e : (2 : Int) ^ n - 1 = ((2 ^ n - 1 : Nat) : Int) := by
    have := Nat.two_pow_pos n
    rw [Int.natCast_sub (by omega), Int.natCast_pow]
    rfl
  rw [e, bt_nat, Nat.testBit_two_pow_sub_one]
theorem bt_pow (n k : Nat) : bt (2 ^ n) k = decide (n = k) := by
  have e : (2 : Int) ^ n = ((2 ^ n : Nat) : Int) := by rw [Int.natCast_pow]; rfl
  rw [e, bt_nat, Nat.testBit_two_pow]
theorem bt_zero (k : Nat) : bt 0 k = false := by
  have := bt_nat 0 k
  rw [Nat.zero_testBit] at this
  exact this
theorem bt_ext {x y : Int} (hx : 0 ≤ x) (hy : 0 ≤ y) (h : ∀ k, bt x k = bt y k) : x = y := by
  have : x.toNat = y.toNat := Nat.eq_of_testBit_eq fun i => by rw [← bt_cast hx, ← bt_cast hy, h]
  omega
theorem bt_lt {x : Int} {n : Nat} (h0 : 0 ≤ x) (h : ∀ k, n ≤ k → bt x k = false) : x < 2 ^ n := by
  have := Nat.lt_pow_two_of_testBit x.toNat (n := n) fun i hi => by rw [← bt_cast h0]; exact h i hi
  have e : (2 : Int) ^ n = ((2 ^ n : Nat) : Int) := by rw [Int.natCast_pow]; rfl
  rw [e]
  omega
theorem bt_of_lt {x : Int} {n k : Nat} (h0 : 0 ≤ x) (h : x < 2 ^ n) (hk : n ≤ k) : bt x k = false := by
  rw [bt_cast h0]
  have e : (2 : Int) ^ n = ((2 ^ n : Nat) : Int) := by rw [Int.natCast_pow]; rfl
  rw [e] at h
  exact Nat.testBit_lt_two_pow (Nat.lt_of_lt_of_le (show x.toNat < 2 ^ n by omega) (Nat.pow_le_pow_right (by decide) hk))
theorem and_nonneg {x y : Int} (h : 0 ≤ x ∨ 0 ≤ y) : 0 ≤ Builtin.bitAnd x y := by
  rcases h with h | h
  · rw [bitAnd_comm]; exact (bitAnd_range y h).1
  · exact (bitAnd_range x h).1
theorem or_nonneg {x y : Int} (hx : 0 ≤ x) (hy : 0 ≤ y) : 0 ≤ Builtin.bitOr x y := Bits.bitOr_nonneg hx hy
/-- the test that the program writes: x >> k & 1 -/
theorem bit_test (x : Int) (k : Nat) : Builtin.bitAnd (x / 2 ^ k) 1 = if bt x k then 1 else 0 := by
  rw [bitAnd_m1]
  unfold bt
  by_cases c : x / 2 ^ k % 2 = 1
  · rw [c]; rfl
  · have : x / 2 ^ k % 2 = 0 := by omega
    rw [this]; rfl
theorem bit_test1 (x : Int) (k : Nat) : (Builtin.bitAnd (x / 2 ^ k) 1 == 1) = bt x k := by
  rw [bit_test]
  cases bt x k <;> rfl
theorem bit_test0 (x : Int) (k : Nat) : (Builtin.bitAnd (x / 2 ^ k) 1 == 0) = !bt x k := by
  rw [bit_test]
  cases bt x k <;> rfl
theorem bt_succ (x : Int) (k : Nat) : bt x (k + 1) = bt (x / 2) k := by
  unfold bt
  rw [Int.pow_succ, Int.mul_comm, ← Int.ediv_ediv_of_nonneg (by decide : (0 : Int) ≤ 2)]
theorem bt_0 (x : Int) : bt x 0 = (x % 2 == 1) := by
  unfold bt
  rw [Int.pow_zero, Int.ediv_one]
/-- the set of some worlds, by its sum -/
theorem bt_add_pow {x : Int} {n : Nat} (h0 : 0 ≤ x) (h : x < 2 ^ n) (k : Nat) : bt (x + 2 ^ n) k = (bt x k || decide (n = k)) := by
  have e : (2 : Int) ^ n = ((2 ^ n : Nat) : Int) := by rw [Int.natCast_pow]; rfl
  have hx : x.toNat < 2 ^ n := by rw [e] at h; omega
  have e2 : x + 2 ^ n = ((2 ^ n * 1 + x.toNat : Nat) : Int) := by rw [e]; omega
  rw [e2, bt_nat, Nat.two_pow_add_eq_or_of_lt hx, Nat.testBit_or, Nat.mul_one, Nat.testBit_two_pow, bt_cast h0, Bool.or_comm]
def setOf (l : List Nat) : Int := (l.map fun w => (2 : Int) ^ w).sum
theorem setOf_append (l m : List Nat) : setOf (l ++ m) = setOf l + setOf m := by unfold setOf; rw [List.map_append, List.sum_append]
theorem setOf_one (w : Nat) : setOf [w] = 2 ^ w := by simp [setOf]
theorem setOf_filter_range (p : Nat → Bool) : ∀ n : Nat, 0 ≤ setOf ((List.range n).filter p) ∧ setOf ((List.range n).filter p) < 2 ^ n ∧ ∀ k, bt (setOf ((List.range n).filter p)) k = (decide (k < n) && p k)
  | 0 => ⟨Int.le_refl 0, show (0 : Int) < 1 by decide, fun k => by show bt 0 k = _; rw [bt_zero]; simp⟩
  | n + 1 => by
    obtain ⟨h1, h2, h3⟩ := setOf_filter_range p n
    have hp := pow_pos2 n
    rw [List.range_succ, List.filter_append]
    cases c : p n with
    | true =>
      have e : [n].filter p = [n] := by simp [c]
      rw [e, setOf_append, setOf_one]
      refine ⟨by omega, by rw [Int.pow_succ]; omega, fun k => ?_⟩
      rw [bt_add_pow h1 h2, h3]
      by_cases hk : k = n
      · subst hk; simp [c]
      · have : decide (n = k) = false := decide_eq_false (Ne.symm hk)
        rw [this, Bool.or_false]
        by_cases hkn : k < n
        · simp [hkn, Nat.lt_succ_of_lt hkn]
        · have : ¬ k < n + 1 := by omega
          simp [hkn, this]
    | false =>
      have e : [n].filter p = [] := by simp [c]
      rw [e, List.append_nil]
      refine ⟨h1, by rw [Int.pow_succ]; omega, fun k => ?_⟩
      rw [h3]
      by_cases hk : k = n
      · subst hk; simp [c]
      · by_cases hkn : k < n
        · simp [hkn, Nat.lt_succ_of_lt hkn]
        · have : ¬ k < n + 1 := by omega
          simp [hkn, this]
/-! ### == of lists -/
theorem lay_all {ds : List D} (h : ∀ d ∈ ds, d.canLay0 = true) : PyData.canLayAll0 ds = true := by
  induction ds with
  | nil => rfl
  | cons d ds ih =>
    show (d.canLay0 && PyData.canLayAll0 ds) = true
    rw [h d (List.mem_cons_self ..), ih fun x hx => h x (List.mem_cons_of_mem _ hx)]
    rfl
theorem depth_all {ds : List D} {n : Nat} (h : ∀ d ∈ ds, d.depth ≤ n) : PyData.depthAll ds ≤ n := by
  induction ds with
  | nil => simp [PyData.depthAll]
  | cons d ds ih =>
    have h1 := h d (List.mem_cons_self ..)
    have h2 := ih fun x hx => h x (List.mem_cons_of_mem _ hx)
    simp only [PyData.depthAll]
    omega
/-- data of so many storeys at most -/
def ShD (n : Nat) (d : D) : Prop := d.canLay0 = true ∧ d.depth ≤ n
theorem ShD.shaped {n : Nat} {d : D} (h : ShD n d) (hn : n ≤ 64) : SeqAt.shaped d = true := by
  show (d.canLay0 && decide (d.depth ≤ 64)) = true
  rw [h.1, decide_eq_true (Nat.le_trans h.2 hn)]
  rfl
theorem shD_list {n : Nat} {ds : List D} (h : ∀ d ∈ ds, ShD n d) : ShD (n + 1) (.list ds) := by
  refine ⟨?_, ?_⟩
  · show PyData.canLayAll0 ds = true
    exact lay_all fun d hd => (h d hd).1
  · have := depth_all (n := n) fun d hd => (h d hd).2
    simp only [PyData.depth]
    omega
theorem shD_tuple {n : Nat} {ds : List D} (h : ∀ d ∈ ds, ShD n d) : ShD (n + 1) (.tuple ds) := by
  refine ⟨?_, ?_⟩
  · show PyData.canLayAll0 ds = true
    exact lay_all fun d hd => (h d hd).1
  · have := depth_all (n := n) fun d hd => (h d hd).2
    simp only [PyData.depth]
    omega
theorem shD_int (i : Int) : ShD 0 (.int i) := ⟨rfl, by simp [PyData.depth]⟩
theorem shD_none : ShD 0 .none := ⟨rfl, by simp [PyData.depth]⟩
theorem shD_bool (b : Bool) : ShD 0 (.bool b) := ⟨rfl, by simp [PyData.depth]⟩
theorem shD_str {s : Str} (h : PyData.canLay0 (.str s) = true) : ShD 0 (.str s) := ⟨h, by simp [PyData.depth]⟩
theorem ShD.mono {m n : Nat} {d : D} (h : ShD m d) (hn : m ≤ n) : ShD n d := ⟨h.1, Nat.le_trans h.2 hn⟩
theorem shD_oD (o : Option Int) : ShD 0 (oD o) := by cases o; exact shD_none; exact shD_int _
theorem eqD_list_nil {n : Nat} {ds : List D} (h : ∀ d ∈ ds, ShD n d) (hn : n + 1 ≤ 64) : eqD (.list ds) (.list []) = some ds.isEmpty := by
  rw [eqD_g rfl ((shD_list h).shaped hn) (by rfl)]
  cases ds <;> rfl
theorem neD_list_nil {n : Nat} {ds : List D} (h : ∀ d ∈ ds, ShD n d) (hn : n + 1 ≤ 64) : neD (.list ds) (.list []) = some !ds.isEmpty := by
  unfold neD
  rw [eqD_list_nil h hn]
  rfl
theorem eqvAll_map {α : Type} [DecidableEq α] (f : α → D) (hf : ∀ a b, PyData.eqv (f a) (f b) = decide (a = b)) : ∀ xs ys : List α, PyData.eqvAll (xs.map f) (ys.map f) = decide (xs = ys)
  | [], [] => rfl
  | [], _ :: _ => rfl
  | _ :: _, [] => rfl
  | a :: xs, b :: ys => by
    show (PyData.eqv (f a) (f b) && PyData.eqvAll (xs.map f) (ys.map f)) = _
    rw [hf, eqvAll_map f hf xs ys]
    by_cases c : a = b
    · by_cases c2 : xs = ys
      · simp [c, c2]
      · simp [c, c2]
    · simp [c]
theorem eqv_int (a b : Int) : PyData.eqv (.int a) (.int b) = decide (a = b) := by
  show (a == b) = _
  by_cases c : a = b
  · simp [c]
  · simp [c]
theorem eqv_oD (a b : Option Int) : PyData.eqv (oD a) (oD b) = decide (a = b) := by
  cases a with
  | none => cases b <;> rfl
  | some a => cases b with
    | none => rfl
    | some b =>
      rw [oD_some, oD_some, eqv_int]
      by_cases c : a = b
      · simp [c]
      · simp [c]
end DL

set_option Elab.async false
set_option linter.all false
set_option maxRecDepth 100000
set_option maxHeartbeats 1000000
/-! DLM: max, min of a list of ints with default=. -/
namespace DL
open PySem PySem.Spec PyProof.Rows L2

section
variable {prog : Program} {w : World} {A : Around} {R : Result → Shared → Prop} {I : Addr} {fp wr : List Addr} {n : Nat} {P : Nat → Value → Prop} {St : Nat → Heap → Prop}
theorem args_maxD (a v : Value) : argsOk "max" ⟨[a], [(Str.ofString "default", v)]⟩ := by unfold argsOk; kernel_rfl
theorem name_max : (toString "max" ++ toString ".loop" : String) = "max.loop" := by decide
/-- the turns behind the first one -/
theorem maxD_turns (W : Walks prog w A.in1 I fp wr n P St) (bt : Nat → Nat → Bool) (hcmp : CmpOf prog w A.in1 .Gt P bt) (S : Addr) (hSf : S ∉ fp) (d : Value) : ∀ (k j : Nat), j + 1 + k = n → ∀ (s : Shared) (vb : Value) (c : Nat), St (j + 1) s.heap → P (argBest bt j) vb →
    s.heap.get? S = some { cls := .type "list", dict := none, data := .seq #[vb, vb] c, slots := #[] } →
    (∀ v h' tk, P (argBest bt (n - 1)) v → (∀ b o, b ∉ wr → b ≠ S → s.heap.get? b = some o → h'.get? b = some o) → R (.ok (.ret v)) { s with heap := h', toks := tk }) →
    codeAny (model prog w) A (.builtin "max.loop" ⟨[.ref I, .none, .ref S], [(Str.ofString "default", d)]⟩) R s
  | 0, j, hk, s, vb, c, hst, hP, hS, hR => by
    have hSw : S ∉ wr := fun h => hSf (W.sub _ h)
    refine codeAny_builtin F.entry_max_loop ?_
    rw [Around.under_plainId F.plain_max_loop _]
    show wpAny _ A.in1 (seqItems? (.ref S) >>= _) _ _ s
    refine wpAny_bind (wpAny_seqItems hS rfl ?_)
    show wpAny _ A.in1 (tryCatch (pyNext (.ref I)) _ >>= _) _ _ s
    refine wpAny_bind (wpAny_tryCatch (W.done s _ _ (by rw [← hk]; exact hst) fun h' tk kp => ?_))
    have hS2 := kp S _ hSw hS
    show wpAny _ A.in1 (updateSeq S (fun _ => #[]) >>= _) _ _ _
    refine wpAny_bind (wpAny_updateSeq hS2 rfl (wpAny_bind (wpAny_letGo (wpAny_pure ?_))))
    refine hR vb _ tk (by rw [show n - 1 = j by omega]; exact hP) fun b o hb hbS e => ?_
    exact (Heap.get?_update_other _ _ (Ne.symm hbS)).trans (kp b o hb e)
  | k + 1, j, hk, s, vb, c, hst, hP, hS, hR => by
    have hSw : S ∉ wr := fun h => hSf (W.sub _ h)
    refine codeAny_builtin F.entry_max_loop ?_
    rw [Around.under_plainId F.plain_max_loop _]
    show wpAny _ A.in1 (seqItems? (.ref S) >>= _) _ _ s
    refine wpAny_bind (wpAny_seqItems hS rfl ?_)
    show wpAny _ A.in1 (tryCatch (pyNext (.ref I)) _ >>= _) _ _ s
    refine wpAny_bind (wpAny_tryCatch (W.item (j + 1) s _ _ (by omega) hst fun v h' tk hPv hst2 kp => ?_))
    have hS2 := kp S _ hSw hS
    show wpAny _ A.in1 (tryCatch (holding [v, v] (richCompare .Gt v vb >>= _)) _ >>= _) _ _ _
    refine wpAny_bind (wpAny_tryCatch (wpAny_holding (wpAny_bind (hcmp (j + 1) (argBest bt j) v vb _ _ _ hPv hP ?_))))
    refine wpAny_bind (wpAny_holding (wpAny_truthy_bool ?_))
    refine wpAny_bind (wpAny_letGo (wpAny_pure ?_))
    cases hb : bt (j + 1) (argBest bt j) with
    | false =>
      simp only [Bool.false_eq_true, if_false]
      refine wpAny_bind (wpAny_letGo ?_)
      rw [name_max]
      refine wpAny_pure ⟨plainId_quiet F.plain_max_loop _, maxD_turns W bt hcmp S hSf d k (j + 1) (by omega) _ vb c hst2 (by simp only [argBest, hb, Bool.false_eq_true, if_false]; exact hP) hS2 fun v2 h2 tk2 hP2 kp2 => ?_⟩
      exact hR v2 h2 tk2 hP2 fun b o hbw hbS e => kp2 b o hbw hbS (kp b o hbw e)
    | true =>
      simp only [if_true]
      refine wpAny_bind (wpAny_updateSeq hS2 rfl (wpAny_bind (wpAny_letGo ?_)))
      rw [name_max]
      refine wpAny_pure ⟨plainId_quiet F.plain_max_loop _, maxD_turns W bt hcmp S hSf d k (j + 1) (by omega) _ v _ (W.frame _ _ _ hst2 fun b hbf o e => ?_) (by simp only [argBest, hb, if_true]; exact hPv) (Heap.get?_update_self _ hS2 rfl) fun v2 h2 tk2 hP2 kp2 => ?_⟩
      · exact (Heap.get?_update_other _ _ (fun h : S = b => hSf (by rw [h]; exact hbf))).trans e
      · exact hR v2 h2 tk2 hP2 fun b o hbw hbS e => kp2 b o hbw hbS ((Heap.get?_update_other _ _ (Ne.symm hbS)).trans (kp b o hbw e))
/-- the first turn -/
theorem maxD_first (W : Walks prog w A.in1 I fp wr n P St) (bt : Nat → Nat → Bool) (hcmp : CmpOf prog w A.in1 .Gt P bt) (S : Addr) (hSf : S ∉ fp) (d : Value) {s : Shared} {c : Nat} (hst : St 0 s.heap)
    (hS : s.heap.get? S = some { cls := .type "list", dict := none, data := .seq #[] c, slots := #[] })
    (h0 : n = 0 → ∀ h' tk, (∀ b o, b ∉ wr → s.heap.get? b = some o → h'.get? b = some o) → R (.ok (.ret d)) { s with heap := h', toks := tk })
    (hR : 0 < n → ∀ v h' tk, P (argBest bt (n - 1)) v → (∀ b o, b ∉ wr → b ≠ S → s.heap.get? b = some o → h'.get? b = some o) → R (.ok (.ret v)) { s with heap := h', toks := tk }) :
    codeAny (model prog w) A (.builtin "max.loop" ⟨[.ref I, .none, .ref S], [(Str.ofString "default", d)]⟩) R s := by
  have hSw : S ∉ wr := fun h => hSf (W.sub _ h)
  refine codeAny_builtin F.entry_max_loop ?_
  rw [Around.under_plainId F.plain_max_loop _]
  show wpAny _ A.in1 (seqItems? (.ref S) >>= _) _ _ s
  refine wpAny_bind (wpAny_seqItems hS rfl ?_)
  show wpAny _ A.in1 (tryCatch (pyNext (.ref I)) _ >>= _) _ _ s
  cases n with
  | zero =>
    refine wpAny_bind (wpAny_tryCatch (W.done s _ _ hst fun h' tk kp => ?_))
    show wpAny _ A.in1 (rule _ >>= _) _ _ _
    refine wpAny_bind (wpAny_rule (wpAny_pure ?_))
    exact h0 rfl h' tk kp
  | succ m =>
    refine wpAny_bind (wpAny_tryCatch (W.item 0 s _ _ (Nat.succ_pos m) hst fun v h' tk hP hst2 kp => ?_))
    have hS2 := kp S _ hSw hS
    show wpAny _ A.in1 (updateSeq S (fun _ => #[v, v]) >>= _) _ _ _
    refine wpAny_bind (wpAny_updateSeq hS2 rfl ?_)
    rw [name_max]
    refine wpAny_pure ⟨plainId_quiet F.plain_max_loop _, maxD_turns W bt hcmp S hSf d m 0 (by omega) _ v _ (W.frame _ _ _ hst2 fun b hbf o e => ?_) hP (Heap.get?_update_self _ hS2 rfl) fun v2 h2 tk2 hP2 kp2 => ?_⟩
    · exact (Heap.get?_update_other _ _ (fun h : S = b => hSf (by rw [h]; exact hbf))).trans e
    · exact hR (Nat.succ_pos m) v2 h2 tk2 hP2 fun b o hbw hbS e => kp2 b o hbw hbS ((Heap.get?_update_other _ _ (Ne.symm hbS)).trans (kp b o hbw e))
end
section
variable {prog : Program} {w : World} {A : Around} {E : Value → Shared → Prop} {s : Shared}
theorem maxD_raw {l : Addr} {its : List Value} {ns : List Int} {d : Value} {Q : Value → Shared → Prop} (hh : A.handled = none) (hl : s.heap.IsList l its.toArray) (hi : IntsAre its ns)
    (h0 : ns = [] → ∀ h' tk, (∀ b o, s.heap.get? b = some o → h'.get? b = some o) → Q d { s with heap := h', toks := tk })
    (h : ∀ h' tk M t', (∀ b o, s.heap.get? b = some o → h'.get? b = some o) → M ∈ ns → (∀ a, a ∈ ns → a ≤ M) → Q (.int M t') { s with heap := h', toks := tk }) :
    wpAny (model prog w) A (call (.builtin "max") [.ref l] [(Str.ofString "default", d)]) Q E s := by
  obtain ⟨xs, e⟩ := hi.allInts.items
  have hn : numsOf (intItems xs).toList = ns := by rw [← e]; exact hi.numsOf
  rw [nums_intItems] at hn
  subst hn
  rw [e] at hl
  refine kmb_tree F.kind_max F.plain_max F.entry_max (args_maxD _ _) ?_
  show wpAny _ A.in1 (Builtin.Builtins.bindParams "max" ["key", "default"] 0 ⟨[], [(Str.ofString "default", d)]⟩ >>= _) _ _ s
  refine wpAny_bind (wpAny_of_eq (show Builtin.Builtins.bindParams "max" ["key", "default"] 0 ⟨[], [(Str.ofString "default", d)]⟩ = pure [none, some d] from rfl) ?_)
  refine wpAny_bind (wpAny_pure ?_)
  refine wpAny_bind (iter_intList hl fun s₂ es st hfp hlI => ?_)
  subst es
  refine wpAny_bind (wpAny_newObj_type ?_)
  rw [name_max]
  have hSf : ∀ a, a ∈ [s.heap.objs.size, l] → (s.heap.push { cls := .type "list_iterator", data := .fields #[.ref l, .int 0 0] }).objs.size ≠ a := fun a ha q => Nat.lt_irrefl _ (by have := hfp a ha; rw [← q] at this; exact this)
  refine wpAny_pure ⟨plainId_quiet F.plain_max_loop _, maxD_first (Walks.list (A := A.in1) hh _ l hlI (intItems xs)) _ (CmpOf.ints_gt (numAt xs) (fun _ _ => intItems_at)) _ (fun hm => hSf _ hm rfl) d ⟨(st.1).at fun o e => Heap.get?_push_of_some _ e, st.2.push _⟩ (Heap.get?_push_size _ rfl) (fun q h' tk kp => ?_) fun q v h' tk hP kp => ?_⟩
  · refine h0 ?_ h' tk ?_
    · have : xs.size = 0 := by simpa [intItems] using q
      simp [Array.eq_empty_of_size_eq_zero this]
    · exact old_kept fun b o hb eo => kp b o hb (Heap.get?_push_of_some _ eo)
  · obtain ⟨t, rfl⟩ := intItems_at hP
    have hsz : 0 < xs.size := by simpa [intItems] using q
    have hs2 : (intItems xs).size = xs.size := by simp [intItems]
    rw [hs2] at hP ⊢
    obtain ⟨g1, g2⟩ := argBest_gt (numAt xs) (xs.size - 1)
    refine h h' tk _ t ?_ ?_ fun a ha => ?_
    · exact old_kept fun b o hb eo => kp b o hb (Nat.ne_of_lt (Heap.lt_size eo)) (Heap.get?_push_of_some _ eo)
    · rw [numAt_eq]; exact PySem.getD_mem (by rw [List.length_map, Array.length_toList]; omega)
    · obtain ⟨j, hj, rfl⟩ := mem_getD ha
      rw [List.length_map, Array.length_toList] at hj
      rw [← numAt_eq]; exact g2 j (by omega)
end

section
variable {prog : Program} {w : World} {A : Around} {R : Result → Shared → Prop} {I : Addr} {fp wr : List Addr} {n : Nat} {P : Nat → Value → Prop} {St : Nat → Heap → Prop}
theorem args_minD (a v : Value) : argsOk "min" ⟨[a], [(Str.ofString "default", v)]⟩ := by unfold argsOk; kernel_rfl
theorem name_min : (toString "min" ++ toString ".loop" : String) = "min.loop" := by decide
/-- the turns behind the first one -/
theorem minD_turns (W : Walks prog w A.in1 I fp wr n P St) (bt : Nat → Nat → Bool) (hcmp : CmpOf prog w A.in1 .Lt P bt) (S : Addr) (hSf : S ∉ fp) (d : Value) : ∀ (k j : Nat), j + 1 + k = n → ∀ (s : Shared) (vb : Value) (c : Nat), St (j + 1) s.heap → P (argBest bt j) vb →
    s.heap.get? S = some { cls := .type "list", dict := none, data := .seq #[vb, vb] c, slots := #[] } →
    (∀ v h' tk, P (argBest bt (n - 1)) v → (∀ b o, b ∉ wr → b ≠ S → s.heap.get? b = some o → h'.get? b = some o) → R (.ok (.ret v)) { s with heap := h', toks := tk }) →
    codeAny (model prog w) A (.builtin "min.loop" ⟨[.ref I, .none, .ref S], [(Str.ofString "default", d)]⟩) R s
  | 0, j, hk, s, vb, c, hst, hP, hS, hR => by
    have hSw : S ∉ wr := fun h => hSf (W.sub _ h)
    refine codeAny_builtin F.entry_min_loop ?_
    rw [Around.under_plainId F.plain_min_loop _]
    show wpAny _ A.in1 (seqItems? (.ref S) >>= _) _ _ s
    refine wpAny_bind (wpAny_seqItems hS rfl ?_)
    show wpAny _ A.in1 (tryCatch (pyNext (.ref I)) _ >>= _) _ _ s
    refine wpAny_bind (wpAny_tryCatch (W.done s _ _ (by rw [← hk]; exact hst) fun h' tk kp => ?_))
    have hS2 := kp S _ hSw hS
    show wpAny _ A.in1 (updateSeq S (fun _ => #[]) >>= _) _ _ _
    refine wpAny_bind (wpAny_updateSeq hS2 rfl (wpAny_bind (wpAny_letGo (wpAny_pure ?_))))
    refine hR vb _ tk (by rw [show n - 1 = j by omega]; exact hP) fun b o hb hbS e => ?_
    exact (Heap.get?_update_other _ _ (Ne.symm hbS)).trans (kp b o hb e)
  | k + 1, j, hk, s, vb, c, hst, hP, hS, hR => by
    have hSw : S ∉ wr := fun h => hSf (W.sub _ h)
    refine codeAny_builtin F.entry_min_loop ?_
    rw [Around.under_plainId F.plain_min_loop _]
    show wpAny _ A.in1 (seqItems? (.ref S) >>= _) _ _ s
    refine wpAny_bind (wpAny_seqItems hS rfl ?_)
    show wpAny _ A.in1 (tryCatch (pyNext (.ref I)) _ >>= _) _ _ s
    refine wpAny_bind (wpAny_tryCatch (W.item (j + 1) s _ _ (by omega) hst fun v h' tk hPv hst2 kp => ?_))
    have hS2 := kp S _ hSw hS
    show wpAny _ A.in1 (tryCatch (holding [v, v] (richCompare .Lt v vb >>= _)) _ >>= _) _ _ _
    refine wpAny_bind (wpAny_tryCatch (wpAny_holding (wpAny_bind (hcmp (j + 1) (argBest bt j) v vb _ _ _ hPv hP ?_))))
    refine wpAny_bind (wpAny_holding (wpAny_truthy_bool ?_))
    refine wpAny_bind (wpAny_letGo (wpAny_pure ?_))
    cases hb : bt (j + 1) (argBest bt j) with
    | false =>
      simp only [Bool.false_eq_true, if_false]
      refine wpAny_bind (wpAny_letGo ?_)
      rw [name_min]
      refine wpAny_pure ⟨plainId_quiet F.plain_min_loop _, minD_turns W bt hcmp S hSf d k (j + 1) (by omega) _ vb c hst2 (by simp only [argBest, hb, Bool.false_eq_true, if_false]; exact hP) hS2 fun v2 h2 tk2 hP2 kp2 => ?_⟩
      exact hR v2 h2 tk2 hP2 fun b o hbw hbS e => kp2 b o hbw hbS (kp b o hbw e)
    | true =>
      simp only [if_true]
      refine wpAny_bind (wpAny_updateSeq hS2 rfl (wpAny_bind (wpAny_letGo ?_)))
      rw [name_min]
      refine wpAny_pure ⟨plainId_quiet F.plain_min_loop _, minD_turns W bt hcmp S hSf d k (j + 1) (by omega) _ v _ (W.frame _ _ _ hst2 fun b hbf o e => ?_) (by simp only [argBest, hb, if_true]; exact hPv) (Heap.get?_update_self _ hS2 rfl) fun v2 h2 tk2 hP2 kp2 => ?_⟩
      · exact (Heap.get?_update_other _ _ (fun h : S = b => hSf (by rw [h]; exact hbf))).trans e
      · exact hR v2 h2 tk2 hP2 fun b o hbw hbS e => kp2 b o hbw hbS ((Heap.get?_update_other _ _ (Ne.symm hbS)).trans (kp b o hbw e))
/-- the first turn -/
theorem minD_first (W : Walks prog w A.in1 I fp wr n P St) (bt : Nat → Nat → Bool) (hcmp : CmpOf prog w A.in1 .Lt P bt) (S : Addr) (hSf : S ∉ fp) (d : Value) {s : Shared} {c : Nat} (hst : St 0 s.heap)
    (hS : s.heap.get? S = some { cls := .type "list", dict := none, data := .seq #[] c, slots := #[] })
    (h0 : n = 0 → ∀ h' tk, (∀ b o, b ∉ wr → s.heap.get? b = some o → h'.get? b = some o) → R (.ok (.ret d)) { s with heap := h', toks := tk })
    (hR : 0 < n → ∀ v h' tk, P (argBest bt (n - 1)) v → (∀ b o, b ∉ wr → b ≠ S → s.heap.get? b = some o → h'.get? b = some o) → R (.ok (.ret v)) { s with heap := h', toks := tk }) :
    codeAny (model prog w) A (.builtin "min.loop" ⟨[.ref I, .none, .ref S], [(Str.ofString "default", d)]⟩) R s := by
  have hSw : S ∉ wr := fun h => hSf (W.sub _ h)
  refine codeAny_builtin F.entry_min_loop ?_
  rw [Around.under_plainId F.plain_min_loop _]
  show wpAny _ A.in1 (seqItems? (.ref S) >>= _) _ _ s
  refine wpAny_bind (wpAny_seqItems hS rfl ?_)
  show wpAny _ A.in1 (tryCatch (pyNext (.ref I)) _ >>= _) _ _ s
  cases n with
  | zero =>
    refine wpAny_bind (wpAny_tryCatch (W.done s _ _ hst fun h' tk kp => ?_))
    show wpAny _ A.in1 (rule _ >>= _) _ _ _
    refine wpAny_bind (wpAny_rule (wpAny_pure ?_))
    exact h0 rfl h' tk kp
  | succ m =>
    refine wpAny_bind (wpAny_tryCatch (W.item 0 s _ _ (Nat.succ_pos m) hst fun v h' tk hP hst2 kp => ?_))
    have hS2 := kp S _ hSw hS
    show wpAny _ A.in1 (updateSeq S (fun _ => #[v, v]) >>= _) _ _ _
    refine wpAny_bind (wpAny_updateSeq hS2 rfl ?_)
    rw [name_min]
    refine wpAny_pure ⟨plainId_quiet F.plain_min_loop _, minD_turns W bt hcmp S hSf d m 0 (by omega) _ v _ (W.frame _ _ _ hst2 fun b hbf o e => ?_) hP (Heap.get?_update_self _ hS2 rfl) fun v2 h2 tk2 hP2 kp2 => ?_⟩
    · exact (Heap.get?_update_other _ _ (fun h : S = b => hSf (by rw [h]; exact hbf))).trans e
    · exact hR (Nat.succ_pos m) v2 h2 tk2 hP2 fun b o hbw hbS e => kp2 b o hbw hbS ((Heap.get?_update_other _ _ (Ne.symm hbS)).trans (kp b o hbw e))
end
section
variable {prog : Program} {w : World} {A : Around} {E : Value → Shared → Prop} {s : Shared}
theorem minD_raw {l : Addr} {its : List Value} {ns : List Int} {d : Value} {Q : Value → Shared → Prop} (hh : A.handled = none) (hl : s.heap.IsList l its.toArray) (hi : IntsAre its ns)
    (h0 : ns = [] → ∀ h' tk, (∀ b o, s.heap.get? b = some o → h'.get? b = some o) → Q d { s with heap := h', toks := tk })
    (h : ∀ h' tk M t', (∀ b o, s.heap.get? b = some o → h'.get? b = some o) → M ∈ ns → (∀ a, a ∈ ns → M ≤ a) → Q (.int M t') { s with heap := h', toks := tk }) :
    wpAny (model prog w) A (call (.builtin "min") [.ref l] [(Str.ofString "default", d)]) Q E s := by
  obtain ⟨xs, e⟩ := hi.allInts.items
  have hn : numsOf (intItems xs).toList = ns := by rw [← e]; exact hi.numsOf
  rw [nums_intItems] at hn
  subst hn
  rw [e] at hl
  refine kmb_tree F.kind_min F.plain_min F.entry_min (args_minD _ _) ?_
  show wpAny _ A.in1 (Builtin.Builtins.bindParams "min" ["key", "default"] 0 ⟨[], [(Str.ofString "default", d)]⟩ >>= _) _ _ s
  refine wpAny_bind (wpAny_of_eq (show Builtin.Builtins.bindParams "min" ["key", "default"] 0 ⟨[], [(Str.ofString "default", d)]⟩ = pure [none, some d] from rfl) ?_)
  refine wpAny_bind (wpAny_pure ?_)
  refine wpAny_bind (iter_intList hl fun s₂ es st hfp hlI => ?_)
  subst es
  refine wpAny_bind (wpAny_newObj_type ?_)
  rw [name_min]
  have hSf : ∀ a, a ∈ [s.heap.objs.size, l] → (s.heap.push { cls := .type "list_iterator", data := .fields #[.ref l, .int 0 0] }).objs.size ≠ a := fun a ha q => Nat.lt_irrefl _ (by have := hfp a ha; rw [← q] at this; exact this)
  refine wpAny_pure ⟨plainId_quiet F.plain_min_loop _, minD_first (Walks.list (A := A.in1) hh _ l hlI (intItems xs)) _ (CmpOf.ints_lt (numAt xs) (fun _ _ => intItems_at)) _ (fun hm => hSf _ hm rfl) d ⟨(st.1).at fun o e => Heap.get?_push_of_some _ e, st.2.push _⟩ (Heap.get?_push_size _ rfl) (fun q h' tk kp => ?_) fun q v h' tk hP kp => ?_⟩
  · refine h0 ?_ h' tk ?_
    · have : xs.size = 0 := by simpa [intItems] using q
      simp [Array.eq_empty_of_size_eq_zero this]
    · exact old_kept fun b o hb eo => kp b o hb (Heap.get?_push_of_some _ eo)
  · obtain ⟨t, rfl⟩ := intItems_at hP
    have hsz : 0 < xs.size := by simpa [intItems] using q
    have hs2 : (intItems xs).size = xs.size := by simp [intItems]
    rw [hs2] at hP ⊢
    obtain ⟨g1, g2⟩ := argBest_lt (numAt xs) (xs.size - 1)
    refine h h' tk _ t ?_ ?_ fun a ha => ?_
    · exact old_kept fun b o hb eo => kp b o hb (Nat.ne_of_lt (Heap.lt_size eo)) (Heap.get?_push_of_some _ eo)
    · rw [numAt_eq]; exact PySem.getD_mem (by rw [List.length_map, Array.length_toList]; omega)
    · obtain ⟨j, hj, rfl⟩ := mem_getD ha
      rw [List.length_map, Array.length_toList] at hj
      rw [← numAt_eq]; exact g2 j (by omega)
end

section
variable {X : Cx}
def rBestD (K : PySem.W.Frag) (le : Int → Int → Prop) : List V → List V → Hp → VK → Prop := fun vs zs H Q => ∃ (a : Addr) (ns : List Int) (d : Int), vs = [.ref a] ∧ zs = [.int d] ∧ SqL K H a (ns.map V.int) ∧ (ns = [] → Q (.int d) H) ∧ ∀ m, m ∈ ns → (∀ i, i ∈ ns → le m i) → Q (.int m) H
theorem cr_maxD (hc : X.calm = true) : CallRK X (.builtin "max") [Str.ofString "default"] (rBestD X.K fun m i => i ≤ m) := by
  intro pins s σ H vs zs us ws Q I r rz h
  obtain ⟨a, ns, d, rfl, rfl, hs, q0, q1⟩ := h
  obtain ⟨its, rv, hl, _⟩ := I.list hs
  obtain rfl := Vals.ref1 r
  obtain ⟨w1, rfl, e1⟩ := vals1 rz
  obtain ⟨t, rfl⟩ := e1
  exact maxD_raw (I.ok.hd hc) hl.isList rv.ints (fun e h' tk hk => ⟨.int d, H, I.kept hk, ⟨_, rfl⟩, q0 e⟩) fun h' tk m t' hk h1 h2 => ⟨.int m, H, I.kept hk, ⟨_, rfl⟩, q1 m h1 h2⟩
theorem cr_minD (hc : X.calm = true) : CallRK X (.builtin "min") [Str.ofString "default"] (rBestD X.K fun m i => m ≤ i) := by
  intro pins s σ H vs zs us ws Q I r rz h
  obtain ⟨a, ns, d, rfl, rfl, hs, q0, q1⟩ := h
  obtain ⟨its, rv, hl, _⟩ := I.list hs
  obtain rfl := Vals.ref1 r
  obtain ⟨w1, rfl, e1⟩ := vals1 rz
  obtain ⟨t, rfl⟩ := e1
  exact minD_raw (I.ok.hd hc) hl.isList rv.ints (fun e h' tk hk => ⟨.int d, H, I.kept hk, ⟨_, rfl⟩, q0 e⟩) fun h' tk m t' hk h1 h2 => ⟨.int m, H, I.kept hk, ⟨_, rfl⟩, q1 m h1 h2⟩
theorem ER.imp {K : PySem.W.Frag} {f : SEnv → Option Sl} {σ : L2.St} {H : Hp} {Q Q' : VK} (h : ER K f σ H Q) (hq : ∀ x H, Q x H → Q' x H) : ER K f σ H Q' := by
  obtain ⟨B, Z0, Z, ρ, s, x, e, k⟩ := h
  exact ⟨B, Z0, Z, ρ, s, x, e, fun v Z' H' k' r => hq _ _ (k v Z' H' k' r)⟩
theorem ar_cons {K : PySem.W.Frag} {fa : SEnv → Option Sl} {fr : SEnv → Option (List Sl)} {σ : L2.St} {H : Hp} {Q : List V → Hp → Prop} : AR K (aCons fa fr) σ H Q → tCons (ER K fa) (AR K fr) σ H Q := fun ⟨B, Z0, Z, ρ, ds, x, e, k⟩ => by
  unfold aCons at e
  split at e
  · rename_i s ss qa qr
    cases e
    refine er1 x qa fun v Z' H' k' r => ⟨B, Z0, Z', ρ, ss, x.step k', qr, fun vs Z2 H2 k2 r2 => ?_⟩
    exact k _ Z2 H2 (k'.trans k2) ⟨(bor_ok r).mono k2.bh k2.zz (fun _ h => nomatch h), r2⟩
  · cases e
theorem ar_nil {K : PySem.W.Frag} {σ : L2.St} {H : Hp} {Q : List V → Hp → Prop} : AR K aNil σ H Q → tNil σ H Q := fun ⟨B, Z0, Z, ρ, ds, x, e, k⟩ => by
  cases e
  exact k [] Z H (Step.refl x.zh) trivial
/-- one argument and one by its name -/
theorem ar_kw {K : PySem.W.Frag} {fa fb : SEnv → Option Sl} {σ : L2.St} {H : Hp} {Q : VK} {r : List V → List V → Hp → VK → Prop} {r' : List V → Hp → VK → Prop} (hr : ∀ x z H, r' [x, z] H Q → r [x] [z] H Q) (h : tCB r' (AR K (aCons fa (aCons fb aNil))) σ H Q) : tCKw r (tCons (ER K fa) tNil) (tCons (ER K fb) tNil) σ H Q := by
  refine (ar_cons h).imp fun x H1 h1 => ?_
  refine (ar_cons h1).imp fun z H2 h2 => ?_
  exact hr _ _ _ (ar_nil h2)
def bestDS (f : Int → List Int → Int) (s : Sl) (d : Int) : Option Sl := match (litems s).bind intsD with
  | some [] => some (.pl (.int d))
  | some (a :: l) => some (.pl (.int (f a l)))
  | none => none
def bestDF (f : Int → List Int → Int) : List Sl → Option Sl := fun ss => match ss with | [s, .pl (.int d)] => bestDS f s d | _ => none
theorem ok_bestD {K : PySem.W.Frag} {le : Int → Int → Prop} {f : Int → List Int → Int} (hf : ∀ a l m, m ∈ a :: l → (∀ i, i ∈ a :: l → le m i) → m = f a l) : BuiOK K (fun xs H Q => ∃ x z, xs = [x, z] ∧ rBestD K le [x] [z] H Q) (bestDF f) := by
  intro Z H vs ss t Q zh ha e k
  unfold bestDF at e
  split at e
  · rename_i s d
    match vs, ha with
    | [], ha => exact ha.elim
    | [_], ha => exact ha.2.elim
    | [v, z], ⟨hv, hz, _⟩ =>
      unfold bestDS at e
      cases qi : litems s with
      | none => rw [qi] at e; cases e
      | some ds =>
        rw [qi] at e
        cases qn : intsD ds with
        | none => simp only [Option.bind, qn] at e; cases e
        | some ns =>
          simp only [Option.bind, qn] at e
          obtain ⟨p, vs, rfl, hq, hd⟩ := litems_ok (H0 := H) (vl_of hv) zh qi
          have := ints_ok hd qn
          subst this
          obtain ⟨_, zx, ez, hzd⟩ := hz
          cases ez
          cases hzd
          refine ⟨_, _, rfl, p, ns, d, rfl, rfl, hq, fun e0 => ?_, fun m hm hle => ?_⟩
          · subst e0
            cases e
            exact k _ Z H (Step.refl zh) (vlR.pl (.int _))
          · cases ns with
            | nil => cases hm
            | cons a l =>
              cases e
              rw [hf a l m hm hle]
              exact k _ Z H (Step.refl zh) (vlR.pl (.int _))
    | _ :: _ :: _ :: _, ha => exact ha.2.2.elim
  · cases e
theorem is_maxL (a : Int) (l : List Int) (m : Int) (hm : m ∈ a :: l) (hle : ∀ i, i ∈ a :: l → i ≤ m) : m = maxL a l := by
  have h1 := maxL_ge l a
  have h3 : maxL a l ≤ m := by
    rcases maxL_mem l a with q | q
    · rw [q]; exact hle a (List.mem_cons_self ..)
    · exact hle _ (List.mem_cons_of_mem _ q)
  have h4 : m ≤ maxL a l := by
    rcases List.mem_cons.mp hm with q | q
    · rw [q]; exact h1.1
    · exact h1.2 m q
  omega
theorem is_minL (a : Int) (l : List Int) (m : Int) (hm : m ∈ a :: l) (hle : ∀ i, i ∈ a :: l → m ≤ i) : m = minL a l := by
  have h1 := minL_le l a
  have h3 : m ≤ minL a l := by
    rcases minL_mem l a with q | q
    · rw [q]; exact hle a (List.mem_cons_self ..)
    · exact hle _ (List.mem_cons_of_mem _ q)
  have h4 : minL a l ≤ m := by
    rcases List.mem_cons.mp hm with q | q
    · rw [q]; exact h1.1
    · exact h1.2 m q
  omega
abbrev maxDF := bestDF maxL
abbrev minDF := bestDF minL
theorem pd_maxD {p pos kpos : Pos} {e o : Expr} {a b : SEnv → Option Sl} (hg : Gl X "max") (hm : X.mg "max" = none) (ha : PD X e a) (hb : PD X o b) (hc : X.calm = true := by rfl) (h1 : starEach [e] X.env = (false, eval e X.env) :: starEach [] X.env := by rfl)
    (he : backTo pos (starEach [e] X.env) = (false, eval e X.env) :: backTo pos (starEach [] X.env) := by rfl) (hpl : (backTo pos (starEach [e] X.env)).any (·.1) = false := by rfl)
    (hall : (backToKw pos (keywordEach [⟨some (Str.ofString "default"), o, kpos⟩] X.env)).all (·.1.isSome) = true := by rfl) (hnone : (backToKw pos (keywordEach [⟨some (Str.ofString "default"), o, kpos⟩] X.env)).any (·.1.isNone) = false := by rfl) (hks : (backToKw pos (keywordEach [⟨some (Str.ofString "default"), o, kpos⟩] X.env)).filterMap (·.1) = [Str.ofString "default"] := by rfl) : PD X (.Call (.Name "max" p) [e] [⟨some (Str.ofString "default"), o, kpos⟩] pos) (eBui maxDF (aCons a (aCons b aNil))) :=
  PE_imp (pe_callBK (cr_maxD hc) hg hm (by decide +kernel) (pa_cons ha pa_nil h1) (pk_cons hb pk_nil) (by decide) (by decide) he hpl hall hnone hks) fun σ H Q h => ar_kw (fun x z H h => by obtain ⟨_, _, e, h⟩ := h; cases e; exact h) (bui_core (ok_bestD is_maxL) h)
theorem pd_minD {p pos kpos : Pos} {e o : Expr} {a b : SEnv → Option Sl} (hg : Gl X "min") (hm : X.mg "min" = none) (ha : PD X e a) (hb : PD X o b) (hc : X.calm = true := by rfl) (h1 : starEach [e] X.env = (false, eval e X.env) :: starEach [] X.env := by rfl)
    (he : backTo pos (starEach [e] X.env) = (false, eval e X.env) :: backTo pos (starEach [] X.env) := by rfl) (hpl : (backTo pos (starEach [e] X.env)).any (·.1) = false := by rfl)
    (hall : (backToKw pos (keywordEach [⟨some (Str.ofString "default"), o, kpos⟩] X.env)).all (·.1.isSome) = true := by rfl) (hnone : (backToKw pos (keywordEach [⟨some (Str.ofString "default"), o, kpos⟩] X.env)).any (·.1.isNone) = false := by rfl) (hks : (backToKw pos (keywordEach [⟨some (Str.ofString "default"), o, kpos⟩] X.env)).filterMap (·.1) = [Str.ofString "default"] := by rfl) : PD X (.Call (.Name "min" p) [e] [⟨some (Str.ofString "default"), o, kpos⟩] pos) (eBui minDF (aCons a (aCons b aNil))) :=
  PE_imp (pe_callBK (cr_minD hc) hg hm (by decide +kernel) (pa_cons ha pa_nil h1) (pk_cons hb pk_nil) (by decide) (by decide) he hpl hall hnone hks) fun σ H Q h => ar_kw (fun x z H h => by obtain ⟨_, _, e, h⟩ := h; cases e; exact h) (bui_core (ok_bestD is_minL) h)
end
section
variable {X : Cx}
/-- a < b < c of ints -/
def tChn (p q : Int → Int → Bool) (a b c : SEnv → Option Sl) : SEnv → Option Bool := fun ρ => match a ρ, b ρ with
  | some (.pl (.int i)), some (.pl (.int j)) => if p i j then (match c ρ with | some (.pl (.int k)) => some (q j k) | _ => none) else some false
  | _, _ => none
theorem td_chain {op op2 : CmpOp} {r r2 : R2} {p q : Int → Int → Bool} {a b c : Expr} {fa fb fc : SEnv → Option Sl} {pos : Pos} (ho : OpR X (compareOp op) r) (hf : CmpOK X.K r (cF p)) (ho2 : OpR X (compareOp op2) r2) (hf2 : CmpOK X.K r2 (cF q)) (ha : PD X a fa) (hb : PD X b fb) (hc : PD X c fc)
    (hm : lastMarks [op, op2] [b, c] = false := by with_unfolding_all rfl) : TD X (.Compare a [op, op2] [b, c] pos) (tChn p q fa fb fc) :=
  PT_imp (pt_chain ho ho2 ha hb hc hm) fun σ H Q ⟨B, Z0, Z, ρ, t, x, e, k⟩ => by
    unfold tChn at e
    split at e
    · rename_i i j ea eb
      refine er2 x ea eb fun v w Z1 H1 k1 r1 r2 => ?_
      have h1 := view_ok r1 k1.zh (d := .int i) rfl
      have h2 := view_ok r2 k1.zh (d := .int j) rfl
      have h3 : ∀ H, Dp X.K H w (.int j) := by cases h2; exact fun _ => .int j
      refine hf h1 h2 rfl ⟨_, rfl, ?_⟩
      split at e
      · rename_i hp
        rw [if_pos hp]
        split at e
        · rename_i k3 ec
          cases e
          refine er1 (x.step k1) ec fun u Z2 H2 k2 r3 => ?_
          exact hf2 (h3 H2) (view_ok r3 k2.zh (d := .int k3) rfl) rfl ⟨_, rfl, k Z2 H2 (k1.trans k2)⟩
        · cases e
      · rename_i hp
        rw [if_neg hp]
        cases e
        exact ⟨_, rfl, k Z1 H1 k1⟩
    · cases e
end
section
variable {X : Cx}
/-- range(i, j, c) -/
def rg3D (lo c : Int) (n : Nat) : List D := (List.range n).map fun i : Nat => .int (lo + (i : Nat) * c)
theorem rg3D_length (lo c : Int) (n : Nat) : (rg3D lo c n).length = n := by unfold rg3D; rw [List.length_map, List.length_range]
theorem range3_walk {K : PySem.W.Frag} {B Zs : Hp} {lo c : Int} {n : Nat} : WalkD K B Zs (Itc lo c n) (rg3D lo c n) (fun _ => True) (YFn fun i => .int (lo + (i : Nat) * c)) :=
  ⟨by rw [rg3D_length]; exact walk_rangeC, fun _ _ _ => trivial, fun i Z H x H' d e _ zh y => by
    obtain ⟨rfl, rfl⟩ := y
    refine ⟨Z, Step.refl zh, ?_⟩
    unfold rg3D at e
    rw [List.getElem?_map] at e
    cases q : (List.range n)[i]? with
    | none => rw [q] at e; cases e
    | some j =>
      rw [q] at e
      cases e
      obtain ⟨hl, hj⟩ := List.getElem?_eq_some_iff.mp q
      rw [List.getElem_range] at hj
      subst hj
      exact .int _⟩
def rg3 (a : SEnv → Option (List Sl)) : SEnv → Option (List D) := fun ρ => match a ρ with
  | some [.pl (.int i), .pl (.int j), .pl (.int c)] => if c ≠ 0 ∧ c.natAbs < 1073741824 ∧ Builtin.Range.small i j c = true ∧ 0 ≤ Builtin.Range.rangeSize i j c then some (rg3D i c (Builtin.Range.rangeSize i j c).toNat) else none
  | _ => none
theorem allB_int3 {K : PySem.W.Frag} {Z H : Hp} {vs : List V} {i j c : Int} (h : AllB K Z H vs [.pl (.int i), .pl (.int j), .pl (.int c)]) : vs = [.int i, .int j, .int c] := by
  match vs, h with
  | [u, v, w], h =>
    obtain ⟨_, x, e, hd⟩ := h.1
    cases e
    cases hd
    obtain ⟨_, x, e, hd⟩ := h.2.1
    cases e
    cases hd
    obtain ⟨_, x, e, hd⟩ := h.2.2.1
    cases e
    cases hd
    rfl
  | [], h => exact h.elim
  | [_], h => exact h.2.elim
  | [_, _], h => exact h.2.2.elim
  | _ :: _ :: _ :: _ :: _, h => exact h.2.2.2.elim
theorem ld_range3 {tg a b c : Expr} {fa : SEnv → Option (List Sl)} {p pos : Pos} (hg : Gl X "range") (hm : X.mg "range" = none) (ha : AD X [a, b, c] fa)
    (hs : starEach [a, b, c] X.env = (false, eval a X.env) :: starEach [b, c] X.env := by rfl) (hpl : (backTo pos (starEach [b, c] X.env)).any (·.1) = false := by rfl) : LD X tg (.Call (.Name "range" p) [a, b, c] [] pos) (rg3 fa) :=
  PI_imp (pi_range3 hg hm ha hs hpl) fun σ H R ⟨B, Z0, Z, ρ, ds, x, e, k⟩ => by
    unfold rg3 at e
    split at e
    · rename_i i j c q
      by_cases g : c ≠ 0 ∧ c.natAbs < 1073741824 ∧ Builtin.Range.small i j c = true ∧ 0 ≤ Builtin.Range.rangeSize i j c
      · rw [if_pos g] at e
        cases e
        refine ⟨B, Z0, Z, ρ, _, x, q, fun vs Z' H' k' r => ?_⟩
        cases allB_int3 r
        exact ⟨i, j, c, _, rfl, ⟨g.1, g.2.1, g.2.2.1, (Int.toNat_of_nonneg g.2.2.2).symm⟩, k _ _ _ Z' H' k' range3_walk⟩
      · rw [if_neg g] at e; cases e
    · cases e
end
end DL

set_option Elab.async false
set_option linter.all false
set_option maxRecDepth 100000
set_option maxHeartbeats 1000000
/-! DL8: dicts; a borrowed list under another name; a list handed over to a def and back; sorted. -/
namespace DL
open PySem PySem.Spec PyProof.Rows L2
/-! ### dicts as data -/
def valD (kvs : List (Key × D)) (k : Key) : Option D := (kvs.find? fun kv => decide (kv.1 = k)).map (·.2)
def putD (kvs : List (Key × D)) (k : Key) (v : D) : List (Key × D) :=
  if (kvs.any fun kv => decide (kv.1 = k)) = true then kvs.map (fun kv => if kv.1 = k then (kv.1, v) else kv) else kvs ++ [(k, v)]
def keyD : D → Option Key
  | .int i => some (.inl i)
  | .str x => some (.inr x)
  | _ => none
@[simp] theorem keyD_int (i : Int) : keyD (.int i) = some (.inl i) := rfl
@[simp] theorem keyD_str (x : Str) : keyD (.str x) = some (.inr x) := rfl
section
variable {K : PySem.W.Frag}
theorem keyD_ok {Z : Hp} {v : V} {d : D} {k : Key} (h : Dp K Z v d) (e : keyD d = some k) : v = kV k := by
  cases h <;> first | (cases e; done) | (cases e; rfl)
theorem KVD_any {Z : Hp} (k : Key) : ∀ {vs : List (Key × V)} {kvs : List (Key × D)}, KVD K Z vs kvs → (vs.any fun kv => decide (kv.1 = k)) = kvs.any fun kv => decide (kv.1 = k)
  | _, _, .nil => rfl
  | _, _, .cons r t => by rw [List.any_cons, List.any_cons, r.1, KVD_any k t]
theorem KVD_val {Z : Hp} (k : Key) : ∀ {vs : List (Key × V)} {kvs : List (Key × D)}, KVD K Z vs kvs → (valV vs k = none ∧ valD kvs k = none) ∨ ∃ v d, valV vs k = some v ∧ valD kvs k = some d ∧ Dp K Z v d
  | _, _, .nil => .inl ⟨rfl, rfl⟩
  | (a, v) :: vs, (b, d) :: kvs, .cons r t => by
    have e : a = b := r.1
    subst e
    by_cases c : a = k
    · refine .inr ⟨v, d, ?_, ?_, r.2⟩
      · simp [valV, List.find?_cons, c]
      · simp [valD, List.find?_cons, c]
    · have e1 : valV ((a, v) :: vs) k = valV vs k := by simp [valV, List.find?_cons, c]
      have e2 : valD ((a, d) :: kvs) k = valD kvs k := by simp [valD, List.find?_cons, c]
      rw [e1, e2]
      exact KVD_val k t
theorem KVD_map {Z : Hp} (k : Key) {v : V} {d : D} (h : Dp K Z v d) : ∀ {vs : List (Key × V)} {kvs : List (Key × D)}, KVD K Z vs kvs → KVD K Z (vs.map fun kv => if kv.1 = k then (kv.1, v) else kv) (kvs.map fun kv => if kv.1 = k then (kv.1, d) else kv)
  | _, _, .nil => .nil
  | (a, x) :: vs, (b, y) :: kvs, .cons r t => by
    have e : a = b := r.1
    subst e
    refine .cons ?_ (KVD_map k h t)
    by_cases c : a = k
    · simp only [c, if_true]; exact ⟨trivial, h⟩
    · simp only [c, if_false]; exact ⟨trivial, r.2⟩
theorem KVD_snoc {Z : Hp} (k : Key) {v : V} {d : D} (h : Dp K Z v d) : ∀ {vs : List (Key × V)} {kvs : List (Key × D)}, KVD K Z vs kvs → KVD K Z (vs ++ [(k, v)]) (kvs ++ [(k, d)])
  | _, _, .nil => .cons ⟨rfl, h⟩ .nil
  | _, _, .cons r t => .cons r (KVD_snoc k h t)
theorem KVD_put {Z : Hp} (k : Key) {v : V} {d : D} (h : Dp K Z v d) {vs : List (Key × V)} {kvs : List (Key × D)} (r : KVD K Z vs kvs) : KVD K Z (putK vs k v) (putD kvs k d) := by
  unfold putK putD
  rw [KVD_any k r]
  by_cases c : (kvs.any fun kv => decide (kv.1 = k)) = true
  · rw [if_pos c, if_pos c]; exact KVD_map k h r
  · rw [if_neg c, if_neg c]; exact KVD_snoc k h r
theorem KVD_length {Z : Hp} : ∀ {vs : List (Key × V)} {kvs : List (Key × D)}, KVD K Z vs kvs → vs.length = kvs.length
  | _, _, .nil => rfl
  | _, _, .cons _ t => congrArg (· + 1) (KVD_length t)
/-- a dict of one's own changes -/
theorem St.mutD {B Z0 Z H : Hp} {σ : L2.St} {ρ : SEnv} (x : St K B Z0 Z H σ ρ) {i : Nat} {ds : List (Key × D)} (e : get ρ i = .dic ds) : ∃ p vs, σ[i]? = some (some (.ref p)) ∧ H p = some (.dK vs) ∧ KVD K Z vs ds ∧
    ∀ {Z' H' : Hp}, Step Z H Z' H' → H' p = some (.dK vs) ∧ ∀ vs' ds', KVD K Z' vs' ds' → St K B Z0 Z' (upd H' p (.dK vs')) σ (put ρ i (.dic ds')) := by
  obtain ⟨st, len, fp, h1, h2, h3⟩ := id x
  have hi := h1 i
  rw [e] at hi
  obtain ⟨p, vs, ef, hv, hp, hd⟩ := hi
  refine ⟨p, vs, look_some hv, hp, hd, fun {Z' H'} k => ⟨k.bh _ _ hp, fun vs' ds' hd' => ?_⟩⟩
  have y := x.step k
  have hB : B p = none := (h3 i p (by rw [ef]; simp)).1
  have hil : i < ρ.length := by
    by_cases c : i < ρ.length
    · exact c
    · rw [get_out _ _ (by omega)] at e; cases e
  have hZ : ∀ j a, a ∈ fp j → Z' a = none := fun j a ha => by
    cases q : Z' a with
    | none => rfl
    | some o =>
      rcases k.gr a (by rw [q]; intro z; cases z) with z | z
      · exact absurd (h3 j a ha).2 z
      · exact absurd z ((h1 j).live a ha)
  have hZp : Z' p = none := hZ i p (by rw [ef]; simp)
  have st' : StepB B Z0 Z' (upd H' p (.dK vs')) := by
    refine ⟨fun b u eb => ?_, y.st.zz, fun b u eb => ?_, y.st.gr⟩
    · rw [upd_ne (ne_of_none eb hB)]; exact y.st.bh b u eb
    · rw [upd_ne (ne_of_none eb hZp)]; exact y.st.zh b u eb
  have := St.sets (K := K) (σ := σ) (ρ := ρ) (i := i) (s := .dic ds') (o := look σ i) (fpn := [p]) (fp := fp) st' len (fun j hj => (h1 j).mono (Same.refl B) k.zz fun a ha => ?_) (fun j l a _ _ => h2 j l a) (fun j a _ ha => ⟨(h3 j a ha).1, hZ j a ha⟩)
    ⟨p, vs', rfl, hv, upd_same, hd'⟩ (fun a ha => by rw [List.mem_singleton.mp ha]; exact ⟨hB, hZp⟩) (fun j a hj ha q => h2 j i a hj q (by rw [ef]; exact ha)) hil
  · rw [set_look (by rw [len]; exact hil)] at this
    exact this
  · have hne : a ≠ p := fun z => h2 j i a hj ha (by rw [ef, z]; simp)
    rw [upd_ne hne]
    cases q : H a with
    | none => exact absurd q ((h1 j).live a ha)
    | some o => exact k.bh a o q
/-- a dict, one's own or borrowed -/
def kvsOf : Sl → Option (List (Key × D))
  | .dic k => some k
  | .bdc k => some k
  | _ => none
@[simp] theorem kvsOf_dic (k : List (Key × D)) : kvsOf (.dic k) = some k := rfl
@[simp] theorem kvsOf_bdc (k : List (Key × D)) : kvsOf (.bdc k) = some k := rfl
theorem kvsOf_ok {H0 Z H : Hp} {v : V} {s : Sl} {kvs : List (Key × D)} (h : vlR K H0 Z H v s) (e : kvsOf s = some kvs) : ∃ p vs, v = .ref p ∧ H p = some (.dK vs) ∧ KVD K Z vs kvs := by
  obtain ⟨fp, h1, h2⟩ := h
  cases s with
  | dic es => cases e; obtain ⟨p, vs, _, hx, hp, hd⟩ := h1; cases hx; exact ⟨p, vs, rfl, hp, hd⟩
  | bdc es => cases e; obtain ⟨_, p, vs, hx, hp, hd⟩ := h1; cases hx; exact ⟨p, vs, rfl, hp, hd⟩
  | _ => cases e
end
section
variable {X : Cx} {E : WX}
/-- {} -/
def eDnew : SEnv → Option Sl := fun _ => some (.dic [])
theorem pd_dnew {pos : Pos} : PD X (.Dict [] [] pos) eDnew := PE_imp pe_dnewK fun σ H Q ⟨B, Z0, Z, ρ, s, x, e, k⟩ => by
  cases e
  intro p hp
  exact k _ _ _ (Step.newH x.zh hp) ⟨[p], ⟨p, [], rfl, rfl, upd_same, .nil⟩, fun a ha => by rw [List.mem_singleton.mp ha]; exact ⟨hp, none_back x.zh hp⟩⟩
/-- d[k] = v -/
def sSetDk (j : Nat) (fi fe : SEnv → Option Sl) : SEnv → Option Out := fun ρ => match get ρ j, (fe ρ).bind toD, fi ρ with
  | .dic kvs, some d, some (.pl kd) => match keyD kd with
    | some k => if kvs.length < 100000 then some (.nx (put ρ j (.dic (putD kvs k d)))) else none
    | none => none
  | _, _, _ => none
theorem sd_setDk (j : Nat) {x : Str} {e i : Expr} {fe fi : SEnv → Option Sl} {p tpos pos : Pos} {n : Nat} (hr : Room n X.A) (hv : PE X (.Name x p) (tVar j)) (hi : PD X i fi) (he : PD X e fe) (hs : swapsWith e (some (.Subscript (.Name x p) i tpos)) pos.line X.env = pure false := by rfl) :
    SD X E (.Assign [.Subscript (.Name x p) i tpos] e pos) (sSetDk j fi fe) := PS_imp (ps_dput (by have := hr.units; omega) hv hi he hs) fun D σ H ⟨B, Z0, Z, ρ, o, x, e, k⟩ => by
  unfold sSetDk at e
  split at e
  · rename_i kvs d kd q1 q2 q3
    split at e
    · rename_i kk qk
      by_cases c : kvs.length < 100000
      · rw [if_pos c] at e
        cases e
        obtain ⟨p, vs, hv, hp, hd, km⟩ := x.mutD q1
        cases qf : fe ρ with
        | none => rw [qf] at q2; cases q2
        | some s =>
          rw [qf] at q2
          refine er1 x qf fun v Z' H' k' r => ?_
          obtain ⟨Z2, k2, zz, hvd⟩ := toD_ok k' r q2
          refine ⟨_, hv, er1 (x.step k2) q3 fun w Z3 H3 k3 r3 => ?_⟩
          have hw := keyD_ok r3.data qk
          subst hw
          obtain ⟨hp', km'⟩ := km (k2.trans k3)
          exact ⟨p, _, rfl, DPut.k hp' (by rw [sizeLine_eq, KVD_length hd]; omega), k Z3 σ _ (km' _ _ (KVD_put kk (Dp_mono k3.zz _ _ hvd) (KVD_mono (k2.trans k3).zz hd)))⟩
      · rw [if_neg c] at e; cases e
    · cases e
  · cases e
/-- k in d, k not in d -/
def tDin2 (b : Bool) (fk fd : SEnv → Option Sl) : SEnv → Option Bool := fun ρ => match fk ρ, (fd ρ).bind kvsOf with
  | some (.pl kd), some kvs => (keyD kd).map fun k => (valD kvs k).isSome != b
  | _, _ => none
theorem din_core {b : Bool} {fk fd : SEnv → Option Sl} {σ : L2.St} {H : Hp} {Q : VK} {B Z0 Z : Hp} {ρ : SEnv} {c : Bool} (x : St X.K B Z0 Z H σ ρ) (e : tDin2 b fk fd ρ = some c) (k : ∀ Z' H', Step Z H Z' H' → Q (.bl c) H') :
    ER X.K fk σ H fun y H1 => ER X.K fd σ H1 fun z H2 => ∃ a o, z = .ref a ∧ DGet H2 a y o ∧ Q (.bl (o.isSome != b)) H2 := by
  unfold tDin2 at e
  split at e
  · rename_i kd kvs q1 q2
    cases qd : fd ρ with
    | none => rw [qd] at q2; cases q2
    | some s =>
      rw [qd] at q2
      cases qk : keyD kd with
      | none => rw [qk] at e; cases e
      | some kk =>
        rw [qk] at e
        cases e
        refine er2 x q1 qd fun v w Z' H' k' r1 r2 => ?_
        have hw := keyD_ok r1.data qk
        subst hw
        obtain ⟨p, vs, rfl, hp, hd⟩ := kvsOf_ok r2 q2
        refine ⟨p, _, rfl, DGet.k hp, ?_⟩
        have : (valV vs kk).isSome = (valD kvs kk).isSome := by
          rcases KVD_val kk hd with ⟨h1, h2⟩ | ⟨_, _, h1, h2, _⟩ <;> rw [h1, h2] <;> rfl
        rw [this]
        exact k Z' H' k'
  · cases e
theorem td_din {i o : Expr} {fk fd : SEnv → Option Sl} {pos : Pos} {n : Nat} (hr : Room n X.A) (hi : PD X i fk) (ho : PD X o fd) (hm : behindInMarks .In o = false := by rfl) : TD X (.Compare i [.In] [o] pos) (tDin2 false fk fd) :=
  PT_imp (pt_cmp (pc_din (by have := hr.units; omega) hi ho) hm) fun σ H Q ⟨B, Z0, Z, ρ, c, x, e, k⟩ => by
    have := din_core (Q := fun v H' => ∃ d, v = .bl d ∧ Q d H') x e fun Z' H' k' => ⟨c, rfl, k Z' H' k'⟩
    simp only [Bool.bne_false] at this
    exact this
theorem td_dnotin {i o : Expr} {fk fd : SEnv → Option Sl} {pos : Pos} {n : Nat} (hr : Room n X.A) (hi : PD X i fk) (ho : PD X o fd) (hm : behindInMarks .NotIn o = false := by rfl) : TD X (.Compare i [.NotIn] [o] pos) (tDin2 true fk fd) :=
  PT_imp (pt_cmp (pc_dnotin (by have := hr.units; omega) hi ho) hm) fun σ H Q ⟨B, Z0, Z, ρ, c, x, e, k⟩ => by
    have := din_core (Q := fun v H' => ∃ d, v = .bl d ∧ Q d H') x e fun Z' H' k' => ⟨c, rfl, k Z' H' k'⟩
    simp only [Bool.bne_true] at this
    exact this
/-- d.get(k) -/
def eDGet1 (fd fk : SEnv → Option Sl) : SEnv → Option Sl := fun ρ => match (fd ρ).bind kvsOf, fk ρ with
  | some kvs, some (.pl kd) => (keyD kd).map fun k => .pl ((valD kvs k).getD .none)
  | _, _ => none
theorem pd_dget1 {o e : Expr} {fd fk : SEnv → Option Sl} {apos cpos : Pos} {n : Nat} (hr : Room n X.A) (ho : PD X o fd) (he : PD X e fk) (m : M1 X o "get" apos e cpos := by exact ⟨by rfl, by rfl, by rfl, by rfl⟩) : PD X (.Call (.Attribute o "get" apos) [e] [] cpos) (eDGet1 fd fk) :=
  PE_imp (pe_dget1 (by have := hr.units; omega) ho he m) fun σ H Q ⟨B, Z0, Z, ρ, s, x, e, k⟩ => by
    unfold eDGet1 at e
    split at e
    · rename_i kvs kd q1 q2
      cases qd : fd ρ with
      | none => rw [qd] at q1; cases q1
      | some t =>
        rw [qd] at q1
        cases qk : keyD kd with
        | none => rw [qk] at e; cases e
        | some kk =>
          rw [qk] at e
          cases e
          refine er1 x qd fun v Z1 H1 k1 r1 => ?_
          obtain ⟨p, vs, rfl, hp, hd⟩ := kvsOf_ok r1 q1
          refine ⟨p, rfl, .inl ⟨vs, .inl hp⟩, er1 (x.step k1) q2 fun w Z2 H2 k2 r2 => ?_⟩
          have hw := keyD_ok r2.data qk
          subst hw
          refine ⟨_, DGet.k (k2.bh _ _ hp), ?_⟩
          rcases KVD_val kk hd with ⟨h1, h2⟩ | ⟨v', d', h1, h2, h3⟩
          · dsimp only at k; rw [h2] at k; rw [h1]; exact k _ Z2 H2 (k1.trans k2) (vlR.pl .non)
          · dsimp only at k; rw [h2] at k; rw [h1]; exact k _ Z2 H2 (k1.trans k2) (vlR.pl (Dp_mono k2.zz _ _ h3))
    · cases e
/-- len(d) -/
def lenDF : List Sl → Option Sl := fun ss => match ss with | [s] => (kvsOf s).map fun kvs => .pl (.int (kvs.length : Int)) | _ => none
theorem ok_lenD {K : PySem.W.Frag} : BuiOK K (fun xs H Q => ∃ a kvs, xs = [V.ref a] ∧ H a = some (.dK kvs) ∧ Q (.int kvs.length) H) lenDF := bui1 (F := fun s => (kvsOf s).map fun kvs => .pl (.int (kvs.length : Int))) fun Z H v s t Q zh r e k => by
  change (kvsOf s).map _ = some t at e
  cases q : kvsOf s with
  | none => rw [q] at e; cases e
  | some kvs =>
    rw [q] at e
    cases e
    obtain ⟨p, vs, rfl, hp, hd⟩ := kvsOf_ok r q
    exact ⟨p, vs, rfl, hp, by rw [KVD_length hd]; exact k _ Z H (Step.refl zh) (vlR.pl (.int _))⟩
theorem pd_lenD {p pos : Pos} {e : Expr} {a : SEnv → Option Sl} (hg : Gl X "len") (hm : X.mg "len" = none) (ha : PD X e a) (h1 : starEach [e] X.env = (false, eval e X.env) :: starEach [] X.env := by rfl) : PD X (.Call (.Name "len" p) [e] [] pos) (eBui lenDF (aCons a aNil)) :=
  pd_callB call_lenD ok_lenD hg hm PySem.boot_len (ad_cons ha ad_nil h1) (by decide) (by decide) h1 rfl
/-! ### a borrowed list, or data, under another name -/
def alsOf : Sl → Option Sl
  | .pl d => some (.pl d)
  | .brw ds => some (.brw ds)
  | .bdc ds => some (.bdc ds)
  | _ => none
def sAls (i j : Nat) : SEnv → Option Out := fun ρ => (alsOf (get ρ j)).map fun s => .nx (put ρ i s)
theorem sd_als {i j : Nat} {x y : Str} {pos pos' p2 : Pos} (hN : X.N.Nodup) (hi : X.N[i]? = some x) (hx : Loc X.env.scope x) (he : PE X (.Name y p2) (tVar j)) (hs : swapsWith (.Name y p2) (some (.Name x pos')) pos.line X.env = pure false := by rfl) (hf : X.fn x = true ∨ X.env.scope.names.lookup x = some .local := by first | exact .inl rfl | exact .inr rfl | assumption) :
    SD X E (.Assign [.Name x pos'] (.Name y p2) pos) (sAls i j) := PS_imp (ps_set hN hi hx he hs hf) fun D σ H ⟨B, Z0, Z, ρ, o, x, e, k⟩ => by
  unfold sAls at e
  cases q : alsOf (get ρ j) with
  | none => rw [q] at e; cases e
  | some s =>
    rw [q] at e
    cases e
    obtain ⟨st, len, fp, h1, h2, h3⟩ := id x
    have hj := h1 j
    have hv : ∃ v, look σ j = some v ∧ slR X.K B Z H s (some v) [] := by
      cases c : get ρ j with
      | pl d => rw [c] at hj q; cases q; obtain ⟨_, y, b, d⟩ := hj; exact ⟨y, b, rfl, y, rfl, d⟩
      | brw ds => rw [c] at hj q; cases q; obtain ⟨_, p, vs, b, hp, d⟩ := hj; exact ⟨_, b, rfl, p, vs, rfl, hp, d⟩
      | bdc ds => rw [c] at hj q; cases q; obtain ⟨_, p, vs, b, hp, d⟩ := hj; exact ⟨_, b, rfl, p, vs, rfl, hp, d⟩
      | _ => rw [c] at q; cases q
    obtain ⟨v, e1, r⟩ := hv
    exact ⟨v, look_some e1, k Z _ H (x.set (Step.refl x.zh) i ⟨[], r, fun _ h => nomatch h⟩)⟩
/-! ### x = f(xs, ..): the list xs is handed over -/
def allPl : List Sl → Bool
  | [] => true
  | .pl _ :: r => allPl r
  | .tk _ :: r => allPl r
  | _ => false
@[simp] theorem allPl_nil : allPl [] = true := rfl
@[simp] theorem allPl_tk (d : List D) (r : List Sl) : allPl (.tk d :: r) = allPl r := rfl
@[simp] theorem allPl_cons (d : D) (r : List Sl) : allPl (.pl d :: r) = allPl r := rfl
def sMovC (i j : Nat) (F : Fn) (a : SEnv → Option (List Sl)) : SEnv → Option Out := fun ρ => match get ρ j, a ρ with
  | .own ds, some ss => if allPl ss = true then match F (.own ds :: ss) with
      | some (.ret s) => (sto s).map fun t => .nx (put (put ρ j .un) i t)
      | _ => none
    else none
  | _, _ => none
def hide (H : Hp) (p : Addr) : Hp := fun a => if a = p then none else H a
theorem hide_same (H : Hp) (p : Addr) : hide H p p = none := if_pos rfl
theorem hide_ne {H : Hp} {p a : Addr} (h : a ≠ p) : hide H p a = H a := if_neg h
theorem hide_le (H : Hp) (p : Addr) : Same (hide H p) H := fun a o e => by
  by_cases c : a = p
  · rw [c, hide_same] at e; cases e
  · rw [hide_ne c] at e; exact e
theorem allPl_slot {K : PySem.W.Frag} {B B' Z H : Hp} : ∀ {vs : List V} {ss : List Sl}, AllB K Z H vs ss → allPl ss = true → ∀ i, slR K B Z H (get ss i) (vs[i]?) []
  | [], [], _, _, _ => rfl
  | v :: vs, s :: ss, h, e, i => by
    cases s with
    | pl d =>
      cases i with
      | zero => exact h.1
      | succ i => exact allPl_slot (B' := B') h.2 e i
    | tk d =>
      cases i with
      | zero => exact h.1
      | succ i => exact allPl_slot (B' := B') h.2 e i
    | _ => cases e
  | [], _ :: _, h, _, _ => h.elim
  | _ :: _, [], h, _, _ => h.elim
theorem AllB_len {K : PySem.W.Frag} {Z H : Hp} : ∀ {vs : List V} {ss : List Sl}, AllB K Z H vs ss → vs.length = ss.length
  | [], [], _ => rfl
  | _ :: _, _ :: _, h => congrArg (· + 1) (AllB_len h.2)
  | [], _ :: _, h => h.elim
  | _ :: _, [], h => h.elim
theorem movC_core {i j : Nat} {F : Fn} {a : SEnv → Option (List Sl)} {D : Ends} {σ : L2.St} {H : Hp} {E1 : XK} (hw : SR X.K E (sMovC i j F a) D σ H) : tAsg (tCall (FSp X.K F) [] E1 (tCons (tVar j) (AR X.K a))) (gName i) D σ H := by
  obtain ⟨B, Z0, Z, ρ, o, x, e, k⟩ := hw
  unfold sMovC at e
  split at e
  · rename_i ds ss q1 q2
    by_cases ca : allPl ss = true
    · rw [if_pos ca] at e
      split at e
      · rename_i s qF
        cases qs : sto s with
        | none => rw [qs] at e; cases e
        | some t =>
          rw [qs] at e
          cases e
          obtain ⟨p, vs, hv, hp, hd, _⟩ := x.mut q1
          refine ⟨_, hv, B, Z0, Z, ρ, ss, x, q2, fun ws Z' H' k' r => ?_⟩
          have y := x.step k'
          obtain ⟨st, len, fp, h1, h2, h3⟩ := y
          have hj := h1 j
          rw [q1] at hj
          obtain ⟨p', vs', ef, hv', hp', hd'⟩ := hj
          have ep : p' = p := by
            have := look_some hv'
            rw [hv] at this
            cases this
            rfl
          subst ep
          have hB : B p' = none := (h3 j p' (by rw [ef]; simp)).1
          have hZ : Z' p' = none := (h3 j p' (by rw [ef]; simp)).2
          have hjl : j < ρ.length := by
            by_cases c : j < ρ.length
            · exact c
            · rw [get_out _ _ (by omega)] at q1; cases q1
          have zhide : Same Z' H' := st.zh
          refine ⟨hide H' p', Z', .own ds :: ss, .ret s, hide_le H' p', zhide, ⟨?_, fun n => match n with | 0 => [p'] | _ + 1 => [], ?_, ?_, ?_⟩, qF, ?_⟩
          · show ((V.ref p' :: ws) ++ []).length = (Sl.own ds :: ss).length
            rw [List.append_nil, List.length_cons, List.length_cons, AllB_len r]
          · intro n
            rw [List.append_nil]
            cases n with
            | zero => exact ⟨p', vs', rfl, rfl, hp', hd'⟩
            | succ n => exact allPl_slot (B' := H') r ca n
          · intro m n b hmn hb
            cases m with
            | zero => cases n with
              | zero => exact absurd rfl hmn
              | succ n => exact fun q => nomatch q
            | succ m => exact nomatch hb
          · intro m b hb
            cases m with
            | zero => rw [List.mem_singleton.mp hb]; exact ⟨hide_same _ _, hZ⟩
            | succ m => exact nomatch hb
          · intro v Z2 H2 k2 ⟨fp', hs, hn⟩
            have hlive : ∀ l b, l ≠ j → b ∈ fp l → hide H' p' b ≠ none := fun l b hl hb => by
              have hne : b ≠ p' := fun z => h2 l j b hl hb (by rw [ef, z]; simp)
              rw [hide_ne hne]
              exact (h1 l).live b hb
            have keep : ∀ l b, l ≠ j → b ∈ fp l → H2 b = H' b := fun l b hl hb => by
              cases q : hide H' p' b with
              | none => exact absurd q (hlive l b hl hb)
              | some u => rw [k2.bh b u q, hide_le H' p' b u q]
            have zfree : ∀ l b, l ≠ j → b ∈ fp l → Z2 b = none := fun l b hl hb => by
              cases q : Z2 b with
              | none => rfl
              | some u =>
                rcases k2.gr b (by rw [q]; intro z; cases z) with z | z
                · exact absurd (h3 l b hb).2 z
                · exact absurd z (hlive l b hl hb)
            have bhide : ∀ b, hide H' p' b = none → B b = none := fun b hb => by
              by_cases c : b = p'
              · rw [c]; exact hB
              · rw [hide_ne c] at hb; exact none_back st.bh hb
            have st2 : StepB B Z0 Z2 H2 := by
              refine ⟨fun b u eb => ?_, st.zz.trans k2.zz, k2.zh, fun b hb => ?_⟩
              · have := st.bh b u eb
                refine k2.bh b u ?_
                rw [hide_ne (ne_of_none eb hB)]; exact this
              · rcases k2.gr b hb with z | z
                · exact st.gr b z
                · exact .inr (bhide b z)
            by_cases hi : i < ρ.length
            · refine k Z2 _ H2 (St.sets (fp := sw fp j []) (σ := σ) (ρ := put ρ j .un) (i := i) (fpn := fp') st2 (by rw [put_length, len]) (fun l hl => ?_) (fun l m b hl hm hlm hb => ?_) (fun l b hl hb => ?_) (?_) (fun b hb => ⟨bhide b (hn b hb).1, (hn b hb).2⟩) (fun l b hl hb q => ?_) (by rw [put_length]; exact hi))
              · by_cases c : l = j
                · subst c
                  rw [sw_same, get_put_same _ _ _ hjl]
                  exact rfl
                · rw [sw_ne _ _ c, get_put_ne _ _ _ _ (Ne.symm c)]
                  exact (h1 l).mono (Same.refl B) k2.zz fun b hb => keep l b c hb
              · by_cases c : l = j
                · subst c; rw [sw_same] at hb; cases hb
                · rw [sw_ne _ _ c] at hb
                  by_cases c2 : m = j
                  · subst c2; rw [sw_same]; exact fun q => nomatch q
                  · rw [sw_ne _ _ c2]; exact h2 l m b hlm hb
              · by_cases c : l = j
                · subst c; rw [sw_same] at hb; cases hb
                · rw [sw_ne _ _ c] at hb; exact ⟨(h3 l b hb).1, zfree l b c hb⟩
              · exact sto_slR hs qs
              · by_cases c : l = j
                · subst c; rw [sw_same] at q; cases q
                · rw [sw_ne _ _ c] at q; exact hlive l b c q (hn b hb).1
            · have y2 : St X.K B Z0 Z2 H2 σ (put ρ j .un) := by
                have := St.sets (fp := fp) (σ := σ) (ρ := ρ) (i := j) (s := .un) (o := look σ j) (fpn := []) st2 len (fun l hl => (h1 l).mono (Same.refl B) k2.zz fun b hb => keep l b hl hb) (fun l m b _ _ => h2 l m b) (fun l b hl hb => ⟨(h3 l b hb).1, zfree l b hl hb⟩) rfl (fun _ h => nomatch h) (fun _ _ _ h => nomatch h) hjl
                rw [set_look (by rw [len]; exact hjl)] at this
                exact this
              have e1 : put (put ρ j .un) i t = put ρ j .un := put_out _ _ _ (by rw [put_length]; omega)
              have e2 : σ.set i (some v) = σ := List.set_eq_of_length_le (by rw [len]; omega)
              have k9 : ∀ Z σ H, St X.K B Z0 Z H σ (put (put ρ j .un) i t) → D.nx σ H := k
              rw [e1] at k9
              show D.nx (σ.set i (some v)) H2
              rw [e2]
              exact k9 Z2 _ H2 y2
      · cases e
    · rw [if_neg ca] at e; cases e
  · cases e
theorem sd_movC {i j : Nat} {k : Nat} {f : Addr} {fd : FuncData} {ps : List Str} {x y z : Str} {p p2 pos pos' spos : Pos} {e : Expr} {es : List Expr} {F : Fn} {a : SEnv → Option (List Sl)} (hN : X.N.Nodup) (hi : X.N[i]? = some z) (hx : Loc X.env.scope z)
    (G : FnOk X.prog X.w X.K X.mg X.base L2.CX0 k f fd ps (FSp X.K F)) (hr : Room k X.A) (hg : Gl X x) (hm : X.mg x = some (.ref f)) (hk : PySem.W.keepIn X.K (.ref f) = true) (hb : Binds X.K fd ps []) (hv : PE X (.Name y p2) (tVar j)) (ha : AD X (e :: es) a)
    (hdb : (x == ("__debug__" : Str)) = false := by decide) (h1 : starEach (.Name y p2 :: e :: es) X.env = (false, eval (.Name y p2) X.env) :: starEach (e :: es) X.env := by rfl) (h2 : ((backTo pos (starEach (e :: es) X.env)).any fun x => x.fst) = false := by rfl)
    (hs : swapsWith (.Call (.Name x p) (.Name y p2 :: e :: es) [] pos) (some (.Name z pos')) spos.line X.env = pure false := by rfl) (hf : X.fn z = true ∨ X.env.scope.names.lookup z = some .local := by first | exact .inl rfl | exact .inr rfl | assumption) :
    SD X E (.Assign [.Name z pos'] (.Call (.Name x p) (.Name y p2 :: e :: es) [] pos) spos) (sMovC i j F a) :=
  PS_imp (ps_set hN hi hx (pe_call G hr hg hm hk hb .nil (L2.pass0 (X := X)) (pa_cons hv ha h1) hdb h1 h2) hs hf) fun D σ H hw => movC_core hw
end
/-! ### sorted -/
theorem srt_uniq {α : Type} {le : α → α → Prop} (anti : ∀ a b, le a b → le b a → a = b) {l m : List α} (h1 : l.Pairwise le) (h2 : m.Pairwise le) (h : l.Perm m) : l = m := List.Perm.eq_of_pairwise (fun a b _ _ => anti a b) h1 h2 h
def sortI (l : List Int) : List Int := l.mergeSort fun a b => decide (a ≤ b)
theorem sortI_perm (l : List Int) : (sortI l).Perm l := List.mergeSort_perm _ _
theorem sortI_srt (l : List Int) : (sortI l).Pairwise (· ≤ ·) := (List.pairwise_mergeSort (le := fun a b : Int => decide (a ≤ b)) (fun a b c h1 h2 => by simp only [decide_eq_true_eq] at *; omega) (fun a b => by simp only [Bool.or_eq_true, decide_eq_true_eq]; omega) l).imp fun h => of_decide_eq_true h
theorem sortI_uniq {l m : List Int} (h1 : m.Pairwise (· ≤ ·)) (h : m.Perm l) : m = sortI l := srt_uniq (le := (· ≤ ·)) (fun _ _ => Int.le_antisymm) h1 (sortI_srt l) (h.trans (sortI_perm l).symm)
def leP (p q : Int × Int) : Prop := p.1 < q.1 ∨ (p.1 = q.1 ∧ p.2 ≤ q.2)
theorem leP_trans {a b c : Int × Int} (h1 : leP a b) (h2 : leP b c) : leP a c := by
  unfold leP at *
  omega
theorem leP_total (a b : Int × Int) : leP a b ∨ leP b a := by
  unfold leP
  omega
instance (p q : Int × Int) : Decidable (leP p q) := by unfold leP; infer_instance
def sortP (l : List (Int × Int)) : List (Int × Int) := l.mergeSort fun a b => decide (leP a b)
theorem sortP_perm (l : List (Int × Int)) : (sortP l).Perm l := List.mergeSort_perm _ _
theorem sortP_srt (l : List (Int × Int)) : (sortP l).Pairwise leP := (List.pairwise_mergeSort (le := fun a b : Int × Int => decide (leP a b)) (fun a b c h1 h2 => decide_eq_true (leP_trans (of_decide_eq_true h1) (of_decide_eq_true h2))) (fun a b => by rcases leP_total a b with h | h <;> simp [h]) l).imp fun h => of_decide_eq_true h
theorem sortP_uniq {l m : List (Int × Int)} (h1 : m.Pairwise leP) (h : m.Perm l) : m = sortP l := srt_uniq (le := leP) (fun a b h1 h2 => by
  obtain ⟨a1, a2⟩ := a
  obtain ⟨b1, b2⟩ := b
  simp only [leP] at h1 h2
  have e1 : a1 = b1 := by omega
  have e2 : a2 = b2 := by omega
  rw [e1, e2]) h1 (sortP_srt l) (h.trans (sortP_perm l).symm)
section
variable {X : Cx}
def sortedIS (s : Sl) : Option Sl := ((litems s).bind intsD).map fun ns => .own ((sortI ns).map PyData.int)
def sortedIF : List Sl → Option Sl := fun ss => match ss with | [s] => sortedIS s | _ => none
theorem ints_Dp' {K : PySem.W.Frag} {Z : Hp} : ∀ ns : List Int, DpAll K Z (ns.map V.int) (ns.map PyData.int)
  | [] => .nil
  | n :: ns => .cons (.int n) (ints_Dp' ns)
theorem ok_sortedI {K : PySem.W.Frag} : BuiOK K (rSortedI K) sortedIF := bui1 (F := sortedIS) fun Z H v s t Q zh r e k => by
  unfold sortedIS at e
  cases qi : litems s with
  | none => rw [qi] at e; cases e
  | some ds =>
    rw [qi] at e
    cases qn : intsD ds with
    | none => simp only [Option.bind, qn] at e; cases e
    | some ns =>
      simp only [Option.bind, qn] at e
      cases e
      obtain ⟨p, vs, rfl, hq, hd⟩ := litems_ok r zh qi
      have := ints_ok hd qn
      subst this
      refine ⟨p, ns, rfl, hq, fun ns' l h1 h2 hl => ?_⟩
      have := sortI_uniq h2 h1
      subst this
      obtain ⟨k2, r2⟩ := vlR.newL zh hl (ints_Dp' (sortI ns))
      exact k _ _ _ k2 r2
theorem pd_sortedI {p pos : Pos} {e : Expr} {a : SEnv → Option Sl} (hg : Gl X "sorted") (hm : X.mg "sorted" = none) (ha : PD X e a) (h1 : starEach [e] X.env = (false, eval e X.env) :: starEach [] X.env := by rfl) : PD X (.Call (.Name "sorted" p) [e] [] pos) (eBui sortedIF (aCons a aNil)) :=
  pd_callB cr_sortedI ok_sortedI hg hm (by decide +kernel) (ad_cons ha ad_nil h1) (by decide) (by decide) h1 rfl
/-- of pairs of ints -/
def rSortedPT (K : PySem.W.Frag) : List V → Hp → VK → Prop := fun vs H Q => ∃ (a : Addr) (xs : List V) (ps : List (Int × Int)), vs = [V.ref a] ∧ SqL K H a xs ∧ Paired (fun x (p : Int × Int) => ∃ t, x = V.ref t ∧ SqT K H t [.int p.1, .int p.2]) xs ps ∧
  ∀ (zs : List (V × (Int × Int))) (p : Addr), zs.Perm (xs.zip ps) → (zs.map (·.2)).Pairwise leP → H p = none → Q (.ref p) (upd H p (.lst (zs.map (·.1))))
theorem Paired_mem {α β : Type} {F : α → β → Prop} : ∀ {xs : List α} {ys : List β}, Paired F xs ys → ∀ x ∈ xs, ∃ y ∈ ys, F x y
  | _, _, .cons r t, x, h => by
    rcases List.mem_cons.mp h with e | h
    · rw [e]; exact ⟨_, List.mem_cons_self .., r⟩
    · obtain ⟨y, hy, q⟩ := Paired_mem t x h
      exact ⟨y, List.mem_cons_of_mem _ hy, q⟩
theorem zip_fun {α β : Type} {F : α → β → Prop} (k : α → β) : ∀ {xs : List α} {ys : List β}, Paired F xs ys → (∀ x y, F x y → k x = y) → xs.zip ys = xs.map fun x => (x, k x)
  | _, _, .nil, _ => rfl
  | _, _, .cons r t, h => by rw [List.zip_cons_cons, List.map_cons, zip_fun k t h, h _ _ r]
open Classical in
noncomputable def pairOf (K : PySem.W.Frag) (H : Hp) (x : V) : Int × Int := if h : ∃ p : Int × Int, ∃ t, x = V.ref t ∧ SqT K H t [.int p.1, .int p.2] then Classical.choose h else (0, 0)
theorem cr_sortedPT : CallR X (.builtin "sorted") (rSortedPT X.K) := by
  intro pins s σ H vs us Q I r h
  obtain ⟨a, xs, ps, rfl, hs, hx, q⟩ := h
  obtain ⟨its, rv, hl, hz⟩ := I.list hs
  obtain ⟨u, rfl, ru⟩ := vals1 r
  obtain rfl : u = Value.ref a := ru
  have hk : ∀ (x : V) (p : Int × Int), (∃ t, x = V.ref t ∧ SqT X.K H t [.int p.1, .int p.2]) → pairOf X.K H x = p := fun x p h => by
    have h0 : ∃ p : Int × Int, ∃ t, x = V.ref t ∧ SqT X.K H t [.int p.1, .int p.2] := ⟨p, h⟩
    have e : pairOf X.K H x = Classical.choose h0 := dif_pos h0
    obtain ⟨t, e1, e2⟩ := Classical.choose_spec h0
    obtain ⟨t', e3, e4⟩ := h
    rw [e1] at e3
    cases e3
    have := I.tuple_inj e2 e4
    rw [e]
    generalize Classical.choose h0 = z at this
    obtain ⟨z1, z2⟩ := z
    obtain ⟨p1, p2⟩ := p
    cases this
    rfl
  obtain ⟨e1, e2⟩ := refs_back rv fun x m => by
    obtain ⟨_, _, t, e, _⟩ := Paired_mem hx x m
    exact ⟨t, e⟩
  refine SrtO.sorted_pairsO (k := fun u => pairOf X.K H (backV u)) hl.isList (by rw [← rv.length]; exact hz) (fun v hv => ?_) fun h' d out h1 h2 kp hd hn => ?_
  · obtain ⟨t, rfl⟩ := e2 v hv
    have hm : V.ref t ∈ xs := by rw [e1]; exact List.mem_map.mpr ⟨_, hv, rfl⟩
    obtain ⟨p, _, hp⟩ := Paired_mem hx _ hm
    have ek := hk _ _ hp
    obtain ⟨t', e, ht⟩ := hp
    cases e
    obtain ⟨its2, r2, ⟨o, ho, hc, n, hd⟩, _⟩ := I.tuple ht
    obtain ⟨u1, u2, rfl, ri, rj⟩ := vals2 r2
    obtain ⟨t1, rfl⟩ := ri
    obtain ⟨t2, rfl⟩ := rj
    have ek' : pairOf X.K H (backV (.ref t)) = p := ek
    rw [ek']
    exact ⟨t, o, t1, t2, n, rfl, ho, hc, hd⟩
  · have h3 : ∀ u ∈ out, ∃ a, u = Value.ref a := fun u hu => e2 u (h2.perm.mem_iff.mp hu)
    obtain ⟨n, hn⟩ := hn
    have hp : (out.map backV).Perm xs := by rw [e1]; exact h2.perm.map backV
    let zs : List (V × (Int × Int)) := (out.map backV).map fun x => (x, pairOf X.K H x)
    have z1 : zs.map (·.1) = out.map backV := by
      show ((out.map backV).map fun x => (x, pairOf X.K H x)).map (·.1) = _
      rw [List.map_map]
      exact List.map_id _
    have := q zs d (by rw [zip_fun (pairOf X.K H) hx hk]; exact hp.map _) (by
      show (((out.map backV).map fun x => (x, pairOf X.K H x)).map (·.2)).Pairwise leP
      rw [List.map_map, List.map_map, List.pairwise_map]
      refine h1.imp fun {x y} h => ?_
      have := SrtO.lexB_no.mp h
      show leP (pairOf X.K H (backV x)) (pairOf X.K H (backV y))
      unfold leP
      omega) (I.hok.fresh hd)
    rw [z1] at this
    refine ⟨.ref d, upd H d (.lst (out.map backV)), I.laid (t' := s.toks) kp hd ⟨?_, out, n, vals_back h3, hn⟩, rfl, this⟩
    rw [hp.length_eq]
    exact hz
def ipD : Int × Int → D := fun p => .tuple [.int p.1, .int p.2]
def prsD : List D → Option (List (Int × Int))
  | [] => some []
  | .tuple [.int i, .int j] :: r => (prsD r).map ((i, j) :: ·)
  | _ => none
@[simp] theorem prsD_map (l : List (Int × Int)) : prsD (l.map ipD) = some l := by
  induction l with
  | nil => rfl
  | cons p l ih => show (prsD (l.map ipD)).map (_ :: ·) = _; rw [ih]; rfl
theorem prs_ok : ∀ {ds : List D} {ps : List (Int × Int)}, prsD ds = some ps → ds = ps.map ipD
  | [], _, e => by cases e; rfl
  | d :: ds, ps, e => by
    unfold prsD at e
    split at e
    · rename_i h; cases h
    · rename_i i j r h
      cases h
      cases q : prsD ds with
      | none => rw [q] at e; cases e
      | some l => rw [q] at e; cases e; rw [prs_ok q]; rfl
    · cases e
theorem prs_paired {K : PySem.W.Frag} {Z H : Hp} (zh : Same Z H) : ∀ {vs : List V} {ps : List (Int × Int)}, DpAll K Z vs (ps.map ipD) → Paired (fun x (p : Int × Int) => ∃ t, x = V.ref t ∧ SqT K H t [.int p.1, .int p.2]) vs ps
  | _, [], .nil => .nil
  | _, p :: ps, .cons r t => by
    refine .cons ?_ (prs_paired zh t)
    cases r with
    | tup q s =>
      cases s with
      | cons r1 s =>
        cases s with
        | cons r2 s =>
          cases s
          cases r1
          cases r2
          exact ⟨_, rfl, sqT_mono zh q⟩
theorem DpAll_zip {K : PySem.W.Frag} {Z : Hp} : ∀ {vs : List V} {ps : List (Int × Int)}, DpAll K Z vs (ps.map ipD) → ∀ z ∈ vs.zip ps, Dp K Z z.1 (ipD z.2)
  | _, [], .nil, z, h => nomatch h
  | _, p :: ps, .cons r t, z, h => by
    rw [List.zip_cons_cons] at h
    rcases List.mem_cons.mp h with e | h
    · rw [e]; assumption
    · exact DpAll_zip t z h
theorem DpAll_of_mem {K : PySem.W.Frag} {Z : Hp} : ∀ zs : List (V × (Int × Int)), (∀ z ∈ zs, Dp K Z z.1 (ipD z.2)) → DpAll K Z (zs.map (·.1)) ((zs.map (·.2)).map ipD)
  | [], _ => .nil
  | z :: zs, h => .cons (h z (List.mem_cons_self ..)) (DpAll_of_mem zs fun y hy => h y (List.mem_cons_of_mem _ hy))
def sortedPS (s : Sl) : Option Sl := ((litems s).bind prsD).map fun ps => .own ((sortP ps).map ipD)
def sortedPF : List Sl → Option Sl := fun ss => match ss with | [s] => sortedPS s | _ => none
theorem zip_snd {α β : Type} : ∀ {xs : List α} {ys : List β}, xs.length = ys.length → (xs.zip ys).map (·.2) = ys
  | [], [], _ => rfl
  | _ :: _, _ :: _, h => by rw [List.zip_cons_cons, List.map_cons, zip_snd (by simpa using h)]
  | [], _ :: _, h => by simp at h
  | _ :: _, [], h => by simp at h
theorem ok_sortedP {K : PySem.W.Frag} : BuiOK K (rSortedPT K) sortedPF := bui1 (F := sortedPS) fun Z H v s t Q zh r e k => by
  unfold sortedPS at e
  cases qi : litems s with
  | none => rw [qi] at e; cases e
  | some ds =>
    rw [qi] at e
    cases qn : prsD ds with
    | none => simp only [Option.bind, qn] at e; cases e
    | some ps =>
      simp only [Option.bind, qn] at e
      cases e
      obtain ⟨p, vs, rfl, hq, hd⟩ := litems_ok r zh qi
      have := prs_ok qn
      subst this
      refine ⟨p, vs, ps, rfl, hq, prs_paired zh hd, fun zs l h1 h2 hl => ?_⟩
      have e1 : zs.map (·.2) = sortP ps := by
        refine sortP_uniq h2 ?_
        have := h1.map (·.2)
        rw [zip_snd (by rw [DpAll_length hd, List.length_map])] at this
        exact this
      have hd2 := DpAll_of_mem (K := K) (Z := Z) zs fun z hz => DpAll_zip hd z (h1.mem_iff.mp hz)
      rw [e1] at hd2
      obtain ⟨k2, r2⟩ := vlR.newL zh hl hd2
      exact k _ _ _ k2 r2
theorem pd_sortedP {p pos : Pos} {e : Expr} {a : SEnv → Option Sl} (hg : Gl X "sorted") (hm : X.mg "sorted" = none) (ha : PD X e a) (h1 : starEach [e] X.env = (false, eval e X.env) :: starEach [] X.env := by rfl) : PD X (.Call (.Name "sorted" p) [e] [] pos) (eBui sortedPF (aCons a aNil)) :=
  pd_callB cr_sortedPT ok_sortedP hg hm (by decide +kernel) (ad_cons ha ad_nil h1) (by decide) (by decide) h1 rfl
/-! ### x in xs, flat items -/
def flatD : D → Bool
  | .none => true
  | .bool _ => true
  | .int _ => true
  | .str _ => true
  | _ => false
/-- as Python's == has it of flat things -/
def eqF : D → D → Bool
  | .none, .none => true
  | .bool a, .bool b => a == b
  | .int a, .int b => a == b
  | .str a, .str b => a == b
  | .bool a, .int b => (if a then 1 else 0) == b
  | .int a, .bool b => a == (if b then 1 else 0)
  | _, _ => false
theorem flat_ok {K : PySem.W.Frag} {Z : Hp} {v : V} {d : D} (h : Dp K Z v d) (e : flatD d = true) : flatV v = true := by
  cases h <;> first | rfl | cases e
theorem flats_ok {K : PySem.W.Frag} {Z : Hp} : ∀ {vs : List V} {ds : List D}, DpAll K Z vs ds → ds.all flatD = true → vs.all flatV = true
  | _, _, .nil, _ => rfl
  | _, _, .cons r t, e => by
    rw [List.all_cons, Bool.and_eq_true] at e ⊢
    exact ⟨flat_ok r e.1, flats_ok t e.2⟩
theorem eqF_ok {K : PySem.W.Frag} {Z Z' : Hp} {v w : V} {d e : D} (h : Dp K Z v d) (h' : Dp K Z' w e) (f1 : flatD d = true) (f2 : flatD e = true) : eqV v w = eqF d e := by
  cases h <;> first | (cases f1; done) | skip
  all_goals (cases h' <;> first | (cases f2; done) | rfl)
theorem eqFs_ok {K : PySem.W.Frag} {Z Z' : Hp} {w : V} {e : D} (h' : Dp K Z' w e) (f2 : flatD e = true) : ∀ {vs : List V} {ds : List D}, DpAll K Z vs ds → ds.all flatD = true → inV w vs = ds.any fun y => eqF y e
  | _, _, .nil, _ => rfl
  | _, _, .cons r t, f => by
    rw [List.all_cons, Bool.and_eq_true] at f
    have := eqFs_ok h' f2 t f.2
    unfold inV at this ⊢
    rw [List.any_cons, List.any_cons, eqF_ok r h' f.1 f2, this]
def inFn (neg : Bool) (d : D) (ds : List D) : Option Bool := if flatD d = true ∧ ds.all flatD = true then some ((ds.any fun y => eqF y d) != neg) else none
def tInS (neg : Bool) (fa fb : SEnv → Option Sl) : SEnv → Option Bool := fun ρ => match fa ρ, (fb ρ).bind items with
  | some (.pl d), some ds => inFn neg d ds
  | _, _ => none
theorem ins_core {neg : Bool} {fa fb : SEnv → Option Sl} {σ : L2.St} {H : Hp} {Q : VK} {B Z0 Z : Hp} {ρ : SEnv} {c : Bool} (x : St X.K B Z0 Z H σ ρ) (e : tInS neg fa fb ρ = some c) (k : ∀ Z' H', Step Z H Z' H' → Q (.bl c) H') : tOp (rIn X.K neg) (ER X.K fa) (ER X.K fb) σ H Q := by
  unfold tInS at e
  split at e
  · rename_i d ds q1 q2
    cases qb : fb ρ with
    | none => rw [qb] at q2; cases q2
    | some s =>
      rw [qb] at q2
      unfold inFn at e
      by_cases cf : flatD d = true ∧ ds.all flatD = true
      · rw [if_pos cf] at e
        cases e
        refine er2 x q1 qb fun v w Z' H' k' r1 r2 => ?_
        obtain ⟨p, vs, rfl, hq, hd⟩ := items_ok r2 k'.zh q2
        refine ⟨p, vs, rfl, hq, flat_ok r1.data cf.1, flats_ok hd cf.2, ?_⟩
        have := eqFs_ok r1.data cf.1 hd cf.2
        rw [this]
        have e2 : (if neg = true then !ds.any fun y => eqF y d else ds.any fun y => eqF y d) = ((ds.any fun y => eqF y d) != neg) := by
          cases neg <;> cases (ds.any fun y => eqF y d) <;> rfl
        rw [e2]
        exact k Z' H' k'
      · rw [if_neg cf] at e; cases e
  · cases e
theorem td_in {a b : Expr} {fa fb : SEnv → Option Sl} {pos : Pos} (ha : PD X a fa) (hb : PD X b fb) (hm : behindInMarks .In b = false := by rfl) : TD X (.Compare a [.In] [b] pos) (tInS false fa fb) :=
  PT_imp (pt_cmpR op_in_seq ha hb hm) fun σ H Q ⟨B, Z0, Z, ρ, c, x, e, k⟩ => ins_core (Q := fun v H' => ∃ d, v = .bl d ∧ Q d H') x e fun Z' H' k' => ⟨c, rfl, k Z' H' k'⟩
theorem td_notin {a b : Expr} {fa fb : SEnv → Option Sl} {pos : Pos} (ha : PD X a fa) (hb : PD X b fb) (hm : behindInMarks .NotIn b = false := by rfl) : TD X (.Compare a [.NotIn] [b] pos) (tInS true fa fb) :=
  PT_imp (pt_cmpR op_notIn_seq ha hb hm) fun σ H Q ⟨B, Z0, Z, ρ, c, x, e, k⟩ => ins_core (Q := fun v H' => ∃ d, v = .bl d ∧ Q d H') x e fun Z' H' k' => ⟨c, rfl, k Z' H' k'⟩
theorem pd_in {a b : Expr} {fa fb : SEnv → Option Sl} {pos : Pos} (ha : PD X a fa) (hb : PD X b fb) (hm : behindInMarks .In b = false := by rfl) : PD X (.Compare a [.In] [b] pos) (eB (tInS false fa fb)) :=
  PE_imp (pe_cmpR op_in_seq ha hb hm) fun σ H Q ⟨B, Z0, Z, ρ, s, x, e, k⟩ => by
    unfold eB at e
    cases q : tInS false fa fb ρ with
    | none => rw [q] at e; cases e
    | some c =>
      rw [q] at e
      cases e
      exact ins_core x q fun Z' H' k' => k _ Z' H' k' (vlR.pl (.bl c))
theorem pd_notin {a b : Expr} {fa fb : SEnv → Option Sl} {pos : Pos} (ha : PD X a fa) (hb : PD X b fb) (hm : behindInMarks .NotIn b = false := by rfl) : PD X (.Compare a [.NotIn] [b] pos) (eB (tInS true fa fb)) :=
  PE_imp (pe_cmpR op_notIn_seq ha hb hm) fun σ H Q ⟨B, Z0, Z, ρ, s, x, e, k⟩ => by
    unfold eB at e
    cases q : tInS true fa fb ρ with
    | none => rw [q] at e; cases e
    | some c =>
      rw [q] at e
      cases e
      exact ins_core x q fun Z' H' k' => k _ Z' H' k' (vlR.pl (.bl c))
end
end DL

set_option Elab.async false
set_option linter.all false
set_option maxRecDepth 100000
set_option maxHeartbeats 1000000
/-! DLR: list(reversed(xs)). -/
namespace DLR
open PySem PySem.Spec PyProof.Rows RT
section
variable {prog : Program} {w : World} {A : Around} {E : Value → Shared → Prop} {s : Shared}
theorem extend_rev {R : Result → Shared → Prop} {it l : Addr} {items : Array Value} (hh : A.handled = none) (hit : s.heap.IsRevIter it l ((items.size : Int) - 1)) (hl : s.heap.IsList l items) (hne : l ≠ it) (hn : items.size ≤ sizeLine)
    (S : Addr) (res : Value) (c₀ : Nat) (hS : s.heap.get? S = some { cls := .type "list", data := .seq #[] c₀ }) (hSi : S ≠ it) (hSl : S ≠ l)
    (hR : ∀ h' tk acc' c', (∀ b o, b ≠ S → b ≠ it → s.heap.get? b = some o → h'.get? b = some o) → h'.get? S = some { cls := .type "list", dict := none, data := .seq acc' c', slots := #[] } →
      ItemsOf (fun i v => items[items.size - 1 - i]? = some v) acc' items.size → R (.ok (.ret res)) { s with heap := h', toks := tk }) :
    wpAny (model prog w) A.in1 (Builtin.List.listExtendWith (.ref S) (.ref it) res)
      (fun fin s' => match fin with | .done f => R (.ok f) s' | .again c' => c'.quiet = true ∧ codeAny (model prog w) A c' R s') (fun e s' => R (.error e) s') s := by
  have W := (Walks.listRev (prog := prog) (w := w) (A := A.in1) hh it l hne items).toS
  have hSf : S ∉ [it, l] := by simp only [List.mem_cons, List.not_mem_nil, or_false, not_or]; exact ⟨hSi, hSl⟩
  have hT : s.TypeIs (.ref it) "list_reverseiterator" := hit.typeIs
  have h1 : Builtin.List.listSameRef (.ref S) (.ref it) = false := by simp [Builtin.List.listSameRef, hSi]
  unfold Builtin.List.listExtendWith
  refine wpAny_bind (wpAny_typeOf hT ?_)
  rw [if_neg (by rw [h1]; decide)]
  refine wpAny_bind (wpAny_pyIter_revIter hit ?_)
  refine wpAny_bind (wpAny_holding ?_)
  unfold Builtin.List.listLengthHint
  refine wpAny_bind (wpAny_specialOf hT nolen_lri ?_)
  show wpAny _ A.in1 (specialOf (Value.ref it) (Str.ofString "__length_hint__") >>= _) _ _ _
  refine wpAny_bind (wpAny_specialOf hT hint_lri ?_)
  generalize hid : ("list_reverseiterator.__length_hint__" : String) = id0
  wp_delta
  rw [show splitId id0 = some ("list_reverseiterator", "__length_hint__") from by subst hid; decide +kernel]
  subst hid
  refine wpAny_bind (wpAny_isInstance (b := true) hT (by rw [isSubtype_type]; kernel_rfl) ?_)
  refine wpAny_pure ?_
  rw [if_neg (by decide)]
  have e0 : ((items.size : Nat) : Int) - 1 - ((0 : Nat) : Int) = (items.size : Int) - 1 := by omega
  refine wpAny_pure ⟨plainId_quiet F.plain_extend_loop _, codeAny_extend_loopS W hn _ hSf _ items.size 0 _ _ _ rfl (Nat.zero_le _) ⟨Nat.zero_le _, by rw [e0]; exact hit, hl⟩ hS (ItemsOf.nil _) fun s' acc' c' hm hS' hacc => ?_⟩
  rw [Moved.eq_with hm]
  refine hR s'.heap s'.toks acc' c' (fun b o hb hb2 e => hm.heap b o (fun hmem => ?_) e) hS' hacc
  rcases List.mem_cons.mp hmem with e' | hmem
  · exact hb e'
  · exact hb2 (List.mem_singleton.mp hmem)
theorem list_init_rev {R : Result → Shared → Prop} {it l : Addr} {items : Array Value} (hh : A.handled = none) (hit : s.heap.IsRevIter it l ((items.size : Int) - 1)) (hl : s.heap.IsList l items) (hne : l ≠ it) (hn : items.size ≤ sizeLine)
    (S : Addr) (hS : s.heap.get? S = some { cls := .type "list", data := .seq #[] }) (hSi : S ≠ it) (hSl : S ≠ l)
    (hR : ∀ h' tk acc' c', (∀ b o, b ≠ S → b ≠ it → s.heap.get? b = some o → h'.get? b = some o) → h'.get? S = some { cls := .type "list", dict := none, data := .seq acc' c', slots := #[] } →
      ItemsOf (fun i v => items[items.size - 1 - i]? = some v) acc' items.size → R (.ok (.ret .none)) { s with heap := h', toks := tk }) :
    wpAny (model prog w) A.in1 (Builtin.«list.__init__» ⟨[.ref S, .ref it], []⟩)
      (fun fin s' => match fin with | .done f => R (.ok f) s' | .again c' => c'.quiet = true ∧ codeAny (model prog w) A c' R s') (fun e s' => R (.error e) s') s := by
  show wpAny _ _ (do let old ← Builtin.List.listItems (.ref S); Builtin.List.listUpdate (.ref S) (fun _ => #[]); letGo old.toList.reverse; Builtin.List.listExtendWith (.ref S) (.ref it) .none) _ _ s
  refine wpAny_bind ?_
  unfold Builtin.List.listItems
  refine wpAny_bind (wpAny_seqItems hS rfl (wpAny_pure ?_))
  show wpAny _ _ (updateSeq S (fun _ => #[]) >>= fun _ => letGo (#[] : Array Value).toList.reverse >>= fun _ => Builtin.List.listExtendWith (.ref S) (.ref it) .none) _ _ s
  refine wpAny_bind (wpAny_updateSeq hS rfl ?_)
  have hS₂ := Heap.get?_update_self (Obj.mapSeq (fun _ => (#[] : Array Value))) hS rfl
  have oth : ∀ b o, b ≠ S → s.heap.get? b = some o → (s.heap.update S (Obj.mapSeq (fun _ => (#[] : Array Value)))).get? b = some o :=
    fun b o hb e => (Heap.get?_update_other _ _ (Ne.symm hb)).trans e
  refine wpAny_bind (wpAny_letGo ?_)
  refine extend_rev (s := { s with heap := s.heap.update S (Obj.mapSeq (fun _ => (#[] : Array Value))) }) hh (hit.at fun o e => oth it o (Ne.symm hSi) e) ?_ hne hn S .none _ hS₂ hSi hSl fun h' tk acc' c' hk hS' hacc => ?_
  · obtain ⟨o, ho, r⟩ := hl
    exact ⟨o, oth l o (Ne.symm hSl) ho, r⟩
  · exact hR h' tk acc' c' (fun b o hb hb2 e => hk b o hb hb2 (oth b o hb e)) hS' hacc
theorem call_list_rev {it l : Addr} {items : Array Value} {Q : Value → Shared → Prop} (hh : A.handled = none) (hit : s.heap.IsRevIter it l ((items.size : Int) - 1)) (hl : s.heap.IsList l items) (hne : l ≠ it) (hn : items.size ≤ sizeLine)
    (hQ : ∀ h' tk acc' c', (∀ b o, b ≠ it → s.heap.get? b = some o → h'.get? b = some o) →
      h'.get? s.heap.objs.size = some { cls := .type "list", dict := none, data := .seq acc' c', slots := #[] } → ItemsOf (fun i v => items[items.size - 1 - i]? = some v) acc' items.size → Q (.ref s.heap.objs.size) { s with heap := h', toks := tk }) :
    wpAny (model prog w) A (call (.type "list") [.ref it]) Q E s := by
  refine callType_codes (Q₁ := fun obj s₁ => obj = .ref s.heap.objs.size ∧ s₁ = { s with heap := s.heap.push { cls := .type "list", data := .seq #[] } }) F.called_list (F.typeCall_list_1 _) F.entry_list_init
    (code_list_new _ ⟨rfl, rfl⟩) fun obj s₁ h₁ => ?_
  obtain ⟨rfl, rfl⟩ := h₁
  have hS : (s.heap.push { cls := .type "list", data := .seq #[] }).get? s.heap.objs.size = some { cls := .type "list", data := .seq #[] } := Heap.get?_push_size _ rfl
  obtain ⟨oi, hoi, _⟩ := id hit
  obtain ⟨ol, hol, _⟩ := id hl
  refine ⟨⟨_, hS, rfl⟩, F.args_list_init_2 _ _, list_init_rev (s := { s with heap := s.heap.push { cls := .type "list", data := .seq #[] } }) (A := A.in1) hh (hit.at fun o e => Heap.get?_push_of_some _ e) (hl.push _) hne hn _ hS (Nat.ne_of_gt (Heap.lt_size hoi)) (Nat.ne_of_gt (Heap.lt_size hol)) fun h' tk acc' c' hk hS' hacc => ?_⟩
  exact ⟨rfl, hQ h' tk acc' c' (fun b o hb e => hk b o (Nat.ne_of_lt (Heap.lt_size e)) hb (Heap.get?_push_of_some _ e)) hS' hacc⟩
end
end DLR
namespace DL
open PySem PySem.Spec PyProof.Rows L2
section
variable {X : Cx}
def tListRev (K : PySem.W.Frag) (te : TE) : TE := fun σ H Q => te σ H fun x H1 => ∃ a xs, x = .ref a ∧ SqL K H1 a xs ∧ ∀ q, H1 q = none → Q (.ref q) (upd H1 q (.lst xs.reverse))
theorem pe_listRev {e : Expr} {te : TE} {p p2 pos pos2 : Pos} (hc : X.calm = true) (hg : Gl X "list") (hm : X.mg "list" = none) (hg2 : Gl X "reversed") (hm2 : X.mg "reversed" = none) (he : PE X e te)
    (hs : starEach [e] X.env = (false, eval e X.env) :: starEach [] X.env := by rfl)
    (hs2 : starEach [.Call (.Name "reversed" p2) [e] [] pos2] X.env = (false, eval (.Call (.Name "reversed" p2) [e] [] pos2) X.env) :: starEach [] X.env := by rfl) :
    PE X (.Call (.Name "list" p) [.Call (.Name "reversed" p2) [e] [] pos2] [] pos) (tListRev X.K te) := by
  refine ⟨fun pins s σ H Q I h => ?_⟩
  refine Call_ (ld_blt I hg hm boot_list (PyProof.Rows.callWith_type1 (args_cons (Call_ (ld_blt I hg2 hm2 PyProof.Rows.boot_reversed (PyProof.Rows.callWith_type1 (args_cons (thn (he.run pins s σ H _ I h) fun u s1 ⟨v, H1, I1, r1, q1⟩ => args_nil ?_) hs) hs rfl))) hs2) hs2 rfl))
  obtain ⟨a, xs, ev, hq, q⟩ := q1
  subst ev
  obtain rfl : u = Value.ref a := r1
  obtain ⟨its, rv, p', hz⟩ := I1.list hq
  refine call_reversed_list p'.isList (args_nil ?_)
  have k0 : ∀ b o, s1.heap.get? b = some o → (s1.heap.push (revObj a ((its.toArray.size : Int) - 1))).get? b = some o := fun b o e => Heap.get?_push_of_some _ e
  have I2 : Inv X pins σ H1 { s1 with heap := s1.heap.push (revObj a ((its.toArray.size : Int) - 1)) } := I1.kept (t' := s1.toks) k0
  obtain ⟨f0, f1, f2, f3, f4, f5⟩ := I1.fpOk (H' := H1) (b := s1.heap.objs.size) (Nat.le_refl _) (I1.hok.fresh (Nat.le_refl _))
  have hl := p'.isList
  obtain ⟨ol, hol, _⟩ := id hl
  have hne : a ≠ s1.heap.objs.size := Nat.ne_of_lt (Heap.lt_size hol)
  have hn : its.toArray.size ≤ sizeLine := by rw [List.size_toArray, ← rv.length]; exact hz
  refine DLR.call_list_rev (s := { s1 with heap := s1.heap.push (revObj a ((its.toArray.size : Int) - 1)) }) (I1.ok.hd hc) ⟨_, Heap.get?_push_size _ rfl, rfl, rfl⟩ (hl.push _) hne hn fun h' tk acc c' hk e' hi => ?_
  have hF := I1.fpOk (H' := H1) (b := s1.heap.objs.size) (Nat.le_refl _) (I1.hok.fresh (Nat.le_refl _))
  have hfr : H1 (s1.heap.push (revObj a ((its.toArray.size : Int) - 1))).objs.size = none := I2.hok.fresh (Nat.le_refl _)
  refine ⟨.ref (s1.heap.push (revObj a ((its.toArray.size : Int) - 1))).objs.size, upd H1 (s1.heap.push (revObj a ((its.toArray.size : Int) - 1))).objs.size (.lst xs.reverse), ?_, rfl, q _ hfr⟩
  refine I2.turnedNew (t' := tk) (ch := [s1.heap.objs.size]) (fun b o hb e => hk b o (fun z => hb (by simp [z])) e) (fun b hb => by rw [List.mem_singleton.mp hb]; exact hF) (Nat.le_refl _) (show ObjOk X.prog X.w _ _ _ (.lst xs.reverse) from ⟨by rw [List.length_reverse]; exact hz, acc.toList, c', RT.vals_rev rv hi, ?_⟩)
  rw [Array.toArray_toList]
  exact e'
/-- list(reversed(xs)) -/
def revF (s : Sl) : Option Sl := (litems s).map fun ds => .own ds.reverse
def eListRev (a : SEnv → Option Sl) : SEnv → Option Sl := fun ρ => (a ρ).bind revF
theorem pd_listRev {p pos p2 pos2 : Pos} {e : Expr} {a : SEnv → Option Sl} (hg : Gl X "list") (hm : X.mg "list" = none) (hg2 : Gl X "reversed") (hm2 : X.mg "reversed" = none) (he : PD X e a) (hc : X.calm = true := by rfl) (h1 : starEach [e] X.env = (false, eval e X.env) :: starEach [] X.env := by rfl)
    (h2 : starEach [.Call (.Name "reversed" p2) [e] [] pos2] X.env = (false, eval (.Call (.Name "reversed" p2) [e] [] pos2) X.env) :: starEach [] X.env := by rfl) : PD X (.Call (.Name "list" p) [.Call (.Name "reversed" p2) [e] [] pos2] [] pos) (eListRev a) :=
  PE_imp (pe_listRev hc hg hm hg2 hm2 he h1 h2) fun σ H Q ⟨B, Z0, Z, ρ, s, x, e, k⟩ => by
    unfold eListRev at e
    cases q : a ρ with
    | none => rw [q] at e; cases e
    | some t =>
      rw [q] at e
      change (litems t).map _ = some s at e
      cases qi : litems t with
      | none => rw [qi] at e; cases e
      | some ds =>
        rw [qi] at e
        cases e
        refine er1 x q fun v Z' H' k' r => ?_
        obtain ⟨p, vs, rfl, hq, hd⟩ := litems_ok r k'.zh qi
        refine ⟨p, vs, rfl, hq, fun l hl => ?_⟩
        obtain ⟨k2, r2⟩ := vlR.newL k'.zh hl (DpAll_reverse hd)
        exact k _ _ _ (k'.trans k2) (r2.back k'.bh)
end
end DL

set_option Elab.async false
set_option linter.all false
set_option maxRecDepth 100000
set_option maxHeartbeats 1000000
/-! DLS: zip of tuples; f(a, new list), the list handed over. -/
namespace DL
open PySem PySem.Spec PyProof.Rows L2
section
variable {X : Cx} {E : WX}
/-! ### zip -/
def zipD : List D → List D → List D
  | a :: as, b :: bs => .tuple [a, b] :: zipD as bs
  | _, _ => []
theorem zipD_length : ∀ as bs : List D, (zipD as bs).length = min as.length bs.length
  | [], _ => by simp [zipD]
  | _ :: _, [] => by simp [zipD]
  | a :: as, b :: bs => by rw [zipD, List.length_cons, zipD_length as bs, List.length_cons, List.length_cons]; omega
theorem zipD_get : ∀ {as bs : List D} {i : Nat} {d : D}, (zipD as bs)[i]? = some d → d = .tuple [as.getD i .none, bs.getD i .none]
  | [], _, i, d, h => by simp [zipD] at h
  | _ :: _, [], i, d, h => by simp [zipD] at h
  | a :: as, b :: bs, 0, d, h => by simp [zipD] at h; subst h; rfl
  | a :: as, b :: bs, i + 1, d, h => by
    have := zipD_get (as := as) (bs := bs) (i := i) (d := d) (by simpa [zipD] using h)
    rw [this]
    simp
theorem zipD_lt {as bs : List D} {i : Nat} {d : D} (h : (zipD as bs)[i]? = some d) : i < as.length ∧ i < bs.length := by
  have := (List.getElem?_eq_some_iff.mp h).1
  rw [zipD_length] at this
  omega
theorem walk_zipT {K : PySem.W.Frag} {a b : Addr} {xs ys : List V} {n : Nat} (hn : n = min xs.length ys.length) : Walk (RZ.ItzT K a b) n (fun H => SqT K H a xs ∧ SqT K H b ys) (YPair (fun i => xs[i]?) (fun i => ys[i]?)) := by
  subst hn
  refine ⟨fun i _ hi q => ?_, fun _ q => ⟨xs, ys, q.1, q.2, by omega⟩, fun i H v H' _ q y => ?_⟩
  · have h1 : i < xs.length := by omega
    have h2 : i < ys.length := by omega
    exact ⟨xs, ys, xs[i], ys[i], q.1, q.2, by simp [h1], by simp [h2]⟩
  · obtain ⟨T, x, z, h1, h2, h3, h4, h5⟩ := y
    exact ⟨T, x, z, h1, h2, h3, h4 xs q.1, h5 ys q.2⟩
theorem zip_walk {K : PySem.W.Frag} {B Zs : Hp} {J : It} {G : Hp → Prop} {xs ys : List V} {as bs : List D} (hd : DpAll K Zs xs as) (hd2 : DpAll K Zs ys bs) (w : Walk J (min xs.length ys.length) G (YPair (fun i => xs[i]?) (fun i => ys[i]?))) (hs : ∀ H, Same B H → Same Zs H → G H) : WalkD K B Zs J (zipD as bs) G (YPair (fun i => xs[i]?) (fun i => ys[i]?)) :=
  ⟨by rw [zipD_length, ← DpAll_length hd, ← DpAll_length hd2]; exact w, hs, pair_gives (df := fun i => as.getD i .none) (dg := fun i => bs.getD i .none) (fun i d h => zipD_get h) (fun i v _ h => by
    obtain ⟨d, e, r⟩ := DpAll_get' hd h
    rw [getD_of e]
    exact r) (fun i v _ h => by
    obtain ⟨d, e, r⟩ := DpAll_get' hd2 h
    rw [getD_of e]
    exact r)⟩
def zpT (f g : SEnv → Option Sl) : SEnv → Option (List D) := fun ρ => match f ρ, g ρ with
  | some (.pl (.tuple as)), some (.pl (.tuple bs)) => some (zipD as bs)
  | _, _ => none
theorem ld_zipT {e e2 : Expr} {f g : SEnv → Option Sl} {p pos tpos : Pos} {elts : List Expr} {kk : Nat} (hg : Gl X "zip") (hm : X.mg "zip" = none) (he : PD X e f) (he2 : PD X e2 g) (hs : starEach [e, e2] X.env = (false, eval e X.env) :: starEach [e2] X.env := by rfl) (hs2 : starEach [e2] X.env = (false, eval e2 X.env) :: starEach [] X.env := by rfl) (hpl : (backTo pos (starEach [e2] X.env)).any (·.1) = false := by rfl) : LD X (.Tuple elts kk tpos) (.Call (.Name "zip" p) [e, e2] [] pos) (zpT f g) :=
  PI_imp (RZ.pi_zipA hg hm (ad_cons he (ad_cons he2 ad_nil hs2) hs) hs hpl) fun σ H R ⟨B, Z0, Z, ρ, ds, x, e, k⟩ => by
    unfold zpT at e
    split at e
    · rename_i as bs q1 q2
      cases e
      refine ⟨B, Z0, Z, ρ, [.pl (.tuple as), .pl (.tuple bs)], x, by unfold aCons aNil; rw [q1, q2]; rfl, fun vs Z' H' k' r => ?_⟩
      match vs, r with
      | [v, w], r =>
        obtain ⟨_, y, e1, hd⟩ := r.1
        cases e1
        obtain ⟨_, y, e1, hd2⟩ := r.2.1
        cases e1
        obtain ⟨a, xs, rfl, hq, ha⟩ := titems_ok hd
        obtain ⟨b, ys, rfl, hq2, hb⟩ := titems_ok hd2
        exact ⟨a, b, xs, ys, rfl, .inr ⟨sqT_mono k'.zh hq, sqT_mono k'.zh hq2, k _ _ _ Z' H' k' (zip_walk ha hb (walk_zipT rfl) fun H2 _ c => ⟨sqT_mono c hq, sqT_mono c hq2⟩)⟩⟩
      | [], r => exact r.elim
      | [_], r => exact r.2.elim
      | _ :: _ :: _ :: _, r => exact r.2.2.elim
    · cases e
/-! ### a name that holds a list or a tuple -/
theorem PI_or {tg e : Expr} {t t' : TI} (h : PI X tg e t) (h' : PI X tg e t') : PI X tg e (fun σ H R => t σ H R ∨ t' σ H R) := ⟨fun pins s σ H R I q => q.elim (h.run pins s σ H R I) (h'.run pins s σ H R I)⟩
def vsrcA (i : Nat) : SEnv → Option (List D) := fun ρ => match get ρ i with
  | .pl (.list ds) => some ds
  | .brw ds => some ds
  | .pl (.tuple ds) => some ds
  | _ => none
theorem ld_varA (i : Nat) {tg : Expr} {x : Str} {pos : Pos} (h : PE X (.Name x pos) (tVar i)) (h' : PD X (.Name x pos) (eVar i)) : LD X tg (.Name x pos) (vsrcA i) := PI_imp (PI_or (ld_var i (tg := tg) h) (ld_tup (tg := tg) h')) fun σ H R ⟨B, Z0, Z, ρ, ds, x, e, k⟩ => by
  unfold vsrcA at e
  split at e
  · rename_i es q
    cases e
    exact .inl ⟨B, Z0, Z, ρ, _, x, by unfold vsrc; rw [q], k⟩
  · rename_i es q
    cases e
    exact .inl ⟨B, Z0, Z, ρ, _, x, by unfold vsrc; rw [q], k⟩
  · rename_i es q
    cases e
    exact .inr ⟨B, Z0, Z, ρ, _, x, by unfold eSrc eVar; rw [q]; rfl, k⟩
  · cases e
/-! ### f(a, xs), xs a new list that is handed over -/
def eCallO (F : Fn) (fa fe : SEnv → Option Sl) : SEnv → Option Sl := fun ρ => match fa ρ, fe ρ with
  | some (.pl d), some (.own ds) => match F [.pl d, .own ds] with
    | some (.ret s) => some s
    | _ => none
  | _, _ => none
theorem callO_read {K : PySem.W.Frag} {F : Fn} {fa fe : SEnv → Option Sl} {E : XK} {σ : L2.St} {H : Hp} {Q : VK} (h : ER K (eCallO F fa fe) σ H Q) : tCall (FSp K F) [] E (tCons (ER K fa) (tCons (ER K fe) tNil)) σ H Q := by
  obtain ⟨B, Z0, Z, ρ, s, x, e, k⟩ := h
  unfold eCallO at e
  split at e
  · rename_i d ds q1 q2
    split at e
    · rename_i t qF
      cases e
      refine er1 x q1 fun v Z1 H1 k1 r1 => er1 (x.step k1) q2 fun w Z2 H2 k2 r2 => ?_
      have kk := k1.trans k2
      have hd := Dp_mono k2.zz _ _ r1.data
      obtain ⟨fp, h1, h2⟩ := r2
      refine ⟨H, Z2, [.pl d, .own ds], .ret _, kk.bh, kk.zh, ⟨rfl, fun n => match n with | 1 => fp | _ => [], ?_, ?_, ?_⟩, qF, fun v' Z3 H3 k3 r3 => ?_⟩
      · intro n
        match n with
        | 0 => exact ⟨rfl, v, rfl, hd⟩
        | 1 => exact h1
        | n + 2 => exact rfl
      · intro m n b hmn hb
        match m, n with
        | 1, 0 => exact fun q => nomatch q
        | 1, 1 => exact absurd rfl hmn
        | 1, _ + 2 => exact fun q => nomatch q
        | 0, _ => exact nomatch hb
        | _ + 2, _ => exact nomatch hb
      · intro m b hb
        match m with
        | 1 => exact ⟨none_back k1.bh (h2 b hb).1, (h2 b hb).2⟩
        | 0 => exact nomatch hb
        | _ + 2 => exact nomatch hb
      · refine k v' Z3 H3 ⟨k3.bh, kk.zz.trans k3.zz, k3.zh, fun p hp => ?_⟩ r3
        rcases k3.gr p hp with z | z
        · exact kk.gr p z
        · exact .inr z
    · cases e
  · cases e
theorem pd_callO {k : Nat} {f : Addr} {fd : FuncData} {ps : List Str} {x : Str} {p pos : Pos} {a e : Expr} {F : Fn} {fa fe : SEnv → Option Sl} (G : FnOk X.prog X.w X.K X.mg X.base L2.CX0 k f fd ps (FSp X.K F)) (hr : Room k X.A) (hg : Gl X x) (hm : X.mg x = some (.ref f)) (hk : PySem.W.keepIn X.K (.ref f) = true) (hb : Binds X.K fd ps []) (ha : PD X a fa) (he : PD X e fe)
    (hdb : (x == ("__debug__" : Str)) = false := by decide) (h1 : starEach [a, e] X.env = (false, eval a X.env) :: starEach [e] X.env := by rfl) (h3 : starEach [e] X.env = (false, eval e X.env) :: starEach [] X.env := by rfl) (h2 : ((backTo pos (starEach [e] X.env)).any fun x => x.fst) = false := by rfl) : PD X (.Call (.Name x p) [a, e] [] pos) (eCallO F fa fe) :=
  PE_imp (pe_call G hr hg hm hk hb .nil (L2.pass0 (X := X)) (pa_cons ha (pa_cons he pa_nil h3) h1) hdb h1 h2) fun σ H Q h => callO_read h
end
end DL

set_option Elab.async false
set_option linter.all false
set_option maxRecDepth 100000
set_option maxHeartbeats 1000000
/-! DLQ: more reckoning, for several laws. -/
namespace DL
open PySem PySem.Spec PyProof.Rows L2
theorem at2_0 (a b : D) : atI [a, b] 0 = some a := rfl
theorem at2_1 (a b : D) : atI [a, b] 1 = some b := rfl
theorem at3_0 (a b c : D) : atI [a, b, c] 0 = some a := rfl
theorem at3_1 (a b c : D) : atI [a, b, c] 1 = some b := rfl
theorem at3_2 (a b c : D) : atI [a, b, c] 2 = some c := rfl
theorem at4_0 (a b c d : D) : atI [a, b, c, d] 0 = some a := rfl
theorem at4_1 (a b c d : D) : atI [a, b, c, d] 1 = some b := rfl
theorem at4_2 (a b c d : D) : atI [a, b, c, d] 2 = some c := rfl
theorem at4_3 (a b c d : D) : atI [a, b, c, d] 3 = some d := rfl
theorem litems_brw (ds : List D) : litems (.brw ds) = some ds := rfl
theorem litems_own (ds : List D) : litems (.own ds) = some ds := rfl
theorem litems_list (ds : List D) : litems (.pl (.list ds)) = some ds := rfl
theorem ixN_ok {n : Nat} {i : Int} (h0 : 0 ≤ i) (h : i < n) : ixN n i = some i.toNat := by
  unfold ixN
  rw [if_pos h0]
  have : i.toNat < n := by omega
  simp [this, h]
theorem at_get {α : Type} (enc : α → D) {xs : List α} {k : Nat} {x : α} (h : xs[k]? = some x) : atI (xs.map enc) (k : Int) = some (enc x) := by
  have hk := (List.getElem?_eq_some_iff.mp h).1
  rw [atI_map, atI_lt (by omega) (by omega), Int.toNat_natCast, h]
  rfl
theorem at_int {α : Type} (enc : α → D) {xs : List α} {i : Int} (h0 : 0 ≤ i) (h : i < xs.length) : atI (xs.map enc) i = some (enc (xs[i.toNat]'(by omega))) := by
  rw [atI_map, atI_lt h0 (by omega), List.getElem?_eq_getElem (by omega)]
  rfl
/-- the first place of the kind -/
def firstI {α : Type} (p : α → Bool) : Nat → List α → Option Nat
  | _, [] => none
  | i, x :: xs => if p x then some i else firstI p (i + 1) xs
theorem forD_first {α : Type} {g : GF} {b : SEnv → Option Out} (f : Nat → α → D) (p : α → Bool) (o : Nat → Sl) (ρ : SEnv) : ∀ (xs : List α) (i : Nat), (∀ k x, xs[k]? = some x → ∃ ρ1, g (f (i + k) x) ρ = some ρ1 ∧ b ρ1 = if p x then some (.rt (o (i + k))) else some (.nx ρ)) →
    forD g b (mapI f i xs) ρ = match firstI p i xs with | some k => some (.rt (o k)) | none => some (.nx ρ)
  | [], i, _ => rfl
  | x :: xs, i, h => by
    obtain ⟨ρ1, h1, h2⟩ := h 0 x rfl
    rw [Nat.add_zero] at h1 h2
    rw [mapI, firstI, forD, h1]
    have ih := forD_first (g := g) (b := b) f p o ρ xs (i + 1) fun k y e => by
      have := h (k + 1) y (by simpa using e)
      rw [show i + (k + 1) = i + 1 + k by omega] at this
      exact this
    cases c : p x with
    | true =>
      rw [c] at h2
      simp only [h2, if_true]
    | false =>
      rw [c] at h2
      simp only [h2, Bool.false_eq_true, if_false]
      exact ih
/-- a plain walk over encoded items that goes on, the state told -/
theorem forD_map {α β : Type} {g : GF} {b : SEnv → Option Out} (enc : α → D) (E : β → SEnv) (step : α → β → β) : ∀ (xs : List α) (st : β), (∀ x st, x ∈ xs → ∃ ρ1, g (enc x) (E st) = some ρ1 ∧ (b ρ1 = some (.nx (E (step x st))) ∨ b ρ1 = some (.ct (E (step x st))))) →
    forD g b (xs.map enc) (E st) = some (.nx (E (xs.foldl (fun s x => step x s) st)))
  | [], st, _ => rfl
  | x :: xs, st, h => by
    obtain ⟨ρ1, h1, h2⟩ := h x st (List.mem_cons_self ..)
    have ih := forD_map (g := g) (b := b) enc E step xs (step x st) fun y s hy => h y s (List.mem_cons_of_mem _ hy)
    rw [List.map_cons, List.foldl_cons, ← ih, forD, h1]
    rcases h2 with h2 | h2 <;> simp only [h2]
/-- .. some state, an invariant -/
theorem forD_inv2 {α β : Type} {g : GF} {b : SEnv → Option Out} (enc : α → D) (E : β → SEnv) (I : β → Prop) : ∀ (xs : List α) (st : β), I st → (∀ x st, x ∈ xs → I st → ∃ st', I st' ∧ ∃ ρ1, g (enc x) (E st) = some ρ1 ∧ (b ρ1 = some (.nx (E st')) ∨ b ρ1 = some (.ct (E st')))) →
    ∃ st', I st' ∧ forD g b (xs.map enc) (E st) = some (.nx (E st'))
  | [], st, hI, _ => ⟨st, hI, rfl⟩
  | x :: xs, st, hI, h => by
    obtain ⟨st', hI', ρ1, h1, h2⟩ := h x st (List.mem_cons_self ..) hI
    obtain ⟨st2, hI2, e⟩ := forD_inv2 (g := g) (b := b) enc E I xs st' hI' fun y s hy => h y s (List.mem_cons_of_mem _ hy)
    refine ⟨st2, hI2, ?_⟩
    rw [List.map_cons, forD, h1]
    rcases h2 with h2 | h2 <;> simp only [h2] <;> exact e
/-- .. that may leave with a value told by the item: the first such item -/
theorem forD_leave {α : Type} {g : GF} {b : SEnv → Option Out} (enc : α → D) (p : α → Bool) (o : Sl) (ρ : SEnv) : ∀ xs : List α, (∀ x ∈ xs, ∃ ρ1, g (enc x) ρ = some ρ1 ∧ b ρ1 = if p x then some (.rt o) else some (.nx ρ)) →
    forD g b (xs.map enc) ρ = if xs.any p then some (.rt o) else some (.nx ρ)
  | [], _ => rfl
  | x :: xs, h => by
    obtain ⟨ρ1, h1, h2⟩ := h x (List.mem_cons_self ..)
    have ih := forD_leave (g := g) (b := b) enc p o ρ xs fun y hy => h y (List.mem_cons_of_mem _ hy)
    rw [List.map_cons, List.any_cons, forD, h1]
    cases c : p x with
    | true => rw [c] at h2; simp only [h2, if_true, Bool.true_or]
    | false => rw [c] at h2; simp only [h2, Bool.false_eq_true, if_false, Bool.false_or]; exact ih
/-- a comprehension over encoded items, with a test -/
theorem lcD_fm {α : Type} {g : GF} {t : SEnv → Option Bool} {e : SEnv → Option Sl} (enc : α → D) (p : α → Bool) (v : α → D) (ρ : SEnv) : ∀ xs : List α, (∀ x ∈ xs, ∃ ρ1, g (enc x) ρ = some ρ1 ∧ t ρ1 = some (p x) ∧ (p x = true → ∃ s, e ρ1 = some s ∧ toD s = some (v x))) →
    lcD g t e (xs.map enc) ρ = some ((xs.filter p).map v)
  | [], _ => rfl
  | x :: xs, h => by
    obtain ⟨ρ1, h1, h2, h3⟩ := h x (List.mem_cons_self ..)
    have ih := lcD_fm (g := g) (t := t) (e := e) enc p v ρ xs fun y hy => h y (List.mem_cons_of_mem _ hy)
    rw [List.map_cons, lcD, h1, List.filter_cons]
    cases c : p x with
    | true =>
      rw [c] at h2
      obtain ⟨s, h4, h5⟩ := h3 c
      simp only [h2, h4, Option.bind, h5, ih, if_true, List.map_cons]
    | false =>
      rw [c] at h2
      simp only [h2, ih, Bool.false_eq_true, if_false]
/-- .. without one -/
theorem lcD_m {α : Type} {g : GF} {e : SEnv → Option Sl} (enc : α → D) (v : α → D) (ρ : SEnv) (xs : List α) (h : ∀ x ∈ xs, ∃ ρ1, g (enc x) ρ = some ρ1 ∧ ∃ s, e ρ1 = some s ∧ toD s = some (v x)) : lcD g tYesD e (xs.map enc) ρ = some (xs.map v) := by
  have := lcD_fm (g := g) (t := tYesD) (e := e) enc (fun _ => true) v ρ xs fun x hx => by
    obtain ⟨ρ1, h1, h2⟩ := h x hx
    exact ⟨ρ1, h1, rfl, fun _ => h2⟩
  rw [this, List.filter_eq_self.mpr fun _ _ => rfl]
/-- range(n) as encoded numbers -/
theorem rgD0_map (n : Nat) : rgD 0 n = (List.range n).map fun k => PyData.int (k : Nat) := by
  unfold rgD
  apply List.map_congr_left
  intro k _
  show PyData.int (0 + (k : Int)) = .int (k : Int)
  rw [Int.zero_add]
abbrev nD (k : Nat) : D := .int (k : Nat)
theorem rgD0_nD (n : Nat) : rgD 0 n = (List.range n).map nD := rgD0_map n
theorem sub_bits {x y : Int} (hx : 0 ≤ x) (hy : 0 ≤ y) (h : ∀ k, bt y k = true → bt x k = true) (k : Nat) : bt (x - y) k = (bt x k && !bt y k) := by
  obtain ⟨a, rfl⟩ := Int.eq_ofNat_of_zero_le hx
  obtain ⟨b, rfl⟩ := Int.eq_ofNat_of_zero_le hy
  have e : a &&& b = b := by
    apply Nat.eq_of_testBit_eq
    intro i
    have := h i
    rw [bt_nat, bt_nat] at this
    rw [Nat.testBit_and]
    cases q : b.testBit i with
    | false => rw [Bool.and_false]
    | true => rw [this q, Bool.and_true]
  have hle : b ≤ a := by rw [← e]; exact Nat.and_le_left
  rw [show (a : Int) - (b : Int) = ((a - (a &&& b) : Nat) : Int) by rw [e]; omega, bt_nat, bt_nat, bt_nat]
  exact sub_and_test a b k
theorem eqD_ints_nil (l : List Int) : eqD (.list (l.map PyData.int)) (.list []) = some l.isEmpty := by
  have := eqD_list_nil (n := 0) (ds := l.map PyData.int) (fun d hd => by
    obtain ⟨i, _, rfl⟩ := List.mem_map.mp hd
    exact shD_int i) (by decide)
  rw [List.isEmpty_map] at this
  exact this
theorem shD_ipD (p : Int × Int) : ShD 1 (ipD p) := shD_tuple fun d hd => by
  have : d = .int p.1 ∨ d = .int p.2 := by simpa using hd
  rcases this with e | e <;> rw [e] <;> exact shD_int _
theorem eqD_nil {α : Type} (enc : α → D) (n : Nat) (hn : n + 1 ≤ 64) (l : List α) (h : ∀ x ∈ l, ShD n (enc x)) : eqD (.list (l.map enc)) (.list []) = some l.isEmpty := by
  have := eqD_list_nil (n := n) (ds := l.map enc) (fun d hd => by
    obtain ⟨i, hi, rfl⟩ := List.mem_map.mp hd
    exact h i hi) hn
  rw [List.isEmpty_map] at this
  exact this
theorem neD_nil {α : Type} (enc : α → D) (n : Nat) (hn : n + 1 ≤ 64) (l : List α) (h : ∀ x ∈ l, ShD n (enc x)) : neD (.list (l.map enc)) (.list []) = some !l.isEmpty := by
  unfold neD
  rw [eqD_nil enc n hn l h]
  rfl
theorem eqD_prs_nil (l : List (Int × Int)) : eqD (.list (l.map ipD)) (.list []) = some l.isEmpty := eqD_nil ipD 1 (by decide) l fun p _ => shD_ipD p
theorem shD_nD (k : Nat) : ShD 0 (nD k) := shD_int _
theorem eqD_ns_nil (l : List Nat) : eqD (.list (l.map nD)) (.list []) = some l.isEmpty := eqD_nil nD 0 (by decide) l fun p _ => shD_nD p
theorem neD_ns_nil (l : List Nat) : neD (.list (l.map nD)) (.list []) = some !l.isEmpty := neD_nil nD 0 (by decide) l fun p _ => shD_nD p
theorem eqv_nD (a b : Nat) : PyData.eqv (nD a) (nD b) = decide (a = b) := by
  unfold nD
  rw [eqv_int]
  by_cases c : a = b
  · simp [c]
  · have : ¬ (a : Int) = (b : Int) := by omega
    simp [c, this]
theorem eqD_ns (l m : List Nat) : eqD (.list (l.map nD)) (.list (m.map nD)) = some (decide (l = m)) := by
  rw [eqD_g rfl ((shD_list (n := 0) fun d hd => ?_).shaped (by decide)) ((shD_list (n := 0) fun d hd => ?_).shaped (by decide))]
  · show some (PyData.eqvAll _ _) = _
    rw [eqvAll_map nD eqv_nD]
  · obtain ⟨i, _, rfl⟩ := List.mem_map.mp hd; exact shD_nD i
  · obtain ⟨i, _, rfl⟩ := List.mem_map.mp hd; exact shD_nD i
theorem neD_ns (l m : List Nat) : neD (.list (l.map nD)) (.list (m.map nD)) = some (!decide (l = m)) := by
  unfold neD
  rw [eqD_ns]
  rfl
theorem sumF_ints (l : List Int) : sumF [.brw (l.map PyData.int)] = some (.pl (.int l.sum)) := by
  show sumS _ = _
  unfold sumS
  show ((some (l.map PyData.int)).bind intsD).map _ = _
  rw [opt_bind_some, intsD_map]
  rfl
theorem coll_const {α β : Type} (p : α → Bool) (v : α → β) : ∀ (i : Nat) (xs : List α), collI (fun _ x => p x) (fun _ x => v x) i xs = (xs.filter p).map v
  | _, [] => rfl
  | i, x :: xs => by
    unfold collI
    rw [coll_const p v (i + 1) xs, List.filter_cons]
    cases p x <;> rfl
theorem coll_idx {α : Type} (p : Nat → Bool) : ∀ (i : Nat) (xs : List α), collI (fun k _ => p k) (fun k _ => (k : Int)) i xs = ((List.range' i xs.length).filter p).map (fun k : Nat => (k : Int))
  | _, [] => rfl
  | i, x :: xs => by
    unfold collI
    rw [coll_idx p (i + 1) xs, List.length_cons, List.range'_succ, List.filter_cons]
    cases p i <;> rfl
theorem cutD_map {α β : Type} (f : α → β) (xs : List α) (lo hi : Option Int) : DL.cutD (xs.map f) lo hi = (DL.cutD xs lo hi).map f := by
  unfold DL.cutD
  rw [List.length_map, List.map_take, List.map_drop]
theorem cutD_sub {α : Type} (xs : List α) (lo hi : Option Int) : (DL.cutD xs lo hi).Sublist xs := (List.take_sublist _ _).trans (List.drop_sublist _ _)
theorem slD_brw (ds : List D) (lo hi : Option Int) : slD (.brw ds) lo hi = some (.own (DL.cutD ds lo hi)) := rfl
theorem slD_list (ds : List D) (lo hi : Option Int) : slD (.pl (.list ds)) lo hi = some (.own (DL.cutD ds lo hi)) := rfl
theorem slD_tup (ds : List D) (lo hi : Option Int) : slD (.pl (.tuple ds)) lo hi = some (.pl (.tuple (DL.cutD ds lo hi))) := rfl
/-- // by 1 << w -/
theorem divD_sh {x : Int} {w : Int} (h0 : 0 ≤ w) (h : w < 1000) : divD (.int x) (.int (1 * 2 ^ w.toNat)) = some (.int (x / (1 * 2 ^ w.toNat))) := by
  have hp : (0 : Int) < 2 ^ w.toNat := Int.pow_pos (by decide)
  refine divD_w (b := 1001) (by omega) ?_ (by decide) (by decide)
  rw [Int.one_mul, Int.natAbs_pow]
  exact Nat.pow_lt_pow_right (by decide) (by omega)
theorem divD_shN {x : Int} {k : Nat} (h : k < 1000) : divD (.int x) (.int (1 * 2 ^ k)) = some (.int (x / (1 * 2 ^ k))) := by
  have := divD_sh (x := x) (w := (k : Int)) (by omega) (by omega)
  rw [Int.toNat_natCast] at this
  exact this
theorem bt_div (x : Int) (k : Nat) : (x / (1 * 2 ^ k) % 2 == 1) = bt x k := by
  unfold bt
  rw [Int.one_mul]
theorem bt_div0 (x : Int) (k : Nat) : (x / (1 * 2 ^ k) % 2 == 0) = !bt x k := by
  unfold bt
  rw [Int.one_mul]
  generalize x / 2 ^ k = y
  rcases Int.emod_two_eq y with e | e <;> rw [e] <;> rfl
theorem nodup_filter {α : Type} (p : α → Bool) {l : List α} (h : l.Nodup) : (l.filter p).Nodup := h.sublist List.filter_sublist
theorem perm_sum {l m : List Int} (h : l.Perm m) : l.sum = m.sum := by
  induction h with
  | nil => rfl
  | cons x _ ih => simp [ih]
  | swap x y l => simp; omega
  | trans _ _ h1 h2 => rw [h1, h2]
/-- the powers of places that differ -/
theorem setOf_nodup {l : List Nat} {n : Nat} (hd : l.Nodup) (h : ∀ w ∈ l, w < n) : 0 ≤ setOf l ∧ setOf l < 2 ^ n ∧ ∀ k, bt (setOf l) k = decide (k ∈ l) := by
  have hp : l.Perm ((List.range n).filter fun k => decide (k ∈ l)) := by
    rw [List.perm_ext_iff_of_nodup hd (nodup_filter _ List.nodup_range)]
    intro a
    rw [List.mem_filter, List.mem_range, decide_eq_true_eq]
    exact ⟨fun q => ⟨h a q, q⟩, fun q => q.2⟩
  have e : setOf l = setOf ((List.range n).filter fun k => decide (k ∈ l)) := by
    unfold setOf
    exact perm_sum (hp.map _)
  obtain ⟨h1, h2, h3⟩ := setOf_filter_range (fun k => decide (k ∈ l)) n
  rw [e]
  refine ⟨h1, h2, fun k => ?_⟩
  rw [h3]
  by_cases c : k ∈ l
  · simp [c, h k c]
  · simp [c]
theorem sum_pows (l : List Nat) : (l.map fun w : Nat => (1 : Int) * 2 ^ w).sum = setOf l := by
  unfold setOf
  congr 1
  apply List.map_congr_left
  intro w _
  rw [Int.one_mul]
theorem lt_pow_le {x : Int} {m n : Nat} (h : x < 2 ^ m) (hm : m ≤ n) : x < 2 ^ n := by
  have e1 : (2 : Int) ^ m = ((2 ^ m : Nat) : Int) := by rw [Int.natCast_pow]; rfl
  have e2 : (2 : Int) ^ n = ((2 ^ n : Nat) : Int) := by rw [Int.natCast_pow]; rfl
  have := Nat.pow_le_pow_right (show 0 < 2 by decide) hm
  rw [e1] at h
  rw [e2]
  omega
theorem and_lt {a b : Int} {n : Nat} (h0 : 0 ≤ a) (h : a < 2 ^ n) : Builtin.bitAnd a b < 2 ^ n := bt_lt (and_nonneg (.inl h0)) fun k hk => by rw [bt_and, bt_of_lt h0 h hk, Bool.false_and]
theorem or_lt {a b : Int} {n : Nat} (h0 : 0 ≤ a) (h : a < 2 ^ n) (h1 : 0 ≤ b) (h2 : b < 2 ^ n) : Builtin.bitOr a b < 2 ^ n := bt_lt (or_nonneg h0 h1) fun k hk => by rw [bt_or, bt_of_lt h0 h hk, bt_of_lt h1 h2 hk]; rfl
/-- a set of some of n worlds -/
def Msk (n : Nat) (x : Int) : Prop := 0 ≤ x ∧ x < 2 ^ n
theorem Msk.and {n : Nat} {a : Int} (h : Msk n a) (b : Int) : Msk n (Builtin.bitAnd a b) := ⟨and_nonneg (.inl h.1), and_lt h.1 h.2⟩
theorem Msk.and_r {n : Nat} {a : Int} (h : Msk n a) (b : Int) : Msk n (Builtin.bitAnd b a) := by
  rw [bitAnd_comm]
  exact h.and b
theorem Msk.or {n : Nat} {a b : Int} (h : Msk n a) (h' : Msk n b) : Msk n (Builtin.bitOr a b) := ⟨or_nonneg h.1 h'.1, or_lt h.1 h.2 h'.1 h'.2⟩
theorem Msk.zero (n : Nat) : Msk n 0 := ⟨Int.le_refl 0, pow_pos2 n⟩
theorem Msk.all (n : Nat) : Msk n (1 * 2 ^ n - 1) := by
  have := pow_pos2 n
  unfold Msk
  omega
theorem Msk.mod (n : Nat) (x : Int) : Msk n (x % (1 * 2 ^ n)) := by
  have := pow_pos2 n
  rw [Int.one_mul]
  exact ⟨Int.emod_nonneg _ (by omega), Int.emod_lt_of_pos _ this⟩
theorem Msk.pow {n k : Nat} (h : k < n) : Msk n (1 * 2 ^ k) := by
  have e1 : (2 : Int) ^ k = ((2 ^ k : Nat) : Int) := by rw [Int.natCast_pow]; rfl
  have e2 : (2 : Int) ^ n = ((2 ^ n : Nat) : Int) := by rw [Int.natCast_pow]; rfl
  have := Nat.pow_lt_pow_right (show 1 < 2 by decide) h
  unfold Msk
  rw [Int.one_mul, e1, e2]
  generalize (2 : Nat) ^ k = a at *
  generalize (2 : Nat) ^ n = b at *
  omega
theorem Msk.bit {n : Nat} {x : Int} (h : Msk n x) {k : Nat} (hk : bt x k = true) : k < n := by
  by_cases c : k < n
  · exact c
  · rw [bt_of_lt h.1 h.2 (by omega)] at hk; cases hk
/-- the bits of a set, rising -/
def bitsOf (n : Nat) (x : Int) : List Nat := (List.range n).filter fun k => bt x k
theorem mem_bitsOf {n : Nat} {x : Int} {k : Nat} : k ∈ bitsOf n x ↔ k < n ∧ bt x k = true := by
  unfold bitsOf
  rw [List.mem_filter, List.mem_range]
theorem bitsOf_nodup (n : Nat) (x : Int) : (bitsOf n x).Nodup := nodup_filter _ List.nodup_range
end DL
namespace DL
open PySem PySem.Spec PyProof.Rows L2
/-- None or a number from nought on -/
def oN : Option Nat → D
  | none => .none
  | some k => nD k
theorem oN_none : oN none = .none := rfl
theorem oN_some (k : Nat) : oN (some k) = nD k := rfl
theorem isNoneD_oN (o : Option Nat) : isNoneD (oN o) = o.isNone := by cases o <;> rfl
theorem isi_tup_tup (l : List D) : isiS "tuple" (.pl (.tuple l)) = some true := show kitB "tuple" "tuple" = some true by decide +kernel
theorem isi_list_list (l : List D) : isiS "list" (.pl (.list l)) = some true := show kitB "list" "list" = some true by decide +kernel
theorem isi_list_own (l : List D) : isiS "list" (.own l) = some true := show kitB "list" "list" = some true by decide +kernel
theorem isi_list_brw (l : List D) : isiS "list" (.brw l) = some true := show kitB "list" "list" = some true by decide +kernel
theorem isi_str_str (l : Str) : isiS "str" (.pl (.str l)) = some true := show kitB "str" "str" = some true by decide +kernel
theorem isi_bool_bool (b : Bool) : isiS "bool" (.pl (.bool b)) = some true := show kitB "bool" "bool" = some true by decide +kernel
theorem isi_none_int : isiS "int" (.pl .none) = some false := show kitB "NoneType" "int" = some false by decide +kernel
theorem flat_ns (l : List Nat) : (l.map nD).all flatD = true := List.all_eq_true.mpr fun d hd => by obtain ⟨k, _, rfl⟩ := List.mem_map.mp hd; rfl
theorem any_ns (l : List Nat) (k : Nat) : ((l.map nD).any fun y => eqF y (nD k)) = decide (k ∈ l) := by
  rw [List.any_map]
  by_cases c : k ∈ l
  · rw [decide_eq_true c]
    exact List.any_eq_true.mpr ⟨k, c, by show (((k : Nat) : Int) == ((k : Nat) : Int)) = true; simp⟩
  · rw [decide_eq_false c]
    refine List.any_eq_false.mpr fun j hj e => c ?_
    have e2 : (((j : Nat) : Int) == ((k : Nat) : Int)) = true := e
    have : (j : Int) = (k : Int) := by simpa using e2
    rw [show k = j by omega]
    exact hj
theorem inFn_ns (neg : Bool) (l : List Nat) (k : Nat) : inFn neg (nD k) (l.map nD) = some (decide (k ∈ l) != neg) := by
  unfold inFn
  rw [if_pos ⟨rfl, flat_ns l⟩, any_ns]
theorem inFn_ns' (neg : Bool) (l : List Nat) (k : Nat) : inFn neg (.int (k : Nat)) (l.map nD) = some (decide (k ∈ l) != neg) := inFn_ns neg l k
theorem eqD_oN (o : Option Nat) (m : Nat) : eqD (oN o) (nD m) = some (decide (o = some m)) := by
  cases o with
  | none => rfl
  | some k =>
    show some (((k : Nat) : Int) == ((m : Nat) : Int)) = _
    by_cases c : k = m
    · simp [c]
    · have : ¬ (k : Int) = (m : Int) := by omega
      simp [c, this]
theorem eqD_oN' (o : Option Nat) (m : Nat) : eqD (oN o) (.int (m : Nat)) = some (decide (o = some m)) := eqD_oN o m
/-- the rule of a number -/
def rl (rs : List (Int × Int)) (k : Nat) : Int × Int := rs.getD k (0, 0)
theorem at_rl {rs : List (Int × Int)} {k : Nat} (h : k < rs.length) : atI (rs.map ipD) ((k : Nat) : Int) = some (ipD (rl rs k)) := by
  have : rs[k]? = some (rl rs k) := by
    unfold rl
    simp [List.getD, List.getElem?_eq_getElem h]
  exact at_get ipD this
theorem rl_mem {rs : List (Int × Int)} {k : Nat} (h : k < rs.length) : rl rs k ∈ rs := by
  unfold rl
  simp only [List.getD, List.getElem?_eq_getElem h, Option.getD_some]
  exact List.getElem_mem h
theorem ipD_def (p : Int × Int) : ipD p = .tuple [.int p.1, .int p.2] := rfl
theorem nD_def : True := trivial
/-- a list under a name that may stand for a borrowed one -/
def IsL (S : Sl) (ds : List D) : Prop := S = .brw ds ∨ S = .pl (.list ds) ∨ S = .own ds
theorem vsrc_of {ρ : SEnv} {i : Nat} {S : Sl} {ds : List D} (e : get ρ i = S) (h : S = .brw ds ∨ S = .pl (.list ds)) : vsrc i ρ = some ds := by
  unfold vsrc
  rw [e]
  rcases h with h | h <;> rw [h]
theorem csrc_of {ρ : SEnv} {i : Nat} {S : Sl} {ds : List D} (e : get ρ i = S) (h : IsL S ds) : csrc (eVar i) ρ = some ds := by
  unfold csrc eVar
  rw [e]
  rcases h with h | h | h <;> rw [h] <;> rfl
/-! ### dicts whose keys are small numbers -/
def lookN (kvs : List (Key × D)) (k : Nat) : Option D := valD kvs (.inl (k : Int))
theorem key_nat (a b : Nat) : ((Sum.inl (a : Int) : Key) = Sum.inl (b : Int)) ↔ a = b := ⟨fun h => by have := Sum.inl.inj h; omega, fun h => by rw [h]⟩
theorem valD_put (kvs : List (Key × D)) (k j : Key) (y : D) : valD (putD kvs k y) j = if j = k then some y else valD kvs j := by
  unfold putD
  by_cases c : (kvs.any fun kv => decide (kv.1 = k)) = true
  · rw [if_pos c]
    induction kvs with
    | nil => simp at c
    | cons p r ih =>
      by_cases e : p.1 = k
      · by_cases ej : j = k
        · rw [if_pos ej]
          simp [valD, List.find?_cons, e, ej]
        · rw [if_neg ej]
          have nk : ¬ k = j := fun z => ej z.symm
          by_cases cr : (r.any fun kv => decide (kv.1 = k)) = true
          · have := ih cr
            rw [if_neg ej] at this
            simp only [valD, List.map_cons, e, if_true, List.find?_cons, nk, decide_false] at this ⊢
            exact this
          · have e2 : r.map (fun kv => if kv.1 = k then (kv.1, y) else kv) = r := by
              have hn : ∀ q ∈ r, ¬ q.1 = k := fun q hq z => cr (List.any_eq_true.mpr ⟨q, hq, decide_eq_true z⟩)
              rw [show r.map (fun kv => if kv.1 = k then (kv.1, y) else kv) = r.map id from List.map_congr_left fun q hq => if_neg (hn q hq)]
              exact List.map_id r
            simp only [valD, List.map_cons, e, if_true, List.find?_cons, nk, decide_false, e2]
      · have cr : (r.any fun kv => decide (kv.1 = k)) = true := by simpa [List.any_cons, e] using c
        have := ih cr
        by_cases ep : p.1 = j
        · have ej : ¬ j = k := fun z => e (ep.trans z)
          rw [if_neg ej]
          simp [valD, List.find?_cons, e, ep, ej]
        · simp only [valD, List.map_cons, e, if_false, List.find?_cons, ep, decide_false] at this ⊢
          exact this
  · rw [if_neg c]
    have hn : valD kvs k = none := by
      unfold valD
      rw [Option.map_eq_none_iff, List.find?_eq_none]
      exact fun q hq z => c (List.any_eq_true.mpr ⟨q, hq, z⟩)
    unfold valD at hn ⊢
    rw [List.find?_append]
    by_cases ej : j = k
    · rw [if_pos ej, ej]
      cases q : kvs.find? fun kv => decide (kv.1 = k) with
      | some p => rw [q] at hn; cases hn
      | none => simp
    · rw [if_neg ej]
      have nk : ¬ k = j := fun z => ej z.symm
      cases q : kvs.find? fun kv => decide (kv.1 = j) with
      | some p => rfl
      | none => simp [nk]
theorem putD_length (kvs : List (Key × D)) (k : Key) (v : D) : (putD kvs k v).length ≤ kvs.length + 1 := by
  unfold putD
  split <;> simp
theorem lookN_put (kvs : List (Key × D)) (k j : Nat) (y : D) : lookN (putD kvs (.inl (k : Int)) y) j = if j = k then some y else lookN kvs j := by
  unfold lookN
  rw [valD_put]
  by_cases c : j = k
  · rw [if_pos c, if_pos (by rw [c])]
  · rw [if_neg c, if_neg fun h => c ((key_nat j k).mp h)]
theorem filter_split {α : Type} (p : α → Bool) (l : List α) : l.length = (l.filter p).length + (l.filter fun x => !p x).length := by
  induction l with
  | nil => rfl
  | cons x l ih =>
    rw [List.filter_cons, List.filter_cons]
    cases p x <;> simp <;> omega
theorem putD_new {kvs : List (Key × D)} {k : Nat} {v : D} (h : lookN kvs k = none) : (putD kvs (.inl (k : Int)) v).length = kvs.length + 1 := by
  unfold putD
  rw [if_neg]
  · simp
  · intro c
    obtain ⟨q, hq, e⟩ := List.any_eq_true.mp c
    unfold lookN valD at h
    rw [Option.map_eq_none_iff, List.find?_eq_none] at h
    exact h q hq e
theorem neD_nD (a b : Nat) : neD (nD a) (nD b) = some (!decide (a = b)) := by
  show some (!(((a : Nat) : Int) == ((b : Nat) : Int))) = _
  by_cases c : a = b
  · simp [c]
  · have : ¬ (a : Int) = (b : Int) := by omega
    simp [c, this]
theorem neD_nD' (a b : Nat) : neD (.int (a : Nat)) (.int (b : Nat)) = some (!decide (a = b)) := neD_nD a b
theorem enumD_range (n : Nat) (g : Nat → D) : enumD ((List.range n).map g) = (List.range n).map fun k => .tuple [nD k, g k] := by
  unfold enumD
  rw [List.zipIdx_map, List.map_map]
  apply List.ext_getElem?
  intro i
  rw [List.getElem?_map, List.getElem?_map, List.getElem?_zipIdx]
  by_cases c : i < n
  · rw [List.getElem?_range c]
    simp [nD]
  · rw [List.getElem?_eq_none (by rw [List.length_range]; omega)]
    rfl
theorem tup2_put (i j : Nat) (a b : D) (ρ : SEnv) : gTupF 2 (gsCons i (gsCons j gsNil)) (.tuple [a, b]) ρ = some (put (put ρ i (.pl a)) j (.pl b)) := rfl
theorem vsrcA_of {ρ : SEnv} {i : Nat} {S : Sl} {ds : List D} (e : get ρ i = S) (h : S = .brw ds ∨ S = .pl (.list ds) ∨ S = .pl (.tuple ds)) : vsrcA i ρ = some ds := by
  unfold vsrcA
  rw [e]
  rcases h with h | h | h <;> rw [h]
theorem bit_and1 (x : Int) : (Builtin.bitAnd x 1 == 1) = bt x 0 := by
  have := bit_test1 x 0
  rw [Int.pow_zero, Int.ediv_one] at this
  exact this
theorem bitsOf_zero (n : Nat) : bitsOf n 0 = [] := by
  unfold bitsOf
  exact List.filter_eq_nil_iff.mpr fun k _ h => by rw [bt_zero] at h; cases h
theorem bitsOf_succ (n : Nat) (x : Int) : bitsOf (n + 1) x = (if bt x 0 then [0] else []) ++ (bitsOf n (x / 2)).map (· + 1) := by
  unfold bitsOf
  rw [List.range_succ_eq_map, List.filter_cons, List.filter_map]
  have e : ((fun k => bt x k) ∘ Nat.succ) = fun k => bt (x / 2) k := funext fun k => bt_succ x k
  rw [e]
  cases bt x 0 <;> rfl
/-- a walk that leaves with a value told by the first item of the kind -/
theorem forD_find1 {α : Type} {g : GF} {b : SEnv → Option Out} (enc : α → D) (p : α → Bool) (o : α → Sl) (ρ : SEnv) : ∀ xs : List α, (∀ x ∈ xs, ∃ ρ1, g (enc x) ρ = some ρ1 ∧ b ρ1 = if p x then some (.rt (o x)) else some (.nx ρ)) →
    forD g b (xs.map enc) ρ = match xs.find? p with | some x => some (.rt (o x)) | none => some (.nx ρ)
  | [], _ => rfl
  | x :: xs, h => by
    obtain ⟨ρ1, h1, h2⟩ := h x (List.mem_cons_self ..)
    have ih := forD_find1 (g := g) (b := b) enc p o ρ xs fun y hy => h y (List.mem_cons_of_mem _ hy)
    rw [List.map_cons, List.find?_cons, forD, h1]
    cases c : p x with
    | true => rw [c] at h2; simp only [h2, if_true]
    | false => rw [c] at h2; simp only [h2, Bool.false_eq_true, if_false]; exact ih
theorem filter_any {α : Type} (p : α → Bool) (l : List α) : (l.filter p).isEmpty = !l.any p := by
  induction l with
  | nil => rfl
  | cons a b ih =>
    rw [List.filter_cons, List.any_cons]
    cases p a with
    | true => rfl
    | false => simpa using ih
/-! ### ways that are left open -/
theorem sIf_b (t : SEnv → Option Bool) (f g : SEnv → Option Out) (ρ : SEnv) : sIf t f g ρ = (t ρ).bind fun b => if b = true then f ρ else g ρ := by
  unfold sIf
  cases t ρ with
  | none => rfl
  | some b => cases b <;> rfl
theorem tAnd2_b (t u : SEnv → Option Bool) (ρ : SEnv) : tAnd2 t u ρ = (t ρ).bind fun b => if b = true then u ρ else some false := by
  unfold tAnd2
  cases t ρ with
  | none => rfl
  | some b => cases b <;> rfl
theorem tOr2_b (t u : SEnv → Option Bool) (ρ : SEnv) : tOr2 t u ρ = (t ρ).bind fun b => if b = true then some true else u ρ := by
  unfold tOr2
  cases t ρ with
  | none => rfl
  | some b => cases b <;> rfl
theorem eIf_b (t : SEnv → Option Bool) (a b : SEnv → Option Sl) (ρ : SEnv) : eIf t a b ρ = (t ρ).bind fun c => if c = true then a ρ else b ρ := by
  unfold eIf
  cases t ρ with
  | none => rfl
  | some b => cases b <;> rfl
theorem eIf_def (t : SEnv → Option Bool) (a b : SEnv → Option Sl) (ρ : SEnv) : eIf t a b ρ = match t ρ with | some true => a ρ | some false => b ρ | none => none := rfl
theorem bind_ite {α β : Type} (c : Prop) [Decidable c] (x y : Option α) (f : α → Option β) : (if c then x else y).bind f = if c then x.bind f else y.bind f := by split <;> rfl
/-- a loop that may leave with a value of the kind, its state as it was else -/
theorem forD_rtOr {α : Type} {g : GF} {b : SEnv → Option Out} (enc : α → D) (P : Sl → Prop) (ρ : SEnv) : ∀ xs : List α, (∀ x ∈ xs, ∃ ρ1, g (enc x) ρ = some ρ1 ∧ (b ρ1 = some (.nx ρ) ∨ ∃ s, b ρ1 = some (.rt s) ∧ P s)) →
    forD g b (xs.map enc) ρ = some (.nx ρ) ∨ ∃ s, forD g b (xs.map enc) ρ = some (.rt s) ∧ P s
  | [], _ => .inl rfl
  | x :: xs, h => by
    obtain ⟨ρ1, h1, h2⟩ := h x (List.mem_cons_self ..)
    rcases h2 with h2 | ⟨s, h2, h3⟩
    · rcases forD_rtOr (g := g) (b := b) enc P ρ xs fun y hy => h y (List.mem_cons_of_mem _ hy) with e | ⟨s, e, hs⟩
      · exact .inl (by rw [List.map_cons, forD_nx h1 h2]; exact e)
      · exact .inr ⟨s, by rw [List.map_cons, forD_nx h1 h2]; exact e, hs⟩
    · exact .inr ⟨s, by rw [List.map_cons, forD_rt h1 h2], h3⟩
/-- worlds of a set are worlds of another -/
def Sub (a p : Int) : Prop := ∀ k, bt a k = true → bt p k = true
theorem Sub.refl (a : Int) : Sub a a := fun _ h => h
theorem Sub.and_l {a p : Int} (h : Sub a p) (b : Int) : Sub (Builtin.bitAnd a b) p := fun k hk => by
  rw [bt_and, Bool.and_eq_true] at hk
  exact h k hk.1
theorem Sub.and_r {a p : Int} (h : Sub a p) (b : Int) : Sub (Builtin.bitAnd b a) p := fun k hk => by
  rw [bt_and, Bool.and_eq_true] at hk
  exact h k hk.2
theorem Sub.or {a b p : Int} (h : Sub a p) (h' : Sub b p) : Sub (Builtin.bitOr a b) p := fun k hk => by
  rw [bt_or, Bool.or_eq_true] at hk
  exact hk.elim (h k) (h' k)
theorem Sub.zero (p : Int) : Sub 0 p := fun k hk => by rw [bt_zero] at hk; cases hk
theorem Sub.trans {a b c : Int} (h : Sub a b) (h' : Sub b c) : Sub a c := fun k hk => h' k (h k hk)
/-- a set of possible worlds -/
structure PSet (s : Nat) (p a : Int) : Prop where
  m : Msk s a
  sub : Sub a p
theorem PSet.self {s : Nat} {p : Int} (h : Msk s p) : PSet s p p := ⟨h, Sub.refl p⟩
theorem PSet.and {s : Nat} {p a : Int} (h : PSet s p a) (b : Int) : PSet s p (Builtin.bitAnd a b) := ⟨h.m.and b, h.sub.and_l b⟩
theorem PSet.and_r {s : Nat} {p a : Int} (h : PSet s p a) (b : Int) : PSet s p (Builtin.bitAnd b a) := ⟨h.m.and_r b, h.sub.and_r b⟩
theorem PSet.or {s : Nat} {p a b : Int} (h : PSet s p a) (h' : PSet s p b) : PSet s p (Builtin.bitOr a b) := ⟨h.m.or h'.m, h.sub.or h'.sub⟩
theorem PSet.zero (s : Nat) (p : Int) : PSet s p 0 := ⟨Msk.zero s, Sub.zero p⟩
theorem PSet.minus {s : Nat} {p a b : Int} (h : PSet s p a) (hb : 0 ≤ b) (hs : Sub b a) : PSet s p (a - b) ∧ ∀ k, bt (a - b) k = (bt a k && !bt b k) := by
  have e := sub_bits h.m.1 hb hs
  have e2 : a - b = Builtin.bitAnd a (Builtin.bitNot b) := by
    have hle : b ≤ a := by
      obtain ⟨x, rfl⟩ := Int.eq_ofNat_of_zero_le h.m.1
      obtain ⟨y, rfl⟩ := Int.eq_ofNat_of_zero_le hb
      have e3 : x &&& y = y := by
        apply Nat.eq_of_testBit_eq
        intro i
        have := hs i
        rw [bt_nat, bt_nat] at this
        rw [Nat.testBit_and]
        cases c : y.testBit i with
        | false => rw [Bool.and_false]
        | true => rw [this c, Bool.and_true]
      have : y ≤ x := by rw [← e3]; exact Nat.and_le_left
      omega
    refine bt_ext (by omega) (and_nonneg (.inl h.m.1)) fun k => ?_
    rw [e, bt_and, bt_not]
  exact ⟨by rw [e2]; exact h.and _, e⟩
theorem beq_nn (a b : Nat) : (((a : Nat) : Int) == ((b : Nat) : Int)) = decide (a = b) := by
  by_cases c : a = b
  · simp [c]
  · have : ¬ (a : Int) = (b : Int) := by omega
    simp [c, this]
theorem whileD_go {c : SEnv → Option Bool} {b : SEnv → Option Out} {n : Nat} {ρ ρ2 : SEnv} (h1 : c ρ = some true) (h2 : b ρ = some (.nx ρ2)) : whileD c b (n + 1) ρ = whileD c b n ρ2 := by
  rw [whileD]
  rw [h1]
  show (match b ρ with
      | some (.nx ρ2) => whileD c b n ρ2
      | some (.ct ρ2) => whileD c b n ρ2
      | some (.bk ρ2) => some (.nx ρ2)
      | o => o) = _
  rw [h2]
theorem whileD_stop {c : SEnv → Option Bool} {b : SEnv → Option Out} {n : Nat} {ρ : SEnv} (h1 : c ρ = some false) : whileD c b (n + 1) ρ = some (.nx ρ) := by
  rw [whileD, h1]
end DL

set_option Elab.async false
set_option linter.all false
set_option maxRecDepth 100000
set_option maxHeartbeats 1000000
/-! DLT: list + list where a list may be plain data. -/
namespace DL
open PySem PySem.Spec PyProof.Rows L2
section
variable {X : Cx}
def rCatL (K : PySem.W.Frag) : V → V → Hp → VK → Prop := fun x y H Q => ∃ l b xs zs, x = V.ref l ∧ y = V.ref b ∧ SqL K H l xs ∧ SqL K H b zs ∧ xs.length + zs.length ≤ sizeLine ∧ ∀ p, H p = none → Q (.ref p) (upd H p (.lst (xs ++ zs)))
theorem op_catL : OpR X (binaryOp .Add) (rCatL X.K) := by
  intro pins s σ H x y v u Q I rx ry h
  obtain ⟨l, b, xs, zs, rfl, rfl, hH, hB, hz, q⟩ := h
  cases rx
  cases ry
  obtain ⟨its, r, p1, _⟩ := I.list hH
  obtain ⟨its2, r2, p2, _⟩ := I.list hB
  have hl1 : xs.length = its.length := r.length
  have hl2 : zs.length = its2.length := r2.length
  obtain ⟨⟨cls, dd, data, sl⟩, n, ho, hc, _, hd⟩ := id p1
  obtain ⟨⟨cls2, dd2, data2, sl2⟩, n2, ho2, hc2, _, hd2⟩ := id p2
  simp only at hc hd hc2 hd2
  subst hc hd hc2 hd2
  refine concat_meets ⟨_, ho, rfl⟩ ⟨_, ho2, rfl⟩ noFill_list_add seq_list_add PySem.F.slot_list_add PySem.F.entry_list_add (PySem.F.args_list_add_2 _ _) (list_addW l b its.toArray its2.toArray n n2 dd dd2 sl sl2 (by rw [List.size_toArray, List.size_toArray]; omega)) ⟨ho, ho2, ?_⟩
  have ea : its.toArray ++ its2.toArray = (its ++ its2).toArray := by simp
  rw [ea]
  exact ⟨.ref _, _, I.lnew (t' := s.toks) (r.append r2) (by rw [List.length_append]; omega), rfl, q _ I.fresh⟩
def catL (a b : Option Sl) : Option Sl := match a, b with
  | some s, some t => match litems s, litems t with
    | some xs, some ys => if xs.length + ys.length ≤ 100000 then some (.own (xs ++ ys)) else none
    | _, _ => none
  | _, _ => none
def eCatL (a b : SEnv → Option Sl) : SEnv → Option Sl := fun ρ => catL (a ρ) (b ρ)
theorem pd_catL {a b : Expr} {fa fb : SEnv → Option Sl} {pos : Pos} (ha : PD X a fa) (hb : PD X b fb) : PD X (.BinOp a .Add b pos) (eCatL fa fb) :=
  PE_imp (pe_op op_catL ha hb) fun σ H Q ⟨B, Z0, Z, ρ, s, x, e, k⟩ => by
    unfold eCatL catL at e
    split at e
    · rename_i sa sb qa qb
      split at e
      · rename_i xs ys q1 q2
        by_cases c : xs.length + ys.length ≤ 100000
        · rw [if_pos c] at e
          cases e
          refine er2 x qa qb fun v w Z' H' k' r1 r2 => ?_
          obtain ⟨p, vs, rfl, hp, hd⟩ := litems_ok r1 k'.zh q1
          obtain ⟨q, ws, rfl, hq, hd2⟩ := litems_ok r2 k'.zh q2
          refine ⟨p, q, vs, ws, rfl, rfl, hp, hq, by rw [sizeLine_eq, DpAll_length hd, DpAll_length hd2]; omega, fun l hl => ?_⟩
          obtain ⟨k3, r3⟩ := vlR.newL k'.zh hl (DpAll_append hd hd2)
          exact k _ _ _ (k'.trans k3) (r3.back k'.bh)
        · rw [if_neg c] at e; cases e
      · cases e
    · cases e
end
theorem eCatL_def (a b : SEnv → Option Sl) (ρ : SEnv) : eCatL a b ρ = catL (a ρ) (b ρ) := rfl
theorem catL_own_pl (xs ys : List D) (h : xs.length + ys.length ≤ 100000) : catL (some (.own xs)) (some (.pl (.list ys))) = some (.own (xs ++ ys)) := by
  show (if _ then _ else _) = _
  rw [if_pos h]
theorem catL_own_own (xs ys : List D) (h : xs.length + ys.length ≤ 100000) : catL (some (.own xs)) (some (.own ys)) = some (.own (xs ++ ys)) := by
  show (if _ then _ else _) = _
  rw [if_pos h]
theorem catL_own_brw (xs ys : List D) (h : xs.length + ys.length ≤ 100000) : catL (some (.own xs)) (some (.brw ys)) = some (.own (xs ++ ys)) := by
  show (if _ then _ else _) = _
  rw [if_pos h]
theorem catL_pl_own (xs ys : List D) (h : xs.length + ys.length ≤ 100000) : catL (some (.pl (.list xs))) (some (.own ys)) = some (.own (xs ++ ys)) := by
  show (if _ then _ else _) = _
  rw [if_pos h]
theorem catL_pl_pl (xs ys : List D) (h : xs.length + ys.length ≤ 100000) : catL (some (.pl (.list xs))) (some (.pl (.list ys))) = some (.own (xs ++ ys)) := by
  show (if _ then _ else _) = _
  rw [if_pos h]
/-- a loop that goes on by an invariant, or leaves -/
theorem forD_invRt {α β : Type} {g : GF} {b : SEnv → Option Out} (enc : α → D) (E : β → SEnv) (I : β → Prop) (P : Sl → Prop) : ∀ (xs : List α) (st : β), I st → (∀ x st, x ∈ xs → I st → ∃ ρ1, g (enc x) (E st) = some ρ1 ∧ ((∃ st', I st' ∧ (b ρ1 = some (.nx (E st')) ∨ b ρ1 = some (.ct (E st')))) ∨ ∃ s, b ρ1 = some (.rt s) ∧ P s)) →
    (∃ st', I st' ∧ forD g b (xs.map enc) (E st) = some (.nx (E st'))) ∨ ∃ s, forD g b (xs.map enc) (E st) = some (.rt s) ∧ P s
  | [], st, h0, _ => .inl ⟨st, h0, rfl⟩
  | x :: xs, st, h0, h => by
    obtain ⟨ρ1, h1, h2⟩ := h x st (List.mem_cons_self ..) h0
    rcases h2 with ⟨st', hI, h2⟩ | ⟨s, h2, hP⟩
    · have ih := forD_invRt enc E I P xs st' hI fun y st2 hy => h y st2 (List.mem_cons_of_mem _ hy)
      have e : forD g b ((x :: xs).map enc) (E st) = forD g b (xs.map enc) (E st') := by
        rw [List.map_cons, forD, h1]
        rcases h2 with h2 | h2 <;> simp only [h2]
      rw [e]
      exact ih
    · exact .inr ⟨s, by rw [List.map_cons, forD_rt h1 h2], hP⟩
theorem eqD_oDs (l m : List (Option Int)) : ∃ b, eqD (.list (l.map oD)) (.list (m.map oD)) = some b := by
  rw [eqD_g rfl ((shD_list (n := 0) fun d hd => ?_).shaped (by decide)) ((shD_list (n := 0) fun d hd => ?_).shaped (by decide))]
  · exact ⟨_, rfl⟩
  · obtain ⟨i, _, rfl⟩ := List.mem_map.mp hd; exact shD_oD i
  · obtain ⟨i, _, rfl⟩ := List.mem_map.mp hd; exact shD_oD i
end DL

set_option Elab.async false
set_option linter.all false
set_option maxRecDepth 100000
set_option maxHeartbeats 1000000
/-! DLZ: zip of a tuple and a list (each of the two of either kind, by one proof). -/
namespace DLZ
open PySem PySem.Spec PyProof.Rows L2
open PySem.Sem (wp)
/-- what zip asks of an iterator `it` over the sequence at `l` -/
structure SI (prog : Program) (w : World) (it l : Addr) (xs : Array Value) (It : Nat → Heap → Prop) (L : Heap → Prop) : Prop where
  iat : ∀ k h h', It k h → (∀ o, h.get? it = some o → h'.get? it = some o) → It k h'
  lat : ∀ h h', L h → (∀ o, h.get? l = some o → h'.get? l = some o) → L h'
  lt : ∀ k h, It k h → it < h.objs.size
  obj : ∀ k h, It k h → ∃ o, h.get? it = some o ∧ ∀ v, o.data = .cell v → False
  item : ∀ (A : Around) (E : Value → Shared → Prop) (s : Shared) (k : Nat) (x : Value) (Q : Value → Shared → Prop), It k s.heap → L s.heap → xs[k]? = some x → (∀ h', It (k + 1) h' → Heap.SameBut it s.heap h' → Q x { s with heap := h' }) → wpAny (model prog w) A (Builtin.SmallTypes.nextOf (.ref it)) Q E s
  done : ∀ (A : Around) (E : Value → Shared → Prop) (s : Shared) (k : Nat) (Q : Value → Shared → Prop), A.handled = none → It k s.heap → L s.heap → xs[k]? = none → (∀ h' e, Heap.ExtBut it s.heap h' → (∃ o, h'.get? e = some o ∧ o.cls = .type "StopIteration") → E (.ref e) { s with heap := h' }) → wpAny (model prog w) A (Builtin.SmallTypes.nextOf (.ref it)) Q E s
theorem SI.tup (prog : Program) (w : World) (it l : Addr) (xs : Array Value) : SI prog w it l xs (fun k h => h.IsTupleIter it l k) (fun h => h.IsTuple l xs) where
  iat := fun k h h' x q => x.at q
  lat := fun h h' x q => by
    obtain ⟨o, e, r⟩ := x
    exact ⟨o, q o e, r⟩
  lt := fun k h x => by obtain ⟨_, e, _⟩ := x; exact Heap.lt_size e
  obj := fun k h x => by
    obtain ⟨o, e, _, d⟩ := x
    exact ⟨o, e, fun v q => by rw [d] at q; cases q⟩
  item := fun A E s k x Q h1 h2 hx hQ => RZ.nextOf_tuple_item h1 h2 hx hQ
  done := fun A E s k Q hh h1 h2 hx hE => RZ.nextOf_tuple_end hh h1 h2 hx hE
theorem SI.lst (prog : Program) (w : World) (it l : Addr) (xs : Array Value) : SI prog w it l xs (fun k h => h.IsListIter it l k) (fun h => h.IsList l xs) where
  iat := fun k h h' x q => x.at q
  lat := fun h h' x q => x.at q
  lt := fun k h x => by obtain ⟨_, e, _⟩ := x; exact Heap.lt_size e
  obj := fun k h x => by
    obtain ⟨o, e, _, d⟩ := x
    exact ⟨o, e, fun v q => by rw [d] at q; cases q⟩
  item := fun A E s k x Q h1 h2 hx hQ => wpAny_nextOf_list_item h1 h2 hx hQ
  done := fun A E s k Q hh h1 h2 hx hE => wpAny_nextOf_list_end hh h1 h2 hx hE
section
variable {prog : Program} {w : World} {A : Around} {E : Value → Shared → Prop} {s : Shared} {z TI TO i1 i2 l1 l2 : Addr} {k1 k2 : Nat} {xs ys : Array Value} {It1 It2 : Nat → Heap → Prop} {L1 L2 : Heap → Prop}
/-- the way of zip's next as far as the two inner ones -/
theorem head {Q : Fin → Shared → Prop} {a b : Value} (hz : IsZip s.heap z TI TO .none) (hTI : IsPair s.heap TI (.ref i1) (.ref i2)) (hTO : IsPair s.heap TO a b)
    (S1 : SI prog w i1 l1 xs It1 L1) (S2 : SI prog w i2 l2 ys It2 L2) (D : ZipApart z TI TO i1 i2 l1 l2) (h1 : It1 k1 s.heap) (h2 : It2 k2 s.heap) (hl1 : L1 s.heap) (hl2 : L2 s.heap)
    (hI : ∀ x y h', xs[k1]? = some x → ys[k2]? = some y → IsZip h' z TI TO (rawInt s.heap.objs.size) → IsPair h' TO x y → It1 (k1 + 1) h' → It2 (k2 + 1) h' → IsPair h' s.heap.objs.size x y → h'.objs.size = s.heap.objs.size + 1 →
      (∀ c o, c ≠ z → c ≠ TO → c ≠ i1 → c ≠ i2 → s.heap.get? c = some o → h'.get? c = some o) → Q (.done (.ret (.ref s.heap.objs.size))) { s with heap := h' })
    (hh : (xs[k1]? = none ∨ ys[k2]? = none) → A.handled = none)
    (hE : (xs[k1]? = none ∨ ys[k2]? = none) → ∀ h' e, (∀ c o, c ≠ z → c ≠ TO → c ≠ i1 → c ≠ i2 → s.heap.get? c = some o → h'.get? c = some o) → (∃ o, h'.get? e = some o ∧ o.cls = .type "StopIteration") → E (.ref e) { s with heap := h' }) :
    wpAny (model prog w) A (Builtin.«zip.__next__» ⟨[.ref z], []⟩) Q E s := by
  show wpAny _ _ (field (.ref z) 2 >>= _) _ _ _
  refine wpAny_bind (wpAny_field hz rfl (x := .bool false) rfl ?_)
  show wpAny _ _ (field (.ref z) 3 >>= _) _ _ _
  refine wpAny_bind (wpAny_field hz rfl (x := .ref TI) rfl ?_)
  refine wpAny_bind (wpAny_seqItems hTI rfl ?_)
  show wpAny _ _ (Builtin.SmallTypes.ownedTupleIsFree (.ref z) >>= _) _ _ _
  refine wpAny_bind ?_
  unfold Builtin.SmallTypes.ownedTupleIsFree
  refine wpAny_bind (wpAny_field hz rfl (x := .none) rfl (wpAny_pure ?_))
  simp only [if_true]
  refine wpAny_bind (wpAny_rule ?_)
  refine wpAny_bind (wpAny_field hz rfl (x := .ref TO) rfl ?_)
  refine wpAny_bind (wpAny_setField_rec hz (by simp) fun g1 z1 q1 => ?_)
  replace z1 : IsZip g1 z TI TO .ellipsis := z1
  refine wpAny_bind ?_
  simp only [List.zipIdx_cons, List.zipIdx_nil, List.forIn_cons, List.forIn_nil]
  refine wpAny_bind (wpAny_bind (wpAny_onRaise ?_))
  show wpAny _ _ (Builtin.SmallTypes.nextOf (.ref i1) >>= _) _ _ _
  have a1 : It1 k1 g1 := S1.iat _ _ _ h1 fun o e => q1.extBut _ _ D.i1z e
  have b1 : L1 g1 := S1.lat _ _ hl1 fun o e => q1.extBut _ _ D.l1z e
  cases hx : xs[k1]? with
  | none =>
    refine wpAny_bind (S1.done _ _ _ _ _ (hh (.inl hx)) a1 b1 hx fun g2 e q2 he => ?_)
    obtain ⟨oe, hoe, hce⟩ := he
    have z2 : IsZip g2 z TI TO .ellipsis := q2 _ _ D.i1z.symm z1
    have hez : e ≠ z := fun x => by subst x; rw [z2] at hoe; cases hoe; simp at hce
    exact wpAny_setField_rec z2 (by simp) fun g3 _ q3 => hE (.inl hx) g3 e (fun c o c1 _ c3 _ x => q3.extBut _ _ c1 (q2 _ _ c3 (q1.extBut _ _ c1 x))) ⟨oe, q3.extBut _ _ hez hoe, hce⟩
  | some x =>
    refine wpAny_bind (S1.item _ _ _ _ _ _ a1 b1 hx fun g2 i1' q2 => wpAny_pure ?_)
    have o2 : IsPair g2 TO a b := q2.extBut _ _ D.TOi1 (q1.extBut _ _ D.TOz hTO)
    refine wpAny_bind (wpAny_seqItems o2 rfl ?_)
    refine wpAny_bind (wpAny_updateSeq_pair o2 fun g3 o3 q3 => ?_)
    replace o3 : IsPair g3 TO x b := o3
    refine wpAny_bind (wpAny_letGo (wpAny_pure ?_))
    refine wpAny_bind (wpAny_bind (wpAny_onRaise ?_))
    show wpAny _ _ (Builtin.SmallTypes.nextOf (.ref i2) >>= _) _ _ _
    have a2 : It2 k2 g3 := S2.iat _ _ _ h2 fun o e => q3.extBut _ _ D.TOi2.symm (q2.extBut _ _ D.i12.symm (q1.extBut _ _ D.i2z e))
    have b2 : L2 g3 := S2.lat _ _ hl2 fun o e => q3.extBut _ _ D.l2TO (q2.extBut _ _ D.l2i1 (q1.extBut _ _ D.l2z e))
    cases hy : ys[k2]? with
    | none =>
      refine wpAny_bind (S2.done _ _ _ _ _ (hh (.inr hy)) a2 b2 hy fun g4 e q4 he => ?_)
      obtain ⟨oe, hoe, hce⟩ := he
      have z4 : IsZip g4 z TI TO .ellipsis := q4 _ _ D.i2z.symm (q3.extBut _ _ D.TOz.symm (q2.extBut _ _ D.i1z.symm z1))
      have hez : e ≠ z := fun x => by subst x; rw [z4] at hoe; cases hoe; simp at hce
      exact wpAny_setField_rec z4 (by simp) fun g5 _ q5 => hE (.inr hy) g5 e (fun c o c1 c2 c3 c4 x => q5.extBut _ _ c1 (q4 _ _ c4 (q3.extBut _ _ c2 (q2.extBut _ _ c3 (q1.extBut _ _ c1 x))))) ⟨oe, q5.extBut _ _ hez hoe, hce⟩
    | some y =>
      refine wpAny_bind (S2.item _ _ _ _ _ _ a2 b2 hy fun g4 i2' q4 => wpAny_pure ?_)
      have o4 : IsPair g4 TO x b := q4.extBut _ _ D.TOi2 o3
      refine wpAny_bind (wpAny_seqItems o4 rfl ?_)
      refine wpAny_bind (wpAny_updateSeq_pair o4 fun g5 o5 q5 => ?_)
      replace o5 : IsPair g5 TO x y := o5
      refine wpAny_bind (wpAny_letGo (wpAny_pure (wpAny_pure ?_)))
      refine wpAny_bind (wpAny_seqItems o5 rfl ?_)
      refine wpAny_bind (wpAny_newTuple ?_)
      have hsz : g5.objs.size = s.heap.objs.size := by rw [q5.1, q4.1, q3.1, q2.1, q1.1]
      have z5 : IsZip g5 z TI TO .ellipsis := q5.extBut _ _ D.TOz.symm (q4.extBut _ _ D.i2z.symm (q3.extBut _ _ D.TOz.symm (q2.extBut _ _ D.i1z.symm z1)))
      have up0 : ∀ c o, c ≠ z → c ≠ TO → c ≠ i1 → c ≠ i2 → s.heap.get? c = some o → g5.get? c = some o := fun c o c1 c2 c3 c4 e => q5.extBut _ _ c2 (q4.extBut _ _ c4 (q3.extBut _ _ c2 (q2.extBut _ _ c3 (q1.extBut _ _ c1 e))))
      have j1 : It1 (k1 + 1) g5 := S1.iat _ _ _ i1' fun o e => q5.extBut _ _ D.TOi1.symm (q4.extBut _ _ D.i12 (q3.extBut _ _ D.TOi1.symm e))
      have j2 : It2 (k2 + 1) g5 := S2.iat _ _ _ i2' fun o e => q5.extBut _ _ D.TOi2.symm e
      show wpAny _ _ (Builtin.SmallTypes.ownedTupleHandOut (.ref z) (.ref g5.objs.size) >>= _) _ _ _
      refine wpAny_bind ?_
      unfold Builtin.SmallTypes.ownedTupleHandOut
      have hzlt : z < g5.objs.size := Heap.lt_size z5
      have z6 : IsZip (g5.push { cls := .type "tuple", data := .seq #[x, y] }) z TI TO .ellipsis := Heap.get?_push_of_some _ z5
      refine wpAny_bind (wpAny_setField_rec z6 (by simp) fun g7 z7 q7 => ?_)
      replace z7 : IsZip g7 z TI TO (rawInt g5.objs.size) := z7
      refine wpAny_setField_rec z7 (by simp) fun g8 z8 q8 => ?_
      replace z8 : IsZip g8 z TI TO (rawInt g5.objs.size) := z8
      have up : ∀ c o, c ≠ z → g5.get? c = some o → g8.get? c = some o := fun c o c1 e => q8.extBut _ _ c1 (q7.extBut _ _ c1 (Heap.get?_push_of_some _ e))
      have t8 : IsPair g8 g5.objs.size x y := q8.extBut _ _ (Nat.ne_of_gt hzlt) (q7.extBut _ _ (Nat.ne_of_gt hzlt) (Heap.get?_push_size _ rfl))
      have n8 : g8.objs.size = g5.objs.size + 1 := by rw [q8.1, q7.1, Heap.size_push]
      rw [hsz] at z8 t8 n8
      refine wpAny_pure ?_
      show Q (.done (.ret (.ref g5.objs.size))) _
      rw [hsz]
      exact hI x y g8 hx hy z8 (up _ _ D.TOz o5) (S1.iat _ _ _ j1 fun o e => up _ o D.i1z e) (S2.iat _ _ _ j2 fun o e => up _ o D.i2z e) t8 n8 fun c o c1 c2 c3 c4 e => up c o c1 (up0 c o c1 c2 c3 c4 e)
end
section
variable {prog : Program} {w : World} {A : Around} {E : Value → Shared → Prop} {s : Shared} {z TI TO i1 i2 l1 l2 : Addr} {k1 k2 : Nat} {xs ys : Array Value} {It1 It2 : Nat → Heap → Prop} {L1 L2 : Heap → Prop}
theorem next_item {Q : Option Value → Shared → Prop} {a b x y : Value} (hz : IsZip s.heap z TI TO .none) (hTI : IsPair s.heap TI (.ref i1) (.ref i2)) (hTO : IsPair s.heap TO a b)
    (S1 : SI prog w i1 l1 xs It1 L1) (S2 : SI prog w i2 l2 ys It2 L2) (D : ZipApart z TI TO i1 i2 l1 l2) (h1 : It1 k1 s.heap) (h2 : It2 k2 s.heap) (hl1 : L1 s.heap) (hl2 : L2 s.heap) (hx : xs[k1]? = some x) (hy : ys[k2]? = some y)
    (hI : ∀ h', IsZip h' z TI TO (rawInt s.heap.objs.size) → IsPair h' TO x y → It1 (k1 + 1) h' → It2 (k2 + 1) h' → IsPair h' s.heap.objs.size x y → h'.objs.size = s.heap.objs.size + 1 →
      (∀ c o, c ≠ z → c ≠ TO → c ≠ i1 → c ≠ i2 → s.heap.get? c = some o → h'.get? c = some o) → Q (some (.ref s.heap.objs.size)) { s with heap := h' }) :
    wpAny (model prog w) A (pyNext (.ref z)) Q E s := by
  have hT : s.TypeIs (.ref z) "zip" := ⟨_, hz, rfl⟩
  unfold pyNext
  refine wpAny_bind (wpAny_attempt (wpAny_callSpecial?_slot (name := Str.ofString "__next__") hT F.slot_zip_next
    (wpAny_call_entry F.slot_zip_next hT F.entry_zip_next
      (head hz hTI hTO S1 S2 D h1 h2 hl1 hl2 (fun x' y' h' ex ey a1 a2 a3 a4 a5 a6 a7 => ?_) ?_ ?_) (F.args_zip_next_1 _))))
  · rw [hx] at ex
    rw [hy] at ey
    cases ex
    cases ey
    exact ⟨_, rfl, wpAny_pure (hI h' a1 a2 a3 a4 a5 a6 a7)⟩
  · rintro (q | q)
    · rw [hx] at q; cases q
    · rw [hy] at q; cases q
  · rintro (q | q)
    · rw [hx] at q; cases q
    · rw [hy] at q; cases q
theorem next_end {Q : Option Value → Shared → Prop} {a b : Value} (hh : A.handled = none) (hz : IsZip s.heap z TI TO .none) (hTI : IsPair s.heap TI (.ref i1) (.ref i2)) (hTO : IsPair s.heap TO a b)
    (S1 : SI prog w i1 l1 xs It1 L1) (S2 : SI prog w i2 l2 ys It2 L2) (D : ZipApart z TI TO i1 i2 l1 l2) (h1 : It1 k1 s.heap) (h2 : It2 k2 s.heap) (hl1 : L1 s.heap) (hl2 : L2 s.heap) (hend : xs[k1]? = none ∨ ys[k2]? = none)
    (hQ : ∀ h', (∀ c o, c ≠ z → c ≠ TO → c ≠ i1 → c ≠ i2 → s.heap.get? c = some o → h'.get? c = some o) → Q none { s with heap := h' }) : wpAny (model prog w) A (pyNext (.ref z)) Q E s := by
  have hT : s.TypeIs (.ref z) "zip" := ⟨_, hz, rfl⟩
  unfold pyNext
  refine wpAny_bind (wpAny_attempt (wpAny_callSpecial?_slot (name := Str.ofString "__next__") hT F.slot_zip_next
    (wpAny_call_entry F.slot_zip_next hT F.entry_zip_next (head hz hTI hTO S1 S2 D h1 h2 hl1 hl2 (fun x' y' h' ex ey _ _ _ _ _ _ _ => ?_) (fun _ => hh) (fun _ h' e hk he => ?_)) (F.args_zip_next_1 _))))
  · rcases hend with q | q
    · rw [q] at ex; cases ex
    · rw [q] at ey; cases ey
  · obtain ⟨o, ho, hc⟩ := he
    refine wpAny_bind (wpAny_isInstance (T := "StopIteration") (b := true) ⟨o, ho, hc⟩ isSubtype_stop ?_)
    exact wpAny_pure (hQ _ hk)
end
/-- the tuple at a and the list at b as they stand at each turn, the items in new pairs -/
def ItM (K : PySem.W.Frag) (a b : Addr) : It :=
  ⟨fun i H => ∃ (xs ys : List V) (x y : V), SqT K H a xs ∧ SqL K H b ys ∧ xs[i]? = some x ∧ ys[i]? = some y,
    fun i H v H' => ∃ T x y, v = .ref T ∧ H T = none ∧ H' = upd H T (.tup [x, y]) ∧ (∀ xs, SqT K H a xs → xs[i]? = some x) ∧ ∀ ys, SqL K H b ys → ys[i]? = some y,
    fun i H => ∃ xs ys : List V, SqT K H a xs ∧ SqL K H b ys ∧ (xs.length ≤ i ∨ ys.length ≤ i)⟩
theorem turnM {P : Program} {w : World} {K : PySem.W.Frag} {elts : List Expr} {kk : Nat} {tpos : Pos} {a b z TI TO i1 i2 : Addr} (D : ZipApart z TI TO i1 i2 a b) :
    Turn P w K (.Tuple elts kk tpos) (ItM K a b) [z, TI, TO, i1, i2] z (fun i h => IsZip h z TI TO .none ∧ IsPair h TI (.ref i1) (.ref i2) ∧ (∃ x y, IsPair h TO x y) ∧ h.IsTupleIter i1 a i ∧ h.IsListIter i2 b i) where
  mem := by simp
  obj := fun i h st c hc => by
    obtain ⟨hz, hTI, ⟨x, y, hTO⟩, ⟨o1, e1, _, d1⟩, ⟨o2, e2, _, d2⟩⟩ := st
    have e' : c = z ∨ c = TI ∨ c = TO ∨ c = i1 ∨ c = i2 := by simpa using hc
    rcases e' with q | q | q | q | q
    · rw [q]; exact ⟨_, hz, fun v q => nomatch q⟩
    · rw [q]; exact ⟨_, hTI, fun v q => nomatch q⟩
    · rw [q]; exact ⟨_, hTO, fun v q => nomatch q⟩
    · rw [q]; exact ⟨o1, e1, fun v q => by rw [d1] at q; cases q⟩
    · rw [q]; exact ⟨o2, e2, fun v q => by rw [d2] at q; cases q⟩
  keep := fun i h h' st k => by
    obtain ⟨hz, hTI, ⟨x, y, hTO⟩, h1, h2⟩ := st
    exact ⟨k z (by simp) _ hz, k TI (by simp) _ hTI, ⟨x, y, k TO (by simp) _ hTO⟩, h1.at fun o q => k i1 (by simp) o q, h2.at fun o q => k i2 (by simp) o q⟩
  item := by
    intro X hP hw hK hc i pins s σ H E I hf st hg
    subst hP hw hK
    obtain ⟨hz, hTI, ⟨x0, y0, hTO⟩, h1, h2⟩ := st
    obtain ⟨xs, ys, x, y, hqx, hqy, hx, hy⟩ := hg
    obtain ⟨its, rv, p, _⟩ := I.tuple hqx
    obtain ⟨its2, rv2, p2, _⟩ := I.list hqy
    obtain ⟨u, hu, ru⟩ := rv.get hx
    obtain ⟨u2, hu2, ru2⟩ := rv2.get hy
    have hzl : z < s.heap.objs.size := Heap.lt_size hz
    refine next_item hz hTI hTO (SI.tup _ _ i1 a its.toArray) (SI.lst _ _ i2 b its2.toArray) D h1 h2 p p2.isList (x := u) (y := u2) (by simpa using hu) (by simpa using hu2) fun h' z' TO' h1' h2' hT hsz hk => ?_
    refine ⟨_, rfl, wpAny_letOwnedTupleGo_zip (s := { s with heap := h' }) z' fun h'' z'' sb => ?_⟩
    have hT2 : h''.get? s.heap.objs.size = some { cls := .type "tuple", data := .seq #[u, u2] } := (sb.2 _ (Nat.ne_of_gt hzl)).trans hT
    have new : ObjOk X.prog X.w (upd H s.heap.objs.size (.tup [x, y])) h'' s.heap.objs.size (.tup [x, y]) :=
      ⟨by show 2 ≤ sizeLine; decide, [u, u2], .cons ru (.cons ru2 .nil), ⟨_, hT2, rfl, _, rfl⟩⟩
    have I1 : Inv X pins σ (upd H s.heap.objs.size (.tup [x, y])) { s with heap := h'' } :=
      I.turnedNew (t' := s.toks) (ch := [z, TI, TO, i1, i2]) (fun c o hb q => (sb.2 c (fun q' => hb (by simp [q']))).trans (hk c o (fun q' => hb (by simp [q'])) (fun q' => hb (by simp [q'])) (fun q' => hb (by simp [q'])) (fun q' => hb (by simp [q'])) q)) hf (Nat.le_refl _) new
    refine ⟨.ref s.heap.objs.size, _, I1, rfl, ⟨_, x, y, rfl, I.hok.fresh (Nat.le_refl _), rfl, fun l hl => by rw [I.tuple_inj hl hqx]; exact hx, fun l hl => by rw [I.list_inj hl hqy]; exact hy⟩, ⟨z'', ?_, ⟨u, u2, ?_⟩, ?_, ?_⟩, fun c hcm => ?_⟩
    · exact (sb.2 _ D.TIz).trans (hk _ _ D.TIz D.TITO D.TIi1 D.TIi2 hTI)
    · exact (sb.2 _ D.TOz).trans TO'
    · exact h1'.at fun o q => (sb.2 _ D.i1z).trans q
    · exact h2'.at fun o q => (sb.2 _ D.i2z).trans q
    · have hlt : c < s.heap.objs.size := by
        have e' : c = z ∨ c = TI ∨ c = TO ∨ c = i1 ∨ c = i2 := by simpa using hcm
        rcases e' with q | q | q | q | q
        · rw [q]; exact hzl
        · rw [q]; exact Heap.lt_size hTI
        · rw [q]; exact Heap.lt_size hTO
        · rw [q]; obtain ⟨_, e1, _⟩ := h1; exact Heap.lt_size e1
        · rw [q]; obtain ⟨_, e2, _⟩ := h2; exact Heap.lt_size e2
      rw [upd_ne (Nat.ne_of_lt hlt)]
      exact (hf c hcm).1
  done := by
    intro X hP hw hK hc i pins s σ H E I hf st hg
    subst hP hw hK
    obtain ⟨hz, hTI, ⟨x0, y0, hTO⟩, h1, h2⟩ := st
    obtain ⟨xs, ys, hqx, hqy, hend⟩ := hg
    obtain ⟨its, rv, p, _⟩ := I.tuple hqx
    obtain ⟨its2, rv2, p2, _⟩ := I.list hqy
    have l1 := rv.length
    have l2 := rv2.length
    have he : its.toArray[i]? = none ∨ its2.toArray[i]? = none := by
      rcases hend with q | q
      · exact .inl (by simp; omega)
      · exact .inr (by simp; omega)
    exact next_end (I.ok.hd hc) hz hTI hTO (SI.tup _ _ i1 a its.toArray) (SI.lst _ _ i2 b its2.toArray) D h1 h2 p p2.isList he fun h' hk => ⟨rfl, I.turnedL (t' := s.toks) (ch := [z, TI, TO, i1, i2]) (fun c o hb q =>
      hk c o (fun q' => hb (by simp [q'])) (fun q' => hb (by simp [q'])) (fun q' => hb (by simp [q'])) (fun q' => hb (by simp [q'])) q) hf⟩
  self := fun A i s Q E st h => wpAny_pyIter_zip st.1 h
abbrev M1 (h : Heap) (l1 : Addr) : Heap := h.push { cls := .type "tuple_iterator", data := .fields #[.ref l1, .int 0 0] }
abbrev M2 (h : Heap) (l1 l2 : Addr) : Heap := (M1 h l1).push { cls := .type "list_iterator", data := .fields #[.ref l2, .int 0 0] }
abbrev M3 (h : Heap) (l1 l2 : Addr) : Heap := (M2 h l1 l2).push { cls := .type "tuple", data := .seq #[.ref h.objs.size, .ref (M1 h l1).objs.size] }
abbrev M4 (h : Heap) (l1 l2 : Addr) : Heap := (M3 h l1 l2).push { cls := .type "tuple", data := .seq #[.none, .none] }
abbrev M5 (h : Heap) (l1 l2 : Addr) : Heap := (M4 h l1 l2).push { cls := .type "zip", data := .fields #[.none, .bool false, .bool false, .ref (M2 h l1 l2).objs.size, .ref (M3 h l1 l2).objs.size] }
theorem newM (l1 l2 : Addr) (xs ys : Array Value) :
    Meets (Builtin.«zip.__new__» ⟨[.type "zip", .ref l1, .ref l2], []⟩) (fun _ R s => s.heap.IsTuple l1 xs ∧ s.heap.IsList l2 ys ∧
      R (.ok (.ret (.ref (M4 s.heap l1 l2).objs.size))) { s with heap := M5 s.heap l1 l2 }) :=
  .of_wp fun prog w A R s h => by
    obtain ⟨hp, g, d, tk, os⟩ := s; obtain ⟨hl1, hl2, h⟩ := h
    have hsub := sub_zip
    have hL1 : Heap.IsTuple (Shared.heap ⟨hp, g, d, tk, os⟩) l1 xs := hl1
    have hL2 : Heap.IsList (Shared.heap ⟨hp.push { cls := .type "tuple_iterator", data := .fields #[.ref l1, .int 0 0] }, g, d, tk, os⟩) l2 ys := Heap.IsList.push hl2 _
    wp_walk using wpAny_pyIter_tuple hL1, wpAny_pyIter_list hL2
    exact ⟨_, rfl, h⟩
section
variable {prog : Program} {w : World} {A : Around} {E : Value → Shared → Prop} {s : Shared}
theorem callM {l1 l2 : Addr} {xs ys : Array Value} {Q : Value → Shared → Prop} (hl1 : s.heap.IsTuple l1 xs) (hl2 : s.heap.IsList l2 ys)
    (h : ∀ h', IsZip h' (s.heap.objs.size + 4) (s.heap.objs.size + 2) (s.heap.objs.size + 3) .none → IsPair h' (s.heap.objs.size + 2) (.ref s.heap.objs.size) (.ref (s.heap.objs.size + 1)) →
      IsPair h' (s.heap.objs.size + 3) .none .none → h'.IsTupleIter s.heap.objs.size l1 0 → h'.IsListIter (s.heap.objs.size + 1) l2 0 → h'.objs.size = s.heap.objs.size + 5 →
      (∀ c o, s.heap.get? c = some o → h'.get? c = some o) → Q (.ref (s.heap.objs.size + 4)) { s with heap := h' }) :
    wpAny (model prog w) A (call (.type "zip") [.ref l1, .ref l2]) Q E s := by
  refine callType_new F.called_zip (by decide) (F.typeCall_zip_2 _ _) (F.newCall_zip_2 _ _) (fun obj => F.args_object_init_3 obj _ _) F.entry_zip_new
    (newM l1 l2 xs ys) ⟨hl1, hl2, ?_⟩
  have n1 : (M1 s.heap l1).objs.size = s.heap.objs.size + 1 := Heap.size_push ..
  have n2 : (M2 s.heap l1 l2).objs.size = s.heap.objs.size + 2 := by rw [Heap.size_push, n1]
  have n3 : (M3 s.heap l1 l2).objs.size = s.heap.objs.size + 3 := by rw [Heap.size_push, n2]
  have n4 : (M4 s.heap l1 l2).objs.size = s.heap.objs.size + 4 := by rw [Heap.size_push, n3]
  have n5 : (M5 s.heap l1 l2).objs.size = s.heap.objs.size + 5 := by rw [Heap.size_push, n4]
  have g5 : (M5 s.heap l1 l2).get? (M4 s.heap l1 l2).objs.size = some _ := Heap.get?_push_size _ rfl
  have g4 : (M5 s.heap l1 l2).get? (M3 s.heap l1 l2).objs.size = some _ := Heap.get?_push_of_some _ (Heap.get?_push_size _ rfl)
  have g3 : (M5 s.heap l1 l2).get? (M2 s.heap l1 l2).objs.size = some _ := Heap.get?_push_of_some _ (Heap.get?_push_of_some _ (Heap.get?_push_size _ rfl))
  have g2 : (M5 s.heap l1 l2).get? (M1 s.heap l1).objs.size = some _ := Heap.get?_push_of_some _ (Heap.get?_push_of_some _ (Heap.get?_push_of_some _ (Heap.get?_push_size _ rfl)))
  have g1 : (M5 s.heap l1 l2).get? s.heap.objs.size = some _ := Heap.get?_push_of_some _ (Heap.get?_push_of_some _ (Heap.get?_push_of_some _ (Heap.get?_push_of_some _ (Heap.get?_push_size _ rfl))))
  show _ ∧ _
  rw [n2, n3, n4] at g5
  rw [n1, n2] at g3
  rw [n3] at g4
  rw [n1] at g2
  rw [n4]
  exact ⟨⟨_, g5, rfl⟩, h _ g5 g3 g4 ⟨_, g1, rfl, rfl⟩ ⟨_, g2, rfl, rfl⟩ n5 fun c o x =>
    Heap.get?_push_of_some _ (Heap.get?_push_of_some _ (Heap.get?_push_of_some _ (Heap.get?_push_of_some _ (Heap.get?_push_of_some _ x))))⟩
end
def iZipM (K : PySem.W.Frag) (ta : TA) : TI := fun σ H R => ta σ H fun vs H1 => ∃ a b xs ys, vs = [.ref a, .ref b] ∧ SqT K H1 a xs ∧ SqL K H1 b ys ∧ R (ItM K a b) H1
theorem pi_zipM {X : Cx} {e e2 : Expr} {ta : TA} {p pos tpos : Pos} {elts : List Expr} {kk : Nat} (hg : Gl X "zip") (hm : X.mg "zip" = none) (ha : PA X [e, e2] ta)
    (hs : starEach [e, e2] X.env = (false, eval e X.env) :: starEach [e2] X.env := by rfl) (hpl : (backTo pos (starEach [e2] X.env)).any (·.1) = false := by rfl) :
    PI X (.Tuple elts kk tpos) (.Call (.Name "zip" p) [e, e2] [] pos) (iZipM X.K ta) := by
  refine ⟨fun pins s σ H R I h => ?_⟩
  refine Call_ (ld_blt I hg hm PyProof.Rows.boot_zip (PyProof.Rows.callWith_type1 (thn (ha.run pos pins s σ H _ I h) fun us s1 ⟨vs, H1, I1, r1, q1⟩ => ?_) hs hpl))
  obtain ⟨a, b, xs, ys, ex, hqx, hqy, q⟩ := q1
  subst ex
  cases r1 with
  | cons r rr =>
    cases rr with
    | cons r' rr =>
      cases rr
      cases r
      cases r'
      have fresh5 : ∀ c, c ∈ [s1.heap.objs.size + 4, s1.heap.objs.size + 2, s1.heap.objs.size + 3, s1.heap.objs.size, s1.heap.objs.size + 1] → FpOk X pins H1 c := fun c hcm => by
        have e' : c = s1.heap.objs.size + 4 ∨ c = s1.heap.objs.size + 2 ∨ c = s1.heap.objs.size + 3 ∨ c = s1.heap.objs.size ∨ c = s1.heap.objs.size + 1 := by simpa using hcm
        have hle : s1.heap.objs.size ≤ c := by
          rcases e' with z | z | z | z | z
          · rw [z]; exact Nat.le_add_right _ _
          · rw [z]; exact Nat.le_add_right _ _
          · rw [z]; exact Nat.le_add_right _ _
          · rw [z]; exact Nat.le_refl _
          · rw [z]; exact Nat.le_add_right _ _
        exact I1.fpOk hle (I1.hok.fresh hle)
      obtain ⟨its, rv, p1, _⟩ := I1.tuple hqx
      obtain ⟨its2, rv2, p2, _⟩ := I1.list hqy
      obtain ⟨o1, ho1, _⟩ := id p1
      refine callM (show s1.heap.IsTuple a its.toArray from p1) p2.isList fun h' hz hTI hTO h1 h2 hsz hk => wpAny_pyIter_zip hz ?_
      have I2 : Inv X pins σ H1 { s1 with heap := h' } := I1.kept (t' := s1.toks) hk
      exact ⟨s1.heap.objs.size + 4, [s1.heap.objs.size + 4, s1.heap.objs.size + 2, s1.heap.objs.size + 3, s1.heap.objs.size, s1.heap.objs.size + 1], _, _, H1, rfl, I2, turnM (PySem.W.ktu_apart s1.heap.objs.size a b (Heap.lt_size ho1) p2.lt), ⟨hz, hTI, ⟨_, _, hTO⟩, h1, h2⟩, fresh5, q⟩
end DLZ
namespace DL
open PySem PySem.Spec PyProof.Rows L2
section
variable {X : Cx}
theorem walk_zipM {K : PySem.W.Frag} {a b : Addr} {xs ys : List V} {n : Nat} (hn : n = min xs.length ys.length) : Walk (DLZ.ItM K a b) n (fun H => SqT K H a xs ∧ SqL K H b ys) (YPair (fun i => xs[i]?) (fun i => ys[i]?)) := by
  subst hn
  refine ⟨fun i _ hi q => ?_, fun _ q => ⟨xs, ys, q.1, q.2, by omega⟩, fun i H v H' _ q y => ?_⟩
  · have h1 : i < xs.length := by omega
    have h2 : i < ys.length := by omega
    exact ⟨xs, ys, xs[i], ys[i], q.1, q.2, by simp [h1], by simp [h2]⟩
  · obtain ⟨T, x, z, h1, h2, h3, h4, h5⟩ := y
    exact ⟨T, x, z, h1, h2, h3, h4 xs q.1, h5 ys q.2⟩
/-- zip of a tuple and of a borrowed list at a slot -/
def zpM (f : SEnv → Option Sl) (j : Nat) : SEnv → Option (List D) := fun ρ => match f ρ, get ρ j with
  | some (.pl (.tuple as)), .brw bs => some (zipD as bs)
  | some (.pl (.tuple as)), .pl (.list bs) => some (zipD as bs)
  | _, _ => none
theorem ld_zipM {e : Expr} {f : SEnv → Option Sl} (j : Nat) {x : Str} {px p pos tpos : Pos} {elts : List Expr} {kk : Nat} (hg : Gl X "zip") (hm : X.mg "zip" = none) (he : PD X e f) (hv : PE X (.Name x px) (tVar j)) (hs : starEach [e, .Name x px] X.env = (false, eval e X.env) :: starEach [.Name x px] X.env := by rfl) (hs2 : starEach [.Name x px] X.env = (false, eval (.Name x px) X.env) :: starEach [] X.env := by rfl) (hpl : (backTo pos (starEach [.Name x px] X.env)).any (·.1) = false := by rfl) : LD X (.Tuple elts kk tpos) (.Call (.Name "zip" p) [e, .Name x px] [] pos) (zpM f j) :=
  PI_imp (DLZ.pi_zipM hg hm (pa_cons he (pa_cons hv pa_nil hs2) hs) hs hpl) fun σ H R ⟨B, Z0, Z, ρ, ds, y, e, k⟩ => by
    unfold zpM at e
    obtain ⟨st, _, fp, h1, _, _⟩ := id y
    have hi := h1 j
    split at e
    · rename_i as bs q1 q
      cases e
      rw [q] at hi
      obtain ⟨_, b, ys, hv, hb, hd2⟩ := hi
      refine er1 y q1 fun v Z' H' k' r => ?_
      obtain ⟨a, xs, rfl, hq, ha⟩ := titems_ok r.data
      have hb' := k'.bh _ _ (y.bh _ _ hb)
      exact ⟨_, look_some hv, a, b, xs, ys, rfl, sqT_mono k'.zh hq, .inl (.inl hb'), k _ _ _ Z' H' k' (zip_walk ha (DpAll_mono k'.zz _ _ hd2) (walk_zipM rfl) fun H2 c d => ⟨sqT_mono d hq, c.seq (.inl (.inl hb))⟩)⟩
    · rename_i as bs q1 q
      cases e
      rw [q] at hi
      obtain ⟨_, v2, hv, hd2⟩ := hi
      cases hd2 with
      | lst hq2 ha2 =>
        rename_i b ys
        refine er1 y q1 fun v Z' H' k' r => ?_
        obtain ⟨a, xs, rfl, hq, ha⟩ := titems_ok r.data
        exact ⟨_, look_some hv, a, b, xs, ys, rfl, sqT_mono k'.zh hq, (k'.zz.trans k'.zh).seq hq2, k _ _ _ Z' H' k' (zip_walk ha (DpAll_mono k'.zz _ _ ha2) (walk_zipM rfl) fun H2 c d => ⟨sqT_mono d hq, (k'.zz.trans d).seq hq2⟩)⟩
    · cases e
end
end DL

set_option Elab.async false
set_option linter.all false
set_option maxRecDepth 100000
set_option maxHeartbeats 1000000
/-! DLX: exceptions: raise, calls that may raise, try, isinstance of what was caught. -/
namespace DL
open PySem PySem.Spec PyProof.Rows L2
/-! ### facts of the classes -/
/-- an own class over ValueError without __init__ -/
structure ExcT (K : PySem.W.Frag) (mg : Str → Option Value) (c : Str) : Prop where
  ex : ∃ C : Addr, mg c = some (.ref C) ∧ clsOf K c = .ref C ∧ PySem.W.excIn K C [.type "ValueError", .type "Exception", .type "BaseException", .type "object"] "ValueError.__new__" = true ∧ PySem.W.keepIn K (.ref C) = true ∧
    PySem.W.subIn K (.ref C) (.type "BaseException") = some true ∧ PySem.W.typeIn K (.ref C) = some (.type "type")
theorem clsOf_of {K : PySem.W.Frag} {c : Str} {v : Value} (h : PySem.W.nsIn K mainGlobals c = some (some v)) : clsOf K c = v := by
  unfold clsOf
  rw [h]
section
variable {X : Cx} {E : WX}
def sExn (c : Str) : SEnv → Option Out := fun ρ => some (.ex ⟨c, none⟩ ρ)
theorem sd_raise {c m : Str} {j : Nat} {p p2 pos pos2 : Pos} (T : ExcT X.K X.mg c) (tk : Takes X E) (hg : Gl X c) (hc : X.calm = true := by rfl) (hdb : (c == ("__debug__" : Str)) = false := by decide) :
    SD X E (.Raise (some (.Call (.Name c p) [.Constant (.str m) j p2] [] pos)) none pos2) (sExn c) := by
  obtain ⟨C, h1, h2, h3, h4, h5, h6⟩ := T
  exact PS_imp (ps_raise hc tk (pmk_own PySem.F.excBase_ValueError h3 h1 h4 (raises_own h5 h6) hg hdb)) fun D σ H ⟨B, Z0, Z, ρ, o, x, e, k⟩ => by
    cases e
    exact k _ none Z σ H x ⟨h2.symm, trivial⟩
end
section
variable {P : Program} {w : World} {K : PySem.W.Frag} {mg : Str → Option Value} {base : Heap}
/-- THE RULE of a def that may raise -/
theorem fn_okX {x qual : Str} {st : Stmt} {f : Addr} {fd : FuncData} {N ps : List Str} {k m : Nat} {g : SEnv → Option Out} (F : Fun K x qual st f fd) (S : FnScope N ps (defScope st)) (hm : ps.length = m) (hn : m ≤ N.length)
    (hbody : ∀ (cdv : Value) (A : Around) (outer : List Env) (s : Shared) (H : Hp) (E : XK), Room k (A.deeper (PyProof.Rows.envOfC qual (defScope st) s.heap.objs.size f cdv)) → SsD (cxOf (L2.CX P w) P w K mg base N qual (defScope st) f cdv A outer s H E) (fun c d _ H => E c d H) (defBody st) g) :
    FnOk P w K mg base (L2.CX P w) (k + 1) f fd ps (FSp K (fnD N.length m g)) := by
  refine F.okX S (fun vs H Q E h => by rw [hm]; exact FSp_len h) fun cdv A outer s H vs Q E hr h => ⟨_, hbody cdv A outer s H E hr, body_read hn h⟩
end
section
variable {X : Cx} {E : WX}
/-- a call that may raise, and what is done with its value -/
def sCallK (F : Fn) (a : SEnv → Option (List Sl)) (k : Sl → SEnv → Option Out) : SEnv → Option Out := fun ρ => match a ρ with
  | some ss => match F ss with
    | some (.ret s) => k s ρ
    | some (.exn x) => some (.ex x ρ)
    | none => none
  | none => none
theorem callX_read {F : Fn} {a : SEnv → Option (List Sl)} {B Z0 Z H : Hp} {σ : L2.St} {ρ : SEnv} {ss : List Sl} {Q : VK} (x : St X.K B Z0 Z H σ ρ) (qa : a ρ = some ss)
    (kr : ∀ s, F ss = some (.ret s) → ∀ v Z' H', Step Z H Z' H' → vlR X.K H Z' H' v s → Q v H') (kx : ∀ y, F ss = some (.exn y) → ∀ c od Z' H', Step Z H Z' H' → exR X.K Z' H' y c od → E c od σ H') (hs : F ss ≠ none) :
    tCallS (FSp X.K F) (WE E) (AR X.K a) σ H Q := by
  refine ⟨B, Z0, Z, ρ, ss, x, qa, fun vs Z' H' k' r => ?_⟩
  cases qF : F ss with
  | none => exact absurd qF hs
  | some o =>
    refine ⟨H', Z', ss, o, Same.refl _, k'.zh, AllB_arg r, qF, ?_⟩
    cases o with
    | ret s => exact fun v Z2 H2 k2 r2 => kr s qF v Z2 H2 (k'.trans k2) (vlR.back (h := r2) k'.bh)
    | exn y => exact fun c od Z2 H2 k2 r2 => kx y qF c od Z2 H2 (k'.trans k2) r2
def sAsgX (i : Nat) (F : Fn) (a : SEnv → Option (List Sl)) : SEnv → Option Out := sCallK F a fun s ρ => (sto s).map fun t => .nx (put ρ i t)
def sRetX (F : Fn) (a : SEnv → Option (List Sl)) : SEnv → Option Out := sCallK F a fun s _ => some (.rt s)
def sDropX (F : Fn) (a : SEnv → Option (List Sl)) : SEnv → Option Out := sCallK F a fun _ ρ => some (.nx ρ)
theorem callK_inv {F : Fn} {a : SEnv → Option (List Sl)} {k : Sl → SEnv → Option Out} {ρ : SEnv} {o : Out} (h : sCallK F a k ρ = some o) : ∃ ss, a ρ = some ss ∧ ((∃ s, F ss = some (.ret s) ∧ k s ρ = some o) ∨ ∃ y, F ss = some (.exn y) ∧ o = .ex y ρ) := by
  unfold sCallK at h
  cases qa : a ρ with
  | none => rw [qa] at h; cases h
  | some ss =>
    rw [qa] at h
    refine ⟨ss, rfl, ?_⟩
    cases qF : F ss with
    | none => simp only [qF] at h; cases h
    | some r =>
      simp only [qF] at h
      cases r with
      | ret s => exact .inl ⟨s, rfl, h⟩
      | exn y => cases h; exact .inr ⟨y, rfl, rfl⟩
section
variable {k : Nat} {f : Addr} {fd : FuncData} {ps : List Str} {x y : Str} {p pos pos' spos : Pos} {e : Expr} {es : List Expr} {F : Fn} {a : SEnv → Option (List Sl)} {i : Nat}
theorem sd_asgX (hN : X.N.Nodup) (hi : X.N[i]? = some y) (hy : Loc X.env.scope y) (tk : Takes X E) (G : FnOk X.prog X.w X.K X.mg X.base (L2.CX X.prog X.w) k f fd ps (FSp X.K F)) (hr : Room k X.A) (hg : Gl X x) (hm : X.mg x = some (.ref f)) (hk : PySem.W.keepIn X.K (.ref f) = true) (hb : Binds X.K fd ps []) (ha : AD X (e :: es) a)
    (hdb : (x == ("__debug__" : Str)) = false := by decide) (h1 : starEach (e :: es) X.env = (false, eval e X.env) :: starEach es X.env := by rfl) (h2 : ((backTo pos (starEach es X.env)).any fun x => x.fst) = false := by rfl) (hs : swapsWith (.Call (.Name x p) (e :: es) [] pos) (some (.Name y pos')) spos.line X.env = pure false := by rfl) (hf : X.fn y = true ∨ X.env.scope.names.lookup y = some .local := by first | exact .inl rfl | exact .inr rfl | assumption) :
    SD X E (.Assign [.Name y pos'] (.Call (.Name x p) (e :: es) [] pos) spos) (sAsgX i F a) := PS_imp (ps_set hN hi hy (pe_callS G hr hg hm hk hb (fun σ => passAt tk σ) ha hdb h1 h2) hs hf) fun D σ H ⟨B, Z0, Z, ρ, o, x, e, k⟩ => by
  obtain ⟨ss, qa, h⟩ := callK_inv e
  refine callX_read x qa (fun s qF v Z' H' k' r => ?_) (fun y qF c od Z' H' k' r => ?_) (by rcases h with ⟨s, h, _⟩ | ⟨s, h, _⟩ <;> rw [h] <;> exact fun z => nomatch z)
  · rcases h with ⟨s', h, h2⟩ | ⟨y, h, _⟩
    · rw [qF] at h
      cases h
      cases qs : sto s with
      | none => rw [qs] at h2; cases h2
      | some t =>
        rw [qs] at h2
        cases h2
        exact k Z' _ H' (x.set k' i (sto_ok r qs))
    · rw [qF] at h; cases h
  · rcases h with ⟨s', h, h2⟩ | ⟨y', h, h2⟩
    · rw [qF] at h; cases h
    · rw [qF] at h
      cases h
      subst h2
      exact k c od Z' σ H' (x.step k') r
theorem sd_retX (tk : Takes X E) (G : FnOk X.prog X.w X.K X.mg X.base (L2.CX X.prog X.w) k f fd ps (FSp X.K F)) (hr : Room k X.A) (hg : Gl X x) (hm : X.mg x = some (.ref f)) (hk : PySem.W.keepIn X.K (.ref f) = true) (hb : Binds X.K fd ps []) (ha : AD X (e :: es) a)
    (hdb : (x == ("__debug__" : Str)) = false := by decide) (h1 : starEach (e :: es) X.env = (false, eval e X.env) :: starEach es X.env := by rfl) (h2 : ((backTo pos (starEach es X.env)).any fun x => x.fst) = false := by rfl) :
    SD X E (.Return (some (.Call (.Name x p) (e :: es) [] pos)) spos) (sRetX F a) := PS_imp (ps_ret (pe_callS G hr hg hm hk hb (fun σ => passAt tk σ) ha hdb h1 h2)) fun D σ H ⟨B, Z0, Z, ρ, o, x, e, k⟩ => by
  obtain ⟨ss, qa, h⟩ := callK_inv e
  refine callX_read x qa (fun s qF v Z' H' k' r => ?_) (fun y qF c od Z' H' k' r => ?_) (by rcases h with ⟨s, h, _⟩ | ⟨s, h, _⟩ <;> rw [h] <;> exact fun z => nomatch z)
  · rcases h with ⟨s', h, h2⟩ | ⟨y, h, _⟩
    · rw [qF] at h
      cases h
      cases h2
      obtain ⟨fp, h1, h2⟩ := r
      exact k v Z' H' (x.st.trans k') ⟨fp, h1, fun a ha => ⟨none_back x.bh (h2 a ha).1, (h2 a ha).2⟩⟩
    · rw [qF] at h; cases h
  · rcases h with ⟨s', h, h2⟩ | ⟨y', h, h2⟩
    · rw [qF] at h; cases h
    · rw [qF] at h
      cases h
      subst h2
      exact k c od Z' σ H' (x.step k') r
theorem sd_dropX (tk : Takes X E) (G : FnOk X.prog X.w X.K X.mg X.base (L2.CX X.prog X.w) k f fd ps (FSp X.K F)) (hr : Room k X.A) (hg : Gl X x) (hm : X.mg x = some (.ref f)) (hk : PySem.W.keepIn X.K (.ref f) = true) (hb : Binds X.K fd ps []) (ha : AD X (e :: es) a)
    (hdb : (x == ("__debug__" : Str)) = false := by decide) (h1 : starEach (e :: es) X.env = (false, eval e X.env) :: starEach es X.env := by rfl) (h2 : ((backTo pos (starEach es X.env)).any fun x => x.fst) = false := by rfl) (hs : swapsWith (.Call (.Name x p) (e :: es) [] pos) none spos.line X.env = pure false := by rfl) :
    SD X E (.Expr (.Call (.Name x p) (e :: es) [] pos) spos) (sDropX F a) := PS_imp (ps_expr (pe_callS G hr hg hm hk hb (fun σ => passAt tk σ) ha hdb h1 h2) hs) fun D σ H ⟨B, Z0, Z, ρ, o, x, e, k⟩ => by
  obtain ⟨ss, qa, h⟩ := callK_inv e
  refine callX_read x qa (fun s qF v Z' H' k' r => ?_) (fun y qF c od Z' H' k' r => ?_) (by rcases h with ⟨s, h, _⟩ | ⟨s, h, _⟩ <;> rw [h] <;> exact fun z => nomatch z)
  · rcases h with ⟨s', h, h2⟩ | ⟨y, h, _⟩
    · rw [qF] at h
      cases h
      cases h2
      exact k Z' σ H' (x.step k')
    · rw [qF] at h; cases h
  · rcases h with ⟨s', h, h2⟩ | ⟨y', h, h2⟩
    · rw [qF] at h; cases h
    · rw [qF] at h
      cases h
      subst h2
      exact k c od Z' σ H' (x.step k') r
end
/-! ### try -/
open Classical in
/-- what comes of f at every address -/
noncomputable def allA {α : Type} (f : Addr → Option α) : Option α := if h : ∃ o, ∀ a, f a = some o then some h.choose else none
theorem allA_inv {α : Type} {f : Addr → Option α} {o : α} (h : allA f = some o) (a : Addr) : f a = some o := by
  unfold allA at h
  split at h
  · rename_i q
    cases h
    exact q.choose_spec a
  · cases h
theorem allA_of {α : Type} {f : Addr → Option α} {o : α} (h : ∀ a, f a = some o) : allA f = some o := by
  have q : ∃ o, ∀ a, f a = some o := ⟨o, h⟩
  unfold allA
  rw [dif_pos q]
  have := q.choose_spec 0
  rw [h 0] at this
  cases this
  rw [← Option.some.inj ((h 0).symm.trans (q.choose_spec 0))]
/-- behind an except suite: the name goes; nothing is raised out of it -/
def ofSuite (i : Nat) : Out → Option Out
  | .nx ρ => some (.nx (put ρ i .un))
  | .bk ρ => some (.bk (put ρ i .un))
  | .ct ρ => some (.ct (put ρ i .un))
  | .rt s => some (.rt s)
  | _ => none
noncomputable def sTry (i : Nat) (cs ns : List Str) (fb : SEnv → Option Out) (fs : Addr → Exn → SEnv → Option Out) : SEnv → Option Out := fun ρ => match fb ρ with
  | some (.ex x ρ') => if x.cls ∈ cs then allA fun a => (fs a x (put ρ' i (.exc a))).bind (ofSuite i) else if x.cls ∈ ns then some (.ex x ρ') else none
  | o => o
theorem sTry_nx {i : Nat} {cs ns : List Str} {fb : SEnv → Option Out} {fs : Addr → Exn → SEnv → Option Out} {ρ : SEnv} {o : Out} (h : fb ρ = some o) (hn : ∀ x ρ', o ≠ .ex x ρ') : sTry i cs ns fb fs ρ = some o := by
  unfold sTry
  rw [h]
  cases o <;> first | rfl | exact absurd rfl (hn _ _)
theorem sTry_ex {i : Nat} {cs ns : List Str} {fb : SEnv → Option Out} {fs : Addr → Exn → SEnv → Option Out} {ρ ρ' : SEnv} {x : Exn} {o : Out} (h : fb ρ = some (.ex x ρ')) (hc : x.cls ∈ cs) (hs : ∀ a, (fs a x (put ρ' i (.exc a))).bind (ofSuite i) = some o) : sTry i cs ns fb fs ρ = some o := by
  unfold sTry
  rw [h]
  dsimp only
  rw [if_pos hc]
  exact allA_of hs
theorem sTry_out {i : Nat} {cs ns : List Str} {fb : SEnv → Option Out} {fs : Addr → Exn → SEnv → Option Out} {ρ ρ' : SEnv} {x : Exn} (h : fb ρ = some (.ex x ρ')) (hc : x.cls ∉ cs) (hn : x.cls ∈ ns) : sTry i cs ns fb fs ρ = some (.ex x ρ') := by
  unfold sTry
  rw [h]
  dsimp only
  rw [if_neg hc, if_pos hn]
theorem fa_nil {P : Str → Prop} : ∀ y ∈ ([] : List Str), P y := fun _ h => nomatch h
theorem fa_cons {P : Str → Prop} {a : Str} {l : List Str} (h : P a) (t : ∀ y ∈ l, P y) : ∀ y ∈ a :: l, P y := List.forall_mem_cons.mpr ⟨h, t⟩
/-- no wish: nothing is raised -/
abbrev WF : WX := fun _ _ _ _ => False
theorem suite_post {i : Nat} {B Z0 : Hp} {D : Ends} {u o : Out} {W : WX} (h : ofSuite i u = some o) (k : post X.K E B Z0 D o) : post X.K W B Z0 { nx := fun σ' H' => D.nx (σ'.set i none) H', rt := D.rt, bk := fun σ' H' => D.bk (σ'.set i none) H', ct := fun σ' H' => D.ct (σ'.set i none) H' } u := by
  cases u with
  | nx ρ => cases h; exact fun Z σ H s => k Z _ H (s.clear i)
  | bk ρ => cases h; exact fun Z σ H s => k Z _ H (s.clear i)
  | ct ρ => cases h; exact fun Z σ H s => k Z _ H (s.clear i)
  | rt s => cases h; exact k
  | ex x ρ => cases h
  | rm s ρ => cases h
theorem sd_try_as {x n : Str} {c : Value} {i : Nat} {body suite : List Stmt} {b₀ : Stmt} {np pos pos' : Pos} {cs ns : List Str} {fb : SEnv → Option Out} {fs : Addr → Exn → SEnv → Option Out} {Wo : WX} (tk : Takes X Wo) (hw : ∀ y ∈ ns, ∀ cl od σ H, E cl od σ H → Wo cl od σ H) (hs : X.stack = X.env :: X.outer) (hf : X.env.frame = some X.env.locals) (hN : X.N.Nodup) (hi : X.N[i]? = some n) (hln : X.env.kindOf n = some .local) (hc : Names X x c)
    (hcs : ∀ y ∈ cs, PySem.W.exmOne X.K (clsOf X.K y) c = some true) (hns : ∀ y ∈ ns, PySem.W.exmOne X.K (clsOf X.K y) c = some false)
    (hb : ∀ (W : WX) (pn : List (Addr × Obj)) (xe : Value → Shared → Prop), Takes (X.tr pn xe) W → PassesOwn (model X.prog X.w) X.A X.env xe → SsD (X.tr pn xe) W body fb)
    (hsu : ∀ (a : Addr) (oe : Obj) (cls : Value) (d : Option Addr) (pn : List (Addr × Obj)) (y : Exn), Zc cls d oe → (∃ vs, oe.data = .fields vs) → cls = clsOf X.K y.cls → (y.fs = none → d = none) → SsD (X.suite a ((a, oe) :: pn)) WF (b₀ :: suite) (fs a y)) :
    SD X E (.Try body [.ExceptHandler (some (.Name x np)) (some n) (b₀ :: suite) pos'] [] [] pos) (sTry i cs ns fb fs) := by
  refine PS_imp (ps_try_as (i := i) (tb := fun W => SR X.K W fb) (ts := fun a cls d D σ H => ∃ y : Exn, cls = clsOf X.K y.cls ∧ (y.fs = none → d = none) ∧ SR X.K WF (fs a y) D σ H) (Wout := Wo) hs hf hN hi hln hc tk hb
    (fun a oe cls d pn hz hd => ⟨fun pins s σ H D I ⟨y, e1, e2, h⟩ => (hsu a oe cls d pn y hz hd e1 e2).run pins s σ H D I h⟩)) fun D σ H ⟨B, Z0, Z, ρ, o, x, e, k⟩ => ?_
  unfold sTry at e
  cases q : fb ρ with
  | none => rw [q] at e; cases e
  | some u =>
    refine ⟨B, Z0, Z, ρ, u, x, q, ?_⟩
    rw [q] at e
    cases u with
    | ex y ρ' =>
      dsimp only at e
      intro cl od Z' σ' H' x' r
      by_cases c1 : y.cls ∈ cs
      · rw [if_pos c1] at e
        refine ⟨true, by rw [r.1]; exact hcs _ c1, fun _ a ha => ⟨y, r.1, fun z => ?_, ?_⟩, fun z => nomatch z⟩
        · have r2 := r.2
          rw [z] at r2
          cases od with
          | none => rfl
          | some _ => exact r2.elim
        · have e2 := allA_inv e a
          cases qs : fs a y (put ρ' i (.exc a)) with
          | none => rw [qs] at e2; cases e2
          | some v =>
            rw [qs] at e2
            exact ⟨B, Z0, Z', _, v, x'.set (s := .exc a) (Step.refl x'.zh) i ⟨[], ⟨rfl, rfl⟩, (fun _ h => nomatch h)⟩, qs, suite_post e2 k⟩
      · rw [if_neg c1] at e
        by_cases c2 : y.cls ∈ ns
        · rw [if_pos c2] at e
          cases e
          exact ⟨false, by rw [r.1]; exact hns _ c2, (fun z => nomatch z), fun _ => hw _ c2 _ _ _ _ (k cl od Z' σ' H' x' r)⟩
        · rw [if_neg c2] at e; cases e
    | nx ρ' => cases e; exact k
    | rt s => cases e; exact k
    | bk ρ' => cases e; exact k
    | ct ρ' => cases e; exact k
    | rm s ρ' => cases e; exact k
/-! ### isinstance of what was caught -/
def eIsE (a : Addr) (y : Exn) (ys ns : List Str) (i : Nat) : SEnv → Option Sl := fun ρ => match get ρ i with
  | .exc a' => if a' = a ∧ y.fs = none then (if y.cls ∈ ys then some (.pl (.bool true)) else if y.cls ∈ ns then some (.pl (.bool false)) else none) else none
  | _ => none
/-- the class n, asked whether it stands under c -/
def IsEOk (K : PySem.W.Frag) (n : Str) (c : Value) (b : Bool) : Prop := ∃ D : Addr, clsOf K n = .ref D ∧ ExcC K D ∧ PySem.W.kitOne K (.ref D) c = some b
theorem eIsE_inv {a : Addr} {y : Exn} {ys ns : List Str} {i : Nat} {ρ : SEnv} {s : Sl} (h : eIsE a y ys ns i ρ = some s) : get ρ i = .exc a ∧ y.fs = none ∧ ((y.cls ∈ ys ∧ s = .pl (.bool true)) ∨ (y.cls ∈ ns ∧ s = .pl (.bool false))) := by
  unfold eIsE at h
  split at h
  · rename_i a' q
    split at h
    · rename_i c
      obtain ⟨rfl, c⟩ := c
      refine ⟨q, c, ?_⟩
      split at h
      · rename_i d; cases h; exact .inl ⟨d, rfl⟩
      · split at h
        · rename_i d; cases h; exact .inr ⟨d, rfl⟩
        · cases h
    · cases h
  · cases h
theorem pd_isE {a : Addr} {oe : Obj} {cls : Value} {d : Option Addr} {pn : List (Addr × Obj)} {y : Exn} {ys ns : List Str} {i : Nat} {n C : Str} {c : V} {cv : Value} {p p1 p2 pos : Pos} (hg : Gl X "isinstance") (hm : X.mg "isinstance" = none) (hz : Zc cls d oe) (hf : ∃ vs, oe.data = .fields vs) (hy : cls = clsOf X.K y.cls) (hd : y.fs = none → d = none)
    (hv : PE (X.suite a ((a, oe) :: pn)) (.Name n p1) (tVar i)) (hC : PE (X.suite a ((a, oe) :: pn)) (.Name C p2) (tC c)) (hcv : ClsV c cv) (hys : ∀ m ∈ ys, IsEOk X.K m cv true) (hns : ∀ m ∈ ns, IsEOk X.K m cv false)
    (h1 : starEach [.Name n p1, .Name C p2] X.env = (false, eval (.Name n p1) X.env) :: starEach [.Name C p2] X.env := by rfl) (h3 : starEach [.Name C p2] X.env = (false, eval (.Name C p2) X.env) :: starEach [] X.env := by rfl) :
    PD (X.suite a ((a, oe) :: pn)) (.Call (.Name "isinstance" p) [.Name n p1, .Name C p2] [] pos) (eIsE a y ys ns i) := by
  refine ⟨fun pins s σ H Q I h => ?_⟩
  obtain ⟨B, Z0, Z, ρ, s0, x, e, k⟩ := h
  obtain ⟨q, hn, h⟩ := eIsE_inv e
  obtain ⟨b, D, hD, hE, hk, es⟩ : ∃ b D, clsOf X.K y.cls = .ref D ∧ ExcC X.K D ∧ PySem.W.kitOne X.K (.ref D) cv = some b ∧ s0 = .pl (.bool b) := by
    rcases h with ⟨m, e⟩ | ⟨m, e⟩
    · obtain ⟨D, h1, h2, h3⟩ := hys _ m; exact ⟨_, D, h1, h2, h3, e⟩
    · obtain ⟨D, h1, h2, h3⟩ := hns _ m; exact ⟨_, D, h1, h2, h3, e⟩
  have hz' : Zc (.ref D) none oe := by rw [← hD, ← hy, ← hd hn]; exact hz
  refine (pe_callB (X := X.suite a ((a, oe) :: pn)) (call_isE hE hz' hf) hg hm (by decide +kernel) (pa_cons hv (pa_cons hC pa_nil h3) h1) (by decide) (by decide) h1 (by rfl)).run pins s σ H Q I ?_
  obtain ⟨v, hv, r⟩ := x.var (i := i) (t := .exc a) (by rw [q]; rfl)
  obtain ⟨fp, ⟨_, hx⟩, _⟩ := r
  cases hx
  subst es
  exact ⟨_, hv, c, cv, b, rfl, fun u ru => hcv.eq ru, hk, k _ Z H (Step.refl x.zh) (vlR.pl (.bl b))⟩
/-- isinstance(e, (C1, C2, ..)) -/
def IsEOkT (K : PySem.W.Frag) (n : Str) (us : List Value) (b : Bool) : Prop := ∃ D : Addr, clsOf K n = .ref D ∧ ExcC K D ∧ PySem.W.kitAny K (.ref D) us = some b
def rIsET (K : PySem.W.Frag) (D a : Addr) : List V → Hp → VK → Prop := fun xs H Q => ∃ (tp : Addr) (cs : List V) (us : List Value) (b : Bool), xs = [.ref a, .ref tp] ∧ H tp = some (.tup cs) ∧ Paired ClsV cs us ∧ PySem.W.kitAny K (.ref D) us = some b ∧ Q (.bl b) H
theorem call_isET {a D : Addr} {oe : Obj} {pn : List (Addr × Obj)} (C : ExcC X.K D) (hz : Zc (.ref D) none oe) (hf : ∃ vs, oe.data = .fields vs) : CallR (X.suite a ((a, oe) :: pn)) (.builtin "isinstance") (rIsET X.K D a) := by
  intro pins s σ H xs us Q I r h
  obtain ⟨tp, cs, ws, b, rfl, hT, k, e, q⟩ := h
  obtain ⟨u1, u2, rfl, r1, r2⟩ := vals2 r
  cases (show u1 = Value.ref a from r1)
  cases (show u2 = Value.ref tp from r2)
  obtain ⟨hget, _⟩ := I.pin (a, oe) (List.mem_append.mpr (.inl List.mem_cons_self))
  obtain ⟨vs, hv⟩ := hf
  have J : PySem.W.InstAt s.heap a oe D none := by
    obtain ⟨oc, od, oda, osl⟩ := oe
    obtain ⟨h1, h2⟩ := hz
    dsimp only at h1 h2 hv
    subst h1 h2 hv
    exact ⟨hget, rfl, rfl, trivial⟩
  obtain ⟨_, its, rv, o, h1, h2, n, h3⟩ := (show ObjOk X.prog X.w H s.heap tp (.tup cs) from I.hok tp _ hT)
  have e3 := ClsV.all k rv
  subst e3
  obtain ⟨oc, od, dt, sl⟩ := o
  simp only at h2 h3
  subst h2 h3
  exact PySem.W.kia_tup (PySem.W.handS_kitx_exc C.hg C.hk C.hs C.hd C.ha C.hn C.ht C.hm) I.kIn J h1 e (fun z => nomatch z) fun tk => ⟨.bl b, H, I.kept (t' := tk) fun _ _ z => z, rfl, q⟩
def tVs (cs : List V) : TA := fun _ H Q => Q cs H
theorem pa_vnil {Y : Cx} : PA Y [] (tVs []) := PA_imp pa_nil fun σ H Q h => h
theorem pa_vcons {Y : Cx} {e : Expr} {es : List Expr} {v : V} {cs : List V} (h : PE Y e (tC v)) (t : PA Y es (tVs cs)) (h1 : starEach (e :: es) Y.env = (false, eval e Y.env) :: starEach es Y.env := by rfl) : PA Y (e :: es) (tVs (v :: cs)) := PA_imp (pa_cons h t h1) fun σ H Q h => h
theorem pd_isET {a : Addr} {oe : Obj} {cls : Value} {d : Option Addr} {pn : List (Addr × Obj)} {y : Exn} {ys ns : List Str} {i kk : Nat} {n : Str} {es : List Expr} {cs : List V} {us : List Value} {p p1 p2 pos : Pos} (hg : Gl X "isinstance") (hm : X.mg "isinstance" = none) (hz : Zc cls d oe) (hf : ∃ vs, oe.data = .fields vs) (hy : cls = clsOf X.K y.cls) (hd : y.fs = none → d = none)
    (hv : PE (X.suite a ((a, oe) :: pn)) (.Name n p1) (tVar i)) (hC : PA (X.suite a ((a, oe) :: pn)) es (tVs cs)) (hcv : Paired ClsV cs us) (hl : cs.length ≤ 1000) (hys : ∀ m ∈ ys, IsEOkT X.K m us true) (hns : ∀ m ∈ ns, IsEOkT X.K m us false)
    (h1 : starEach [.Name n p1, .Tuple es kk p2] X.env = (false, eval (.Name n p1) X.env) :: starEach [.Tuple es kk p2] X.env := by rfl) (h3 : starEach [.Tuple es kk p2] X.env = (false, eval (.Tuple es kk p2) X.env) :: starEach [] X.env := by rfl) :
    PD (X.suite a ((a, oe) :: pn)) (.Call (.Name "isinstance" p) [.Name n p1, .Tuple es kk p2] [] pos) (eIsE a y ys ns i) := by
  refine ⟨fun pins s σ H Q I h => ?_⟩
  obtain ⟨B, Z0, Z, ρ, s0, x, e, k⟩ := h
  obtain ⟨q, hn, h⟩ := eIsE_inv e
  obtain ⟨b, D, hD, hE, hk, es⟩ : ∃ b D, clsOf X.K y.cls = .ref D ∧ ExcC X.K D ∧ PySem.W.kitAny X.K (.ref D) us = some b ∧ s0 = .pl (.bool b) := by
    rcases h with ⟨m, e⟩ | ⟨m, e⟩
    · obtain ⟨D, h1, h2, h3⟩ := hys _ m; exact ⟨_, D, h1, h2, h3, e⟩
    · obtain ⟨D, h1, h2, h3⟩ := hns _ m; exact ⟨_, D, h1, h2, h3, e⟩
  have hz' : Zc (.ref D) none oe := by rw [← hD, ← hy, ← hd hn]; exact hz
  refine (pe_callB (X := X.suite a ((a, oe) :: pn)) (call_isET hE hz' hf) hg hm (by decide +kernel) (pa_cons hv (pa_cons (pe_tup hC) pa_nil h3) h1) (by decide) (by decide) h1 (by rfl)).run pins s σ H Q I ?_
  obtain ⟨v, hv, r⟩ := x.var (i := i) (t := .exc a) (by rw [q]; rfl)
  obtain ⟨fp, ⟨_, hx⟩, _⟩ := r
  cases hx
  subst es
  refine ⟨_, hv, by rw [sizeLine_eq]; omega, fun t ht => ⟨t, cs, us, b, rfl, upd_same, hcv, hk, ?_⟩⟩
  exact k _ _ _ (Step.newZ x.zh ht) (vlR.pl (.bl b))
/-! ### a, b = a list -/
def gLstF (n : Nat) (g : GsF) : GF := fun d ρ => match d with
  | .list ds => if ds.length = n then g ds ρ else none
  | _ => none
theorem gLstF_lst (n : Nat) (g : GsF) (ds : List D) (ρ : SEnv) : gLstF n g (.list ds) ρ = if ds.length = n then g ds ρ else none := rfl
theorem gd_lst {es : List Expr} {k : Nat} {g : GsF} {n : Nat} {pos : Pos} (hc : X.calm = true) (h : GsD X es g) (hn : (assignEach es X.env).length = n := by rfl) (hst : (assignEach es X.env).findIdx? (·.1) = none := by rfl) : GD X (.Tuple es k pos) (gLstF n g) :=
  PG_imp (pg_lst hc h hn hst) fun v σ H Q ⟨B, Z0, Z, ρ, d, ρ', x, hd, e, k⟩ => by
    cases d with
    | list ds =>
      change (if ds.length = n then g ds ρ else none) = some ρ' at e
      by_cases c : ds.length = n
      · rw [if_pos c] at e
        cases hd with
        | lst hq ha => exact ⟨_, _, rfl, x.zh.seq hq, by rw [DpAll_length ha]; exact c, B, Z0, Z, ρ, ds, ρ', x, ha, e, k⟩
      · rw [if_neg c] at e; cases e
    | _ => cases e
def sAsgTL (g : GF) (f : SEnv → Option Sl) : SEnv → Option Out := fun ρ => match (f ρ).bind toD with
  | some d => (g d ρ).map .nx
  | none => none
theorem sd_asgTL {tg e : Expr} {f : SEnv → Option Sl} {g : GF} {pos : Pos} (he : PD X e f) (hg : GD X tg g) (hs : swapsWithSole [tg] e pos.line X.env = pure false := by rfl) (hw : swappedStores [tg] e X.env = pure none := by rfl) (hq : (assignEach [tg] X.env).map (·.2) = [assign tg X.env] := by rfl) : SD X E (.Assign [tg] e pos) (sAsgTL g f) := PS_imp (ps_asg he hg hs hw hq) fun D σ H ⟨B, Z0, Z, ρ, o, x, e, k⟩ => by
  unfold sAsgTL at e
  cases q : f ρ with
  | none => rw [q] at e; cases e
  | some s =>
    rw [q] at e
    cases qd : toD s with
    | none => simp only [Option.bind, qd] at e; cases e
    | some d =>
      simp only [Option.bind, qd] at e
      cases qg : g d ρ with
      | none => rw [qg] at e; cases e
      | some ρ' =>
        rw [qg] at e
        cases e
        refine er1 x q fun v Z' H' k' r => ?_
        obtain ⟨Z2, k2, _, hd⟩ := toD_ok k' r qd
        exact ⟨B, Z0, Z2, ρ, d, ρ', x.step k2, hd, qg, fun σ' x' => k Z2 σ' H' x'⟩
end
/-! ### reckoning -/
theorem fnD_ex {n m : Nat} {g : SEnv → Option Out} {ss : List Sl} {x : Exn} {ρ : SEnv} (hl : ss.length = m) (h : g (ss ++ List.replicate (n - ss.length) .un) = some (.ex x ρ)) : fnD n m g ss = some (.exn x) := by
  rw [fnD_def, if_pos hl, h]
theorem sSeq_ex {f g : SEnv → Option Out} {ρ ρ' : SEnv} {x : Exn} (h : f ρ = some (.ex x ρ')) : sSeq f g ρ = some (.ex x ρ') := by unfold sSeq; rw [h]
theorem wipeO_ex (is : List Nat) (x : Exn) (ρ : SEnv) : wipeO is (.ex x ρ) = .ex x (wipe1 ρ is) := rfl
theorem sExn_def (c : Str) (ρ : SEnv) : sExn c ρ = some (.ex ⟨c, none⟩ ρ) := rfl
theorem sAsgX_ret {i : Nat} {F : Fn} {a : SEnv → Option (List Sl)} {ρ : SEnv} {ss : List Sl} {s t : Sl} (ha : a ρ = some ss) (hF : F ss = some (.ret s)) (hs : sto s = some t) : sAsgX i F a ρ = some (.nx (put ρ i t)) := by
  unfold sAsgX sCallK
  rw [ha]
  simp only [hF, hs, Option.map]
theorem sAsgX_exn {i : Nat} {F : Fn} {a : SEnv → Option (List Sl)} {ρ : SEnv} {ss : List Sl} {x : Exn} (ha : a ρ = some ss) (hF : F ss = some (.exn x)) : sAsgX i F a ρ = some (.ex x ρ) := by
  unfold sAsgX sCallK
  rw [ha]
  simp only [hF]
theorem sRetX_ret {F : Fn} {a : SEnv → Option (List Sl)} {ρ : SEnv} {ss : List Sl} {s : Sl} (ha : a ρ = some ss) (hF : F ss = some (.ret s)) : sRetX F a ρ = some (.rt s) := by
  unfold sRetX sCallK
  rw [ha]
  simp only [hF]
theorem sRetX_exn {F : Fn} {a : SEnv → Option (List Sl)} {ρ : SEnv} {ss : List Sl} {x : Exn} (ha : a ρ = some ss) (hF : F ss = some (.exn x)) : sRetX F a ρ = some (.ex x ρ) := by
  unfold sRetX sCallK
  rw [ha]
  simp only [hF]
theorem sDropX_ret {F : Fn} {a : SEnv → Option (List Sl)} {ρ : SEnv} {ss : List Sl} {s : Sl} (ha : a ρ = some ss) (hF : F ss = some (.ret s)) : sDropX F a ρ = some (.nx ρ) := by
  unfold sDropX sCallK
  rw [ha]
  simp only [hF]
theorem sDropX_exn {F : Fn} {a : SEnv → Option (List Sl)} {ρ : SEnv} {ss : List Sl} {x : Exn} (ha : a ρ = some ss) (hF : F ss = some (.exn x)) : sDropX F a ρ = some (.ex x ρ) := by
  unfold sDropX sCallK
  rw [ha]
  simp only [hF]
theorem eIsE_yes {a : Addr} {y : Exn} {ys ns : List Str} {i : Nat} {ρ : SEnv} (h : get ρ i = .exc a) (hn : y.fs = none) (hy : y.cls ∈ ys) : eIsE a y ys ns i ρ = some (.pl (.bool true)) := by
  unfold eIsE
  rw [h]
  simp only [hn, and_self, if_true, if_pos hy]
theorem eIsE_no {a : Addr} {y : Exn} {ys ns : List Str} {i : Nat} {ρ : SEnv} (h : get ρ i = .exc a) (hn : y.fs = none) (hy : y.cls ∉ ys) (hz : y.cls ∈ ns) : eIsE a y ys ns i ρ = some (.pl (.bool false)) := by
  unfold eIsE
  rw [h]
  simp only [hn, and_self, if_true, if_neg hy, if_pos hz]
theorem eIsE_def (a : Addr) (c : Str) (ys ns : List Str) (i : Nat) (ρ : SEnv) : eIsE a ⟨c, none⟩ ys ns i ρ = match get ρ i with
  | .exc a' => if a' = a then (if c ∈ ys then some (.pl (.bool true)) else if c ∈ ns then some (.pl (.bool false)) else none) else none
  | _ => none := by
  unfold eIsE
  cases get ρ i <;> simp
end DL

set_option Elab.async false
set_option linter.all false
set_option maxRecDepth 100000
set_option maxHeartbeats 1000000
/-! DLO: objects: made, their attributes read and stored, methods that read, methods that change their object. -/
namespace DL
open PySem PySem.Spec PyProof.Rows L2
/-! ### attributes as lists -/
def putS (f : Str) (t : Sl) : List (Str × Sl) → List (Str × Sl)
  | [] => [(f, t)]
  | (g, s) :: r => if g = f then (g, t) :: r else (g, s) :: putS f t r
section
variable {K : PySem.W.Frag} {B Z H : Hp}
theorem fsR_len : ∀ {fs : List (Str × Sl)} {vs : List (Str × V)} {fq : List Addr}, fsR K B Z H fs vs fq → vs.length = fs.length
  | [], _, _, h => by rw [h.1]; rfl
  | (n, s) :: r, _, _, ⟨v, ws, a, b, e1, e2, hd, h1, h2⟩ => by
    rw [e1, List.length_cons, List.length_cons, fsR_len h2]
theorem fsR_none : ∀ {fs : List (Str × Sl)} {vs : List (Str × V)} {fq : List Addr} {f : Str}, fsR K B Z H fs vs fq → fs.lookup f = none → vs.lookup f = none
  | [], _, _, _, h, _ => by rw [h.1]; rfl
  | (n, s) :: r, _, _, f, ⟨v, ws, a, b, e1, e2, hd, h1, h2⟩, e => by
    rw [e1]
    rw [List.lookup_cons] at e ⊢
    cases c : f == n with
    | true => rw [c] at e; cases e
    | false => rw [c] at e; exact fsR_none h2 e
theorem fsR_get : ∀ {fs : List (Str × Sl)} {vs : List (Str × V)} {fq : List Addr} {f : Str} {s : Sl}, fsR K B Z H fs vs fq → fs.lookup f = some s → ∃ v fp, vs.lookup f = some v ∧ slR K B Z H s (some v) fp ∧ ∀ a ∈ fp, a ∈ fq
  | [], _, _, _, _, _, e => by cases e
  | (n, s0) :: r, _, _, f, s, ⟨v, ws, a, b, e1, e2, hd, h1, h2⟩, e => by
    rw [e1, e2]
    rw [List.lookup_cons] at e ⊢
    cases c : f == n with
    | true => rw [c] at e; cases e; exact ⟨v, a, rfl, h1, fun x hx => List.mem_append_left _ hx⟩
    | false =>
      rw [c] at e
      obtain ⟨v', fp, g1, g2, g3⟩ := fsR_get h2 e
      exact ⟨v', fp, g1, g2, fun x hx => List.mem_append_right _ (g3 x hx)⟩
theorem fsR_put {f : Str} {t : Sl} {v : V} {fpt : List Addr} (ht : slR K B Z H t (some v) fpt) : ∀ {fs : List (Str × Sl)} {vs : List (Str × V)} {fq : List Addr}, fsR K B Z H fs vs fq → (∀ a ∈ fpt, a ∉ fq) →
    ∃ fq', fsR K B Z H (putS f t fs) (putF f v vs) fq' ∧ ∀ a ∈ fq', a ∈ fq ∨ a ∈ fpt
  | [], _, _, h, hd => by
    rw [h.1]
    exact ⟨fpt, ⟨v, [], fpt, [], rfl, (List.append_nil _).symm, (fun _ _ q => nomatch q), ht, rfl, rfl⟩, fun a ha => .inr ha⟩
  | (n, s) :: r, _, _, ⟨v0, ws, a, b, e1, e2, hd0, h1, h2⟩, hd => by
    rw [e1]
    unfold putS putF
    by_cases c : n = f
    · rw [if_pos c, if_pos c]
      refine ⟨fpt ++ b, ⟨v, ws, fpt, b, rfl, rfl, fun x hx q => hd x hx (by rw [e2]; exact List.mem_append_right _ q), ht, h2⟩, fun x hx => ?_⟩
      rcases List.mem_append.mp hx with q | q
      · exact .inr q
      · exact .inl (by rw [e2]; exact List.mem_append_right _ q)
    · rw [if_neg c, if_neg c]
      obtain ⟨b', g1, g2⟩ := fsR_put ht h2 fun x hx q => hd x hx (by rw [e2]; exact List.mem_append_right _ q)
      refine ⟨a ++ b', ⟨v0, _, a, b', rfl, rfl, fun x hx q => ?_, h1, g1⟩, fun x hx => ?_⟩
      · rcases g2 x q with z | z
        · exact hd0 x hx z
        · exact hd x z (by rw [e2]; exact List.mem_append_left _ hx)
      · rcases List.mem_append.mp hx with q | q
        · exact .inl (by rw [e2]; exact List.mem_append_left _ q)
        · rcases g2 x q with z | z
          · exact .inl (by rw [e2]; exact List.mem_append_right _ z)
          · exact .inr z
end
/-! ### a class and its attribute -/
def FldOk (K : PySem.W.Frag) (f : Str) (c : Str) : Prop := ∃ C : Addr, clsOf K c = .ref C ∧ Cls K C ∧ NoAttr K C f
section
variable {X : Cx} {E : WX}
/-- e.f -/
def fldS (cs : List Str) (f : Str) : Sl → Option Sl
  | .obj _ c fs => if c ∈ cs then (fs.lookup f).bind borq else none
  | .bob c fs => if c ∈ cs then (fs.lookup f).bind borq else none
  | _ => none
def eFld (cs : List Str) (f : Str) (a : SEnv → Option Sl) : SEnv → Option Sl := fun ρ => (a ρ).bind (fldS cs f)
theorem pd_fld {e : Expr} {a : SEnv → Option Sl} {cs : List Str} {f : Str} {pos : Pos} (he : PD X e a) (hC : ∀ c ∈ cs, FldOk X.K f c) (hb : attributeBase e f X.env (eval e X.env) = eval e X.env := by rfl) : PD X (.Attribute e f pos) (eFld cs f a) :=
  PE_imp (pe_fld he hb) fun σ H Q ⟨B, Z0, Z, ρ, s, x, e, k⟩ => by
    unfold eFld at e
    cases q : a ρ with
    | none => rw [q] at e; cases e
    | some t =>
      rw [q] at e
      refine er1 x q fun v Z' H' k' r => ?_
      have go : ∀ {c : Str} {fs : List (Str × Sl)}, (if c ∈ cs then (fs.lookup f).bind borq else none) = some s → (∃ p C dx vs fq, v = .ref p ∧ clsOf X.K c = .ref C ∧ H' p = some (.ins C dx vs) ∧ fsR X.K H' Z' H' fs vs fq) → ∃ a C dx fs v_1, v = .ref a ∧ H' a = some (.ins C dx fs) ∧ Cls X.K C ∧ NoAttr X.K C f ∧ fs.lookup f = some v_1 ∧ Q v_1 H' := by
        intro c fs e ⟨p, C, dx, vs, fq, hv, hc, hp, hf⟩
        by_cases hm : c ∈ cs
        · rw [if_pos hm] at e
          obtain ⟨C', h1, h2, h3⟩ := hC c hm
          rw [hc] at h1
          cases h1
          cases ql : fs.lookup f with
          | none => rw [ql] at e; cases e
          | some u =>
            rw [ql] at e
            obtain ⟨w, fp, g1, g2, _⟩ := fsR_get hf ql
            obtain ⟨w', ew, g3⟩ := slot_val g2 (Same.refl _) e
            cases ew
            exact ⟨p, C, dx, vs, w, hv, hp, h2, h3, g1, k w Z' H' k' ⟨[], g3, fun _ h => nomatch h⟩⟩
        · rw [if_neg hm] at e; cases e
      obtain ⟨fp, h1, _⟩ := r
      cases t with
      | obj ad c fs =>
        obtain ⟨p, C, dx, vs, fq, _, hv, _, hc, hp, _, hf⟩ := h1
        exact go e ⟨p, C, dx, vs, fq, Option.some.inj hv, hc, hp, hf⟩
      | bob c fs =>
        obtain ⟨_, p, C, dx, vs, fq, hv, hc, hp, hf⟩ := h1
        exact go e ⟨p, C, dx, vs, fq, Option.some.inj hv, hc, hp, hf⟩
      | _ => cases e
/-- a method that reads: which def stands behind it, class by class -/
def MethOk (X : Cx) (m : Str) (k : Nat) (c : Str) (F : Fn) : Prop := ∃ (C f : Addr) (fd : FuncData) (ps : List Str), clsOf X.K c = .ref C ∧ Cls X.K C ∧ Meth X.K C m f ∧ FnOk X.prog X.w X.K X.mg X.base L2.CX0 k f fd ps (FSp X.K F) ∧ Binds X.K fd ps []
def objS : Sl → Option (Str × List (Str × Sl))
  | .obj _ c fs => some (c, fs)
  | .bob c fs => some (c, fs)
  | _ => none
theorem objS_ok {K : PySem.W.Frag} {H0 Z H : Hp} {v : V} {s : Sl} {c : Str} {fs : List (Str × Sl)} (h : vlR K H0 Z H v s) (e : objS s = some (c, fs)) : bor s = .bob c fs ∧ ∃ p C dx vs fq, v = .ref p ∧ clsOf K c = .ref C ∧ H p = some (.ins C dx vs) ∧ fsR K H Z H fs vs fq := by
  obtain ⟨fp, h1, _⟩ := h
  cases s with
  | obj ad c' fs' =>
    cases e
    obtain ⟨p, C, dx, vs, fq, _, hv, _, hc, hp, _, hf⟩ := h1
    exact ⟨rfl, p, C, dx, vs, fq, Option.some.inj hv, hc, hp, hf⟩
  | bob c' fs' =>
    cases e
    obtain ⟨_, p, C, dx, vs, fq, hv, hc, hp, hf⟩ := h1
    exact ⟨rfl, p, C, dx, vs, fq, Option.some.inj hv, hc, hp, hf⟩
  | _ => cases e
def methF (tab : List (Str × Fn)) (m : Str) (s : Sl) (ss : List Sl) : Option Sl := (objS s).bind fun q => if q.2.lookup m = none then (tab.lookup q.1).bind fun F => match F (.bob q.1 q.2 :: ss) with
    | some (.ret r) => some r
    | _ => none
  else none
theorem methF_inv {tab : List (Str × Fn)} {m : Str} {s : Sl} {ss : List Sl} {r : Sl} (h : methF tab m s ss = some r) : ∃ c fs F, objS s = some (c, fs) ∧ fs.lookup m = none ∧ tab.lookup c = some F ∧ F (.bob c fs :: ss) = some (.ret r) := by
  unfold methF at h
  cases q : objS s with
  | none => rw [q] at h; cases h
  | some cf =>
    obtain ⟨c, fs⟩ := cf
    rw [q] at h
    change (if fs.lookup m = none then _ else none) = some r at h
    by_cases hm : fs.lookup m = none
    · rw [if_pos hm] at h
      cases qt : tab.lookup c with
      | none => simp only [qt] at h; cases h
      | some F =>
        simp only [qt, Option.bind] at h
        split at h
        · rename_i r' qF; cases h; exact ⟨c, fs, F, rfl, hm, qt, qF⟩
        · cases h
    · rw [if_neg hm] at h; cases h
def eMeth0 (tab : List (Str × Fn)) (m : Str) (a : SEnv → Option Sl) : SEnv → Option Sl := fun ρ => (a ρ).bind fun s => methF tab m s []
theorem pd_meth0 {pl : Sem Bool} {o : Expr} {a : SEnv → Option Sl} {tab : List (Str × Fn)} {m : Str} {k : Nat} {apos pos : Pos} (he : PD X o a) (hr : Room k X.A) (hT : ∀ c F, tab.lookup c = some F → MethOk X m k c F)
    (ht : eval (.Call (.Attribute o m apos) [] [] pos) X.env = (do
      let ov ← eval o X.env
      standAt apos.atName
      let (f, first) ← holding [ov] (getMethod ov m pl)
      callWith pos f first (backTo pos (starEach [] X.env)) (backToKw pos (keywordEach [] X.env))) := by rfl) : PD X (.Call (.Attribute o m apos) [] [] pos) (eMeth0 tab m a) := by
  refine ⟨fun pins s σ H Q I h => ?_⟩
  obtain ⟨B, Z0, Z, ρ, s0, x, e, kk⟩ := h
  unfold eMeth0 at e
  cases q : a ρ with
  | none => rw [q] at e; cases e
  | some s1 =>
    rw [q] at e
    obtain ⟨c, fs, F, h1, h2, h3, h4⟩ := methF_inv e
    obtain ⟨C, f, fd, ps, g1, g2, g3, g4, g5⟩ := hT c F h3
    refine (pe_meth0 (pl := pl) he g2 g3 g4 hr g5 .nil (L2.pass0 (X := X)) ht).run pins s σ H Q I ?_
    refine er1 x q fun v Z' H' k' r => ?_
    obtain ⟨hb, p, C', dx, vs, fq, hv, hc, hp, hf⟩ := objS_ok r h1
    rw [g1] at hc
    cases hc
    refine ⟨p, dx, vs, hv, hp, fsR_none hf h2, ?_⟩
    have hself := bor_ok r
    rw [hb] at hself
    refine ⟨H', Z', [.bob c fs], .ret s0, Same.refl _, k'.zh, AllB_arg (vs := [v]) ⟨hself, trivial⟩, h4, fun w Z2 H2 k2 r2 => kk w Z2 H2 (k'.trans k2) ?_⟩
    exact vlR.back (h := r2) k'.bh
def eMeth (tab : List (Str × Fn)) (m : Str) (a : SEnv → Option Sl) (as : SEnv → Option (List Sl)) : SEnv → Option Sl := fun ρ => (a ρ).bind fun s => (as ρ).bind fun ss => methF tab m s ss
theorem pd_meth {pl : Sem Bool} {o e : Expr} {es : List Expr} {a : SEnv → Option Sl} {as : SEnv → Option (List Sl)} {tab : List (Str × Fn)} {m : Str} {k : Nat} {apos pos : Pos} (he : PD X o a) (hr : Room k X.A) (ha : AD X (e :: es) as) (hT : ∀ c F, tab.lookup c = some F → MethOk X m k c F)
    (h1 : starEach (e :: es) X.env = (false, eval e X.env) :: starEach es X.env := by rfl) (h2 : (backTo pos (starEach es X.env)).any (·.1) = false := by rfl)
    (ht : eval (.Call (.Attribute o m apos) (e :: es) [] pos) X.env = (do
      let ov ← eval o X.env
      standAt apos.atName
      let (f, first) ← holding [ov] (getMethod ov m pl)
      callWith pos f first (backTo pos (starEach (e :: es) X.env)) (backToKw pos (keywordEach [] X.env))) := by rfl) : PD X (.Call (.Attribute o m apos) (e :: es) [] pos) (eMeth tab m a as) := by
  refine ⟨fun pins s σ H Q I h => ?_⟩
  obtain ⟨B, Z0, Z, ρ, s0, x, e, kk⟩ := h
  unfold eMeth at e
  cases q : a ρ with
  | none => rw [q] at e; cases e
  | some s1 =>
    rw [q] at e
    cases qs : as ρ with
    | none => simp only [qs, Option.bind] at e; cases e
    | some ss =>
      simp only [qs, Option.bind] at e
      obtain ⟨c, fs, F, g6, g7, g8, g9⟩ := methF_inv e
      obtain ⟨C, f, fd, ps, g1, g2, g3, g4, g5⟩ := hT c F g8
      refine (pe_meth (pl := pl) he g2 g3 g4 hr g5 .nil (L2.pass0 (X := X)) ha h1 h2 ht).run pins s σ H Q I ?_
      refine er1 x q fun v Z' H' k' r => ?_
      obtain ⟨hb, p, C', dx, vs, fq, hv, hc, hp, hf⟩ := objS_ok r g6
      rw [g1] at hc
      cases hc
      refine ⟨p, dx, vs, hv, hp, fsR_none hf g7, ?_⟩
      refine ⟨B, Z0, Z', ρ, ss, x.step k', qs, fun us Z2 H2 k2 r2 => ?_⟩
      have hself := bor_ok (r.step k2)
      rw [hb] at hself
      show FSp X.K F (v :: (us ++ [])) H2 Q _
      rw [List.append_nil]
      refine ⟨H2, Z2, .bob c fs :: ss, .ret s0, Same.refl _, k2.zh, AllB_arg (vs := v :: us) ⟨hself, r2⟩, g9, fun w Z3 H3 k3 r3 => kk w Z3 H3 ((k'.trans k2).trans k3) ?_⟩
      exact vlR.back (h := r3) (k'.trans k2).bh
theorem tab_nil {P : Str → Fn → Prop} : ∀ c F, ([] : List (Str × Fn)).lookup c = some F → P c F := fun _ _ h => nomatch h
theorem tab_cons {P : Str → Fn → Prop} {c0 : Str} {F0 : Fn} {l : List (Str × Fn)} (h : P c0 F0) (t : ∀ c F, l.lookup c = some F → P c F) : ∀ c F, ((c0, F0) :: l).lookup c = some F → P c F := fun c F e => by
  rw [List.lookup_cons] at e
  cases q : c == c0 with
  | true => rw [q] at e; cases e; rw [beq_iff_eq.mp q]; exact h
  | false => rw [q] at e; exact t c F e
/-! ### isinstance of an object -/
structure InsT (K : PySem.W.Frag) (C : Addr) : Prop where
  cl : Cls K C
  ha : PySem.W.findIn K (.ref C) "__class__" = some (some (.builtin "object.__class__"))
  hn : PySem.W.specialIn K (.builtin "object.__class__") "__get__" = some (some (.builtin "getset_descriptor.__get__"))
  htk : PySem.W.takesIn K (.builtin "object.__class__") = some true
  hm : PySem.W.mroIn K C (.type "object") = some true
def IsIOk (K : PySem.W.Frag) (D : Value) (b : Bool) (c : Str) : Prop := ∃ C : Addr, clsOf K c = .ref C ∧ InsT K C ∧ PySem.W.kitOne K (.ref C) D = some b
def eIsO (ys ns : List Str) (a : SEnv → Option Sl) : SEnv → Option Sl := fun ρ => ((a ρ).bind objS).bind fun q => if q.1 ∈ ys then some (.pl (.bool true)) else if q.1 ∈ ns then some (.pl (.bool false)) else none
theorem pd_isO {p pos p2 : Pos} {e : Expr} {D : Str} {CD : Addr} {a : SEnv → Option Sl} {ys ns : List Str} (hg : Gl X "isinstance") (hm : X.mg "isinstance" = none) (hg2 : Gl X D) (hm2 : X.mg D = some (.ref CD)) (he : PD X e a) (hys : ∀ c ∈ ys, IsIOk X.K (.ref CD) true c) (hns : ∀ c ∈ ns, IsIOk X.K (.ref CD) false c)
    (hd : (D == ("__debug__" : Str)) = false := by decide) (h1 : starEach [e, .Name D p2] X.env = (false, eval e X.env) :: starEach [.Name D p2] X.env := by rfl) (h3 : starEach [.Name D p2] X.env = (false, eval (.Name D p2) X.env) :: starEach [] X.env := by rfl) : PD X (.Call (.Name "isinstance" p) [e, .Name D p2] [] pos) (eIsO ys ns a) :=
  PE_imp (pe_callB call_isi hg hm (by decide +kernel) (pa_cons he (pa_cons (pe_glob (v := .ref CD) hg2 hm2 rfl hd) pa_nil h3) h1) (by decide) (by decide) h1 (by rfl)) fun σ H Q ⟨B, Z0, Z, ρ, s, x, e, k⟩ => by
    unfold eIsO at e
    cases q : a ρ with
    | none => rw [q] at e; cases e
    | some t =>
      rw [q] at e
      cases qo : objS t with
      | none => simp only [Option.bind, qo] at e; cases e
      | some cf =>
        obtain ⟨c, fs⟩ := cf
        simp only [Option.bind, qo] at e
        obtain ⟨b, C, hC, hI, hk, es⟩ : ∃ b C, clsOf X.K c = .ref C ∧ InsT X.K C ∧ PySem.W.kitOne X.K (.ref C) (.ref CD) = some b ∧ s = .pl (.bool b) := by
          by_cases c1 : c ∈ ys
          · rw [if_pos c1] at e; cases e
            obtain ⟨C, z1, z2, z3⟩ := hys c c1
            exact ⟨true, C, z1, z2, z3, rfl⟩
          · rw [if_neg c1] at e
            by_cases c2 : c ∈ ns
            · rw [if_pos c2] at e; cases e
              obtain ⟨C, z1, z2, z3⟩ := hns c c2
              exact ⟨false, C, z1, z2, z3, rfl⟩
            · rw [if_neg c2] at e; cases e
        refine er1 x q fun v Z' H' k' r => ?_
        obtain ⟨hb, p, C', dx, vs, fq, hv, hc, hp, hf⟩ := objS_ok r qo
        rw [hC] at hc
        cases hc
        subst hv
        subst es
        exact ⟨.ref p, .ref CD, .ref C, .ref CD, b, rfl, .own CD, .base (.ins hp hI.cl hI.ha hI.hn hI.htk hI.hm), hk, k _ Z' H' k' (vlR.pl (.bl b))⟩
/-! ### defs that change their first argument -/
abbrev FnM := List Sl → Option (Rs × Sl)
def selfR (K : PySem.W.Frag) (B Z H : Hp) (s : Sl) (v : Option V) : Prop := ∃ fp, slR K B Z H s v fp ∧ ∀ a ∈ fp, B a = none ∧ Z a = none
def FSpM (K : PySem.W.Frag) (F : FnM) : Sp := fun vs H Q E => ∃ B Z ss r s', Same B H ∧ Same Z H ∧ ArgR K B Z H vs ss ∧ F ss = some (r, s') ∧ match r with
  | .ret s => ∀ v Z1 H1 Z' H', StepB B Z Z1 H1 → Step Z1 H1 Z' H' → selfR K B Z1 H1 s' (vs[0]?) → vlR K H1 Z' H' v s → Q v H'
  | .exn x => ∀ c od Z' H', StepB B Z Z' H' → selfR K B Z' H' s' (vs[0]?) → exR K Z' H' x c od → E c od H'
/-- what the object p has become -/
def slfOf (p : Addr) (ρ : SEnv) : Option Sl := match get ρ 0 with
  | .obj (some q) c fs => if q = p then some (.obj (some q) c fs) else none
  | _ => none
def fnM (n m : Nat) (g : SEnv → Option Out) : FnM := fun ss => if ss.length = m then match get ss 0 with
    | .obj (some p) _ _ => match g (ent n ss) with
      | some (.rm s ρ) => (slfOf p ρ).map fun t => (.ret s, t)
      | some (.nx ρ) => (slfOf p ρ).map fun t => (.ret (.pl .none), t)
      | some (.ex x ρ) => (slfOf p ρ).map fun t => (.exn x, t)
      | _ => none
    | _ => none
  else none
theorem St.self {K : PySem.W.Frag} {B Z0 Z H : Hp} {σ : L2.St} {ρ : SEnv} (x : St K B Z0 Z H σ ρ) {p : Addr} {t : Sl} (e : slfOf p ρ = some t) : selfR K B Z H t (some (.ref p)) := by
  obtain ⟨st, len, fp, h1, h2, h3⟩ := x
  unfold slfOf at e
  split at e
  · rename_i q c fs qg
    split at e
    · rename_i hq
      subst hq
      cases e
      have h := h1 0
      rw [qg] at h
      obtain ⟨p, C, dx, vs, fq, e1, e2, e3, e4⟩ := id h
      have := e3 q rfl
      subst this
      rw [e2] at h
      exact ⟨_, h, h3 0⟩
    · cases e
  · cases e
theorem bodyM_read {K : PySem.W.Frag} {E : XK} {N : List Str} {m : Nat} {g : SEnv → Option Out} {vs : List V} {H : Hp} {Q : VK} (hm : m ≤ N.length) (h : FSpM K (fnM N.length m g) vs H Q E) : SR K (fun c d _ H => E c d H) g { nx := fun _ H' => Q .non H', rt := Q } (L2.start N vs) H := by
  obtain ⟨B, Z, ss, r, s', bh, zh, a, e, k⟩ := h
  unfold fnM at e
  by_cases c : ss.length = m
  · rw [if_pos c] at e
    have x := st_start bh zh a (N := N) (by rw [a.1, c]; exact hm)
    split at e
    · rename_i p c0 fs0 q0
      have hv : vs[0]? = some (.ref p) := by
        obtain ⟨_, fp, h1, _⟩ := a
        have := h1 0
        rw [q0] at this
        obtain ⟨p', C, dx, ws, fq, e1, e2, e3, e4⟩ := this
        rw [e2, e3 p rfl]
      rw [hv] at k
      split at e
      · rename_i s ρ' q
        cases qs : slfOf p ρ' with
        | none => rw [qs] at e; cases e
        | some t =>
          rw [qs] at e
          cases e
          exact ⟨B, Z, Z, _, _, x, q, fun v Z' Z1 σ H1 H' x1 k1 r1 => k v Z1 H1 Z' H' x1.st k1 (x1.self qs) r1⟩
      · rename_i ρ' q
        cases qs : slfOf p ρ' with
        | none => rw [qs] at e; cases e
        | some t =>
          rw [qs] at e
          cases e
          exact ⟨B, Z, Z, _, _, x, q, fun Z1 σ H1 x1 => k .non Z1 H1 Z1 H1 x1.st (Step.refl x1.zh) (x1.self qs) (vlR.pl .non)⟩
      · rename_i ex ρ' q
        cases qs : slfOf p ρ' with
        | none => rw [qs] at e; cases e
        | some t =>
          rw [qs] at e
          cases e
          exact ⟨B, Z, Z, _, _, x, q, fun c od Z' σ' H' x' r => k c od Z' H' x'.st (x'.self qs) r⟩
      · cases e
    · cases e
  · rw [if_neg c] at e; cases e
theorem FSpM_len {K : PySem.W.Frag} {n m : Nat} {g : SEnv → Option Out} {vs : List V} {H : Hp} {Q : VK} {E : XK} (h : FSpM K (fnM n m g) vs H Q E) : vs.length = m := by
  obtain ⟨B, Z, ss, r, s', bh, zh, a, e, k⟩ := h
  unfold fnM at e
  by_cases c : ss.length = m
  · rw [a.1, c]
  · rw [if_neg c] at e; cases e
section
variable {P : Program} {w : World} {K : PySem.W.Frag} {mg : Str → Option Value} {base : Heap}
theorem fnM_ok {x qual : Str} {st : Stmt} {f : Addr} {fd : FuncData} {N ps : List Str} {k m : Nat} {g : SEnv → Option Out} (F : Fun K x qual st f fd) (S : FnScope N ps (defScope st)) (hm : ps.length = m) (hn : m ≤ N.length)
    (hbody : ∀ (cdv : Value) (A : Around) (outer : List Env) (s : Shared) (H : Hp) (E : XK), Room k (A.deeper (PyProof.Rows.envOfC qual (defScope st) s.heap.objs.size f cdv)) → SsD (cxOf L2.CX0 P w K mg base N qual (defScope st) f cdv A outer s H E).nox (fun c d _ H => E c d H) (defBody st) g) :
    FnOk P w K mg base L2.CX0 (k + 1) f fd ps (FSpM K (fnM N.length m g)) := by
  refine F.ok S (fun vs H Q E h => by rw [hm]; exact FSpM_len h) fun cdv A outer s H vs Q E hr h => ⟨_, hbody cdv A outer s H E hr, bodyM_read hn h⟩
theorem fnM_okX {x qual : Str} {st : Stmt} {f : Addr} {fd : FuncData} {N ps : List Str} {k m : Nat} {g : SEnv → Option Out} (F : Fun K x qual st f fd) (S : FnScope N ps (defScope st)) (hm : ps.length = m) (hn : m ≤ N.length)
    (hbody : ∀ (cdv : Value) (A : Around) (outer : List Env) (s : Shared) (H : Hp) (E : XK), Room k (A.deeper (PyProof.Rows.envOfC qual (defScope st) s.heap.objs.size f cdv)) → SsD (cxOf (L2.CX P w) P w K mg base N qual (defScope st) f cdv A outer s H E) (fun c d _ H => E c d H) (defBody st) g) :
    FnOk P w K mg base (L2.CX P w) (k + 1) f fd ps (FSpM K (fnM N.length m g)) := by
  refine F.okX S (fun vs H Q E h => by rw [hm]; exact FSpM_len h) fun cdv A outer s H vs Q E hr h => ⟨_, hbody cdv A outer s H E hr, bodyM_read hn h⟩
end
/-- return e, in a method that changes its object -/
def sRetM (f : SEnv → Option Sl) : SEnv → Option Out := fun ρ => (f ρ).map fun s => .rm s ρ
theorem sd_retM {e : Expr} {f : SEnv → Option Sl} {pos : Pos} (he : PD X e f) : SD X E (.Return (some e) pos) (sRetM f) := PS_imp (ps_ret he) fun D σ H ⟨B, Z0, Z, ρ, o, x, e, k⟩ => by
  unfold sRetM at e
  cases q : f ρ with
  | none => rw [q] at e; cases e
  | some s =>
    rw [q] at e
    cases e
    exact er1 x q fun v Z' H' k' r => k v Z' Z σ H H' x k' r
/-! ### an object is made -/
def initF (cn : Str) (F : FnM) (ss : List Sl) (p : Addr) : Option (List (Str × Sl)) := match F (.obj (some p) cn [] :: ss) with
  | some (.ret (.pl .none), .obj (some q) c fs) => if q = p ∧ c = cn then some fs else none
  | _ => none
theorem initF_inv {cn : Str} {F : FnM} {ss : List Sl} {p : Addr} {fs : List (Str × Sl)} (h : initF cn F ss p = some fs) : F (.obj (some p) cn [] :: ss) = some (.ret (.pl .none), .obj (some p) cn fs) := by
  unfold initF at h
  split at h
  · rename_i q c fs' qF
    split at h
    · rename_i hq
      obtain ⟨rfl, rfl⟩ := hq
      cases h
      exact qF
    · cases h
  · cases h
noncomputable def eMake (cn : Str) (F : FnM) (a : SEnv → Option (List Sl)) : SEnv → Option Sl := fun ρ => (a ρ).bind fun ss => (allA (initF cn F ss)).map fun fs => .obj none cn fs
def MakeOk (X : Cx) (k : Nat) (cn : Str) (F : FnM) : Prop := ∃ (C f : Addr) (fd : FuncData) (ps : List Str), X.mg cn = some (.ref C) ∧ clsOf X.K cn = .ref C ∧ Mk X.K C f ∧ FnOk X.prog X.w X.K X.mg X.base L2.CX0 k f fd ps (FSpM X.K F) ∧ Binds X.K fd ps []
theorem make_core {K : PySem.W.Frag} {cn : Str} {F : FnM} {C : Addr} (hC : clsOf K cn = .ref C) {Z H : Hp} (zh : Same Z H) {us : List V} {ss : List Sl} (ha : AllB K Z H us ss) {fs : List (Str × Sl)} (hF : allA (initF cn F ss) = some fs) {Q : VK} {E1 : XK}
    (k : ∀ v Z' H', Step Z H Z' H' → vlR K H Z' H' v (.obj none cn fs) → Q v H') (x dx : Addr) (nx : H x = none) (ndx : H dx = none) (nex : dx ≠ x) :
    FSpM K F (.ref x :: us) (upd (upd H dx (.own x)) x (.ins C dx [])) (fun v H2 => v = .non ∧ Q (.ref x) H2) E1 := by
  have s0 : Same H (upd (upd H dx (.own x)) x (.ins C dx [])) := fun b o e => by
    rw [upd_ne (ne_of_none e nx), upd_ne (ne_of_none e ndx)]
    exact e
  have hself : slR K H Z (upd (upd H dx (.own x)) x (.ins C dx [])) (.obj (some x) cn []) (some (.ref x)) [x] := ⟨x, C, dx, [], [], rfl, rfl, (fun q e => (Option.some.inj e).symm), hC, upd_same, (fun h => nomatch h), rfl, rfl⟩
  have args := AllB_arg ha
  refine ⟨H, Z, .obj (some x) cn [] :: ss, .ret (.pl .none), .obj (some x) cn fs, s0, zh.trans s0, ⟨?_, fun n => match n with | 0 => [x] | _ + 1 => [], ?_, ?_, ?_⟩, initF_inv (allA_inv hF x), ?_⟩
  · rw [List.length_cons, List.length_cons, args.1]
  · intro i
    cases i with
    | zero => exact hself
    | succ i =>
      have : ∀ {us : List V} {ss : List Sl}, AllB K Z H us ss → ∀ i, slR K H Z H (get ss i) (us[i]?) [] := by
        intro us
        induction us with
        | nil => intro ss h i; cases ss with | nil => exact rfl | cons _ _ => exact h.elim
        | cons u us ih =>
          intro ss h i
          cases ss with
          | nil => exact h.elim
          | cons s ss => cases i with
            | zero => exact h.1
            | succ i => exact ih h.2 i
      exact (this ha i).mono (Same.refl _) (Same.refl _) fun _ h => nomatch h
  · intro i j a hij hi
    cases i with
    | zero => cases j with
      | zero => exact absurd rfl hij
      | succ j => exact fun q => nomatch q
    | succ i => exact nomatch hi
  · intro i a hi
    cases i with
    | zero => rw [List.mem_singleton.mp hi]; exact ⟨nx, none_back zh nx⟩
    | succ i => exact nomatch hi
  · intro v Z1 H1 Z' H' k1 k2 hs hv
    obtain ⟨fp, hs1, hs2⟩ := hs
    obtain ⟨fpv, ⟨_, y, ey, hy⟩, _⟩ := hv
    cases ey
    cases hy
    refine ⟨rfl, k (.ref x) Z' H' ?_ ⟨fp, ?_, fun a ha => ⟨(hs2 a ha).1, ?_⟩⟩⟩
    · exact StepB.trans k1 k2
    · have h2 := slR.mono (H' := H') hs1 ((k1.trans k2).bh) k2.zz fun a ha => by
        cases q : H1 a with
        | none => exact absurd q (slR.live hs1 a ha)
        | some o => exact k2.bh a o q
      obtain ⟨p, C', dx', vs, fq, e1, e2, e3, e4⟩ := h2
      exact ⟨p, C', dx', vs, fq, e1, e2, (fun q e => nomatch e), e4⟩
    · cases q : Z' a with
      | none => rfl
      | some o =>
        rcases k2.gr a (by rw [q]; intro z; cases z) with z | z
        · exact absurd (hs2 a ha).2 z
        · exact absurd z (slR.live hs1 a ha)
theorem pd_make {cn : Str} {F : FnM} {k : Nat} {e : Expr} {es : List Expr} {a : SEnv → Option (List Sl)} {p pos : Pos} (M : MakeOk X k cn F) (hr : Room (k + 1) X.A) (hg : Gl X cn) (ha : AD X (e :: es) a) (hdb : (cn == ("__debug__" : Str)) = false := by decide)
    (h1 : starEach (e :: es) X.env = (false, eval e X.env) :: starEach es X.env := by rfl) (h2 : (backTo pos (starEach es X.env)).any (·.1) = false := by rfl) : PD X (.Call (.Name cn p) (e :: es) [] pos) (eMake cn F a) := by
  obtain ⟨C, f, fd, ps, g1, g2, g3, g4, g5⟩ := M
  refine PE_imp (pe_make g3 g4 hr hg g1 g5 .nil (L2.pass0 (X := X)) ha hdb h1 h2) fun σ H Q ⟨B, Z0, Z, ρ, s, x, e, kk⟩ => ?_
  unfold eMake at e
  cases q : a ρ with
  | none => rw [q] at e; cases e
  | some ss =>
    rw [q] at e
    cases qi : allA (initF cn F ss) with
    | none => simp only [Option.bind, qi] at e; cases e
    | some fs =>
      simp only [Option.bind, qi] at e
      cases e
      refine ⟨B, Z0, Z, ρ, ss, x, q, fun us Z' H' k' r y dy ny ndy nexy => ?_⟩
      rw [List.append_nil]
      exact make_core g2 k'.zh r qi (fun v Z2 H2 k2 r2 => kk v Z2 H2 (k'.trans k2) (r2.back k'.bh)) y dy ny ndy nexy
theorem pd_make0 {cn : Str} {F : FnM} {k : Nat} {p pos : Pos} (M : MakeOk X k cn F) (hr : Room (k + 1) X.A) (hg : Gl X cn) (hdb : (cn == ("__debug__" : Str)) = false := by decide) : PD X (.Call (.Name cn p) [] [] pos) (eMake cn F aNil) := by
  obtain ⟨C, f, fd, ps, g1, g2, g3, g4, g5⟩ := M
  refine PE_imp (pe_make0 g3 g4 hr hg g1 g5 .nil (L2.pass0 (X := X)) hdb) fun σ H Q ⟨B, Z0, Z, ρ, s, x, e, kk⟩ => ?_
  unfold eMake at e
  change ((allA (initF cn F [])).map fun fs => Sl.obj none cn fs) = some s at e
  cases qi : allA (initF cn F []) with
  | none => rw [qi] at e; cases e
  | some fs =>
    rw [qi] at e
    cases e
    intro y dy ny ndy nexy
    exact make_core (us := []) (ss := []) g2 x.zh (show AllB _ _ _ [] [] from trivial) qi kk y dy ny ndy nexy
/-! ### self.f = e -/
def sSetF (cs : List Str) (j : Nat) (f : Str) (a : SEnv → Option Sl) : SEnv → Option Out := fun ρ => match get ρ j, (a ρ).bind sto with
  | .obj ad c fs, some t => if c ∈ cs ∧ fs.length < 900 then some (.nx (put ρ j (.obj ad c (putS f t fs)))) else none
  | _, _ => none
theorem St.setF {K : PySem.W.Frag} {B Z0 Z H Z' H' : Hp} {σ : L2.St} {ρ : SEnv} (x : St K B Z0 Z H σ ρ) {j : Nat} {ad : Option Addr} {c : Str} {fs : List (Str × Sl)} (e : get ρ j = .obj ad c fs) (k : Step Z H Z' H') {f : Str} {s t : Sl} {v : V} (hv : vlR K H Z' H' v s) (hs : sto s = some t) :
    ∃ p C dx vs, σ[j]? = some (some (.ref p)) ∧ clsOf K c = .ref C ∧ H' p = some (.ins C dx vs) ∧ vs.length = fs.length ∧ St K B Z0 Z' (upd H' p (.ins C dx (putF f v vs))) σ (put ρ j (.obj ad c (putS f t fs))) := by
  obtain ⟨st, len, fp, h1, h2, h3⟩ := id x
  have hj := h1 j
  rw [e] at hj
  obtain ⟨p, C, dx, vs, fq, ef, hx, hq, hc, hp, hn, hf⟩ := hj
  have y := x.step k
  have hjl : j < ρ.length := by
    by_cases c : j < ρ.length
    · exact c
    · rw [get_out _ _ (by omega)] at e; cases e
  have hB : B p = none := (h3 j p (by rw [ef]; simp)).1
  have keepH : ∀ i a, a ∈ fp i → H' a = H a := fun i a ha => by
    cases q : H a with
    | none => exact absurd q ((h1 i).live a ha)
    | some o => exact k.bh a o q
  have hZ : ∀ i a, a ∈ fp i → Z' a = none := fun i a ha => by
    cases q : Z' a with
    | none => rfl
    | some o =>
      rcases k.gr a (by rw [q]; intro z; cases z) with z | z
      · exact absurd (h3 i a ha).2 z
      · exact absurd z ((h1 i).live a ha)
  have hZp : Z' p = none := hZ j p (by rw [ef]; simp)
  have hp' : H' p = some (.ins C dx vs) := by rw [keepH j p (by rw [ef]; simp)]; exact hp
  obtain ⟨fpv, hv1, hv2⟩ := hv
  have hpv : p ∉ fpv := fun z => by have := (hv2 p z).1; rw [hp] at this; cases this
  have hvB : slR K B Z' H' t (some v) fpv := sto_slR hv1 hs
  have hf' : fsR K B Z' H' fs vs fq := hf.mono (Same.refl _) k.zz fun a ha => keepH j a (by rw [ef]; exact List.mem_cons_of_mem _ ha)
  obtain ⟨fq', g1, g2⟩ := fsR_put (f := f) hvB hf' fun a ha q => by
    have := (hv2 a ha).1
    exact absurd this ((h1 j).live a (by rw [ef]; exact List.mem_cons_of_mem _ q))
  refine ⟨p, C, dx, vs, look_some hx, hc, hp', fsR_len hf, ?_⟩
  have st' : StepB B Z0 Z' (upd H' p (.ins C dx (putF f v vs))) := by
    refine ⟨fun b u eb => ?_, y.st.zz, fun b u eb => ?_, y.st.gr⟩
    · rw [upd_ne (ne_of_none eb hB)]; exact y.st.bh b u eb
    · rw [upd_ne (ne_of_none eb hZp)]; exact y.st.zh b u eb
  have hpq' : p ∉ fq' := fun z => by
    rcases g2 p z with q | q
    · exact hn q
    · exact hpv q
  have := St.sets (K := K) (σ := σ) (ρ := ρ) (i := j) (s := .obj ad c (putS f t fs)) (o := look σ j) (fpn := p :: fq') (fp := fp) st' len (fun i hi => (h1 i).mono (Same.refl B) k.zz fun a ha => ?_) (fun i l a _ _ => h2 i l a) (fun i a _ ha => ⟨(h3 i a ha).1, hZ i a ha⟩)
    ⟨p, C, dx, putF f v vs, fq', rfl, hx, hq, hc, upd_same, hpq', g1.mono (Same.refl _) (Same.refl _) fun a ha => upd_ne (fun z => hpq' (z ▸ ha))⟩ (fun a ha => ?_) (fun i a hi ha q => ?_) hjl
  · rw [set_look (by rw [len]; exact hjl)] at this
    exact this
  · have hne : a ≠ p := fun z => h2 i j a hi ha (by rw [ef, z]; simp)
    rw [upd_ne hne]
    exact keepH i a ha
  · rcases List.mem_cons.mp ha with z | z
    · rw [z]; exact ⟨hB, hZp⟩
    · rcases g2 a z with q | q
      · have hm : a ∈ fp j := by rw [ef]; exact List.mem_cons_of_mem _ q
        exact ⟨(h3 j a hm).1, hZ j a hm⟩
      · exact ⟨none_back st.bh (hv2 a q).1, (hv2 a q).2⟩
  · rcases List.mem_cons.mp ha with z | z
    · exact h2 i j a hi q (by rw [ef, z]; simp)
    · rcases g2 a z with w | w
      · exact h2 i j a hi q (by rw [ef]; exact List.mem_cons_of_mem _ w)
      · exact absurd (hv2 a w).1 ((h1 i).live a q)
theorem sd_setF {cs : List Str} (j : Nat) {x f : Str} {e : Expr} {a : SEnv → Option Sl} {p pos' pos : Pos} (hv : PE X (.Name x p) (tVar j)) (he : PD X e a) (hC : ∀ c ∈ cs, FldOk X.K f c) (hs : swapsWith e (some (.Attribute (.Name x p) f pos')) pos.line X.env = pure false := by rfl) :
    SD X E (.Assign [.Attribute (.Name x p) f pos'] e pos) (sSetF cs j f a) := PS_imp (ps_fld hv he hs) fun D σ H ⟨B, Z0, Z, ρ, o, x, e, k⟩ => by
  unfold sSetF at e
  split at e
  · rename_i ad c fs t q1 q2
    split at e
    · rename_i hc
      cases e
      obtain ⟨s, qs, qt⟩ : ∃ s, a ρ = some s ∧ sto s = some t := by
        cases q : a ρ with
        | none => rw [q] at q2; cases q2
        | some s => rw [q] at q2; exact ⟨s, rfl, q2⟩
      obtain ⟨C', z1, z2, z3⟩ := hC c hc.1
      refine er1 x qs fun v Z' H' k' r => ?_
      obtain ⟨p, C, dx, vs, g1, g2, g3, g4, g5⟩ := x.setF q1 k' (f := f) r qt
      rw [z1] at g2
      cases g2
      exact ⟨_, g1, p, _, dx, vs, rfl, g3, z2, z3, by omega, k Z' σ _ g5⟩
    · cases e
  · cases e
end
/-! ### reckoning -/
theorem fnM_rm {n m : Nat} {g : SEnv → Option Out} {p : Addr} {c : Str} {fs : List (Str × Sl)} {ss : List Sl} {s t : Sl} {ρ : SEnv} (hl : ss.length + 1 = m) (h : g ((.obj (some p) c fs :: ss) ++ List.replicate (n - (ss.length + 1)) .un) = some (.rm s ρ)) (ht : slfOf p ρ = some t) : fnM n m g (.obj (some p) c fs :: ss) = some (.ret s, t) := by
  unfold fnM ent
  rw [if_pos (by rw [List.length_cons]; exact hl), List.length_cons, h, get_zero]
  simp only [ht, Option.map]
theorem fnM_nx {n m : Nat} {g : SEnv → Option Out} {p : Addr} {c : Str} {fs : List (Str × Sl)} {ss : List Sl} {t : Sl} {ρ : SEnv} (hl : ss.length + 1 = m) (h : g ((.obj (some p) c fs :: ss) ++ List.replicate (n - (ss.length + 1)) .un) = some (.nx ρ)) (ht : slfOf p ρ = some t) : fnM n m g (.obj (some p) c fs :: ss) = some (.ret (.pl .none), t) := by
  unfold fnM ent
  rw [if_pos (by rw [List.length_cons]; exact hl), List.length_cons, h, get_zero]
  simp only [ht, Option.map]
theorem fnM_ex {n m : Nat} {g : SEnv → Option Out} {p : Addr} {c : Str} {fs : List (Str × Sl)} {ss : List Sl} {t : Sl} {x : Exn} {ρ : SEnv} (hl : ss.length + 1 = m) (h : g ((.obj (some p) c fs :: ss) ++ List.replicate (n - (ss.length + 1)) .un) = some (.ex x ρ)) (ht : slfOf p ρ = some t) : fnM n m g (.obj (some p) c fs :: ss) = some (.exn x, t) := by
  unfold fnM ent
  rw [if_pos (by rw [List.length_cons]; exact hl), List.length_cons, h, get_zero]
  simp only [ht, Option.map]
theorem slfOf_eq {p : Addr} {ρ : SEnv} {c : Str} {fs : List (Str × Sl)} (h : get ρ 0 = .obj (some p) c fs) : slfOf p ρ = some (.obj (some p) c fs) := by
  unfold slfOf
  rw [h]
  exact if_pos rfl
theorem initF_of {cn : Str} {F : FnM} {ss : List Sl} {p : Addr} {fs : List (Str × Sl)} (h : F (.obj (some p) cn [] :: ss) = some (.ret (.pl .none), .obj (some p) cn fs)) : initF cn F ss p = some fs := by
  unfold initF
  rw [h]
  exact if_pos ⟨rfl, rfl⟩
theorem eMake_of {cn : Str} {F : FnM} {a : SEnv → Option (List Sl)} {ρ : SEnv} {ss : List Sl} {fs : List (Str × Sl)} (ha : a ρ = some ss) (h : ∀ p, F (.obj (some p) cn [] :: ss) = some (.ret (.pl .none), .obj (some p) cn fs)) : eMake cn F a ρ = some (.obj none cn fs) := by
  unfold eMake
  rw [ha]
  show (allA (initF cn F ss)).map _ = _
  rw [allA_of fun p => initF_of (h p)]
  rfl
end DL

set_option Elab.async false
set_option linter.all false
set_option maxRecDepth 100000
set_option maxHeartbeats 1000000
/-! DLY: list.count, list.index of flat items. -/
namespace DL
open PySem PySem.Spec PyProof.Rows L2
section
variable {X : Cx}
def rCntV (K : PySem.W.Frag) : V → List V → Hp → VK → Prop := fun x xs H Q => ∃ (a : Addr) (ys : List V) (y : V), x = V.ref a ∧ xs = [y] ∧ SqL K H a ys ∧ flatV y = true ∧ ys.all flatV = true ∧ Q (.int (ys.countP fun z => eqV z y : Nat)) H
theorem count_vals {y : V} : ∀ {ys : List V} {us : List Value}, Vals ys us → ys.all flatV = true → us.countP (eqU y) = ys.countP fun z => eqV z y
  | _, _, .nil, _ => rfl
  | z :: ys, u :: us, .cons r t, f => by
    rw [List.all_cons, Bool.and_eq_true] at f
    rw [List.countP_cons, List.countP_cons, count_vals t f.2, eqU_of r f.1]
theorem mt_countV : MtR X "list.count" (rCntV X.K) := by
  intro pins s σ H x xs v us Q I rx rxs h
  obtain ⟨a, ys, y, rfl, rfl, hs, fy, fys, q⟩ := h
  cases rx
  cases rxs with
  | cons ry rt =>
    rename_i uy ut
    cases rt
    obtain ⟨its, rv, ⟨⟨cls, dd, data, sl⟩, n, ho, hc, hdn, hd⟩, hlen⟩ := I.list hs
    simp only at hc hd
    subst hc hd
    refine call_meets PySem.F.slot_list_count ⟨_, ho, rfl⟩ PySem.F.entry_list_count (PySem.F.args_list_count_2 _ _)
      (SeqAt.list_countAt a its.toArray n dd sl uy (eqU y)) ⟨ho, fun u' hu' => mem_eqAt ry fy rv fys u' (by simpa using hu'), ?_⟩
    refine ⟨.int (ys.countP fun z => eqV z y : Nat), H, I.tok _, ⟨s.toks, ?_⟩, q⟩
    show Value.int ((its.toArray.toList.countP (eqU y) : Nat) : Int) s.toks = Value.int ((ys.countP fun z => eqV z y : Nat) : Int) s.toks
    rw [show its.toArray.toList = its from rfl, count_vals rv fys]
theorem countF_ok {K : PySem.W.Frag} {Z Z' : Hp} {w : V} {e : D} (h' : Dp K Z' w e) (f2 : flatD e = true) : ∀ {vs : List V} {ds : List D}, DpAll K Z vs ds → ds.all flatD = true → (vs.countP fun z => eqV z w) = ds.countP fun y => eqF y e
  | _, _, .nil, _ => rfl
  | _, _, .cons r t, f => by
    rw [List.all_cons, Bool.and_eq_true] at f
    rw [List.countP_cons, List.countP_cons, countF_ok h' f2 t f.2, eqF_ok r h' f.1 f2]
def eLCount (fa fb : SEnv → Option Sl) : SEnv → Option Sl := fun ρ => match (fa ρ).bind litems, fb ρ with
  | some ds, some (.pl d) => if flatD d = true ∧ ds.all flatD = true then some (.pl (.int ((ds.countP fun y => eqF y d : Nat)))) else none
  | _, _ => none
theorem pd_lcount {o e : Expr} {fa fb : SEnv → Option Sl} {apos cpos : Pos} (ha : PD X o fa) (he : PD X e fb) (hb : PE X (.Call (.Attribute o "count" apos) [e] [] cpos) (tBM X.K "list" (rCntV X.K) (ER X.K fa) (tCons (ER X.K fb) tNil))) : PD X (.Call (.Attribute o "count" apos) [e] [] cpos) (eLCount fa fb) :=
  PE_imp hb fun σ H Q ⟨B, Z0, Z, ρ, s, x, e, k⟩ => by
    unfold eLCount at e
    split at e
    · rename_i ds d q1 q2
      split at e
      · rename_i cf
        cases e
        cases qa : fa ρ with
        | none => rw [qa] at q1; cases q1
        | some t =>
          rw [qa] at q1
          refine er1 x qa fun v Z1 H1 k1 r1 => ?_
          obtain ⟨p, vs, hv, hq, hd⟩ := litems_ok r1 k1.zh q1
          subst hv
          refine ⟨.inl ⟨rfl, vs, hq⟩, er1 (x.step k1) q2 fun w Z2 H2 k2 r2 => ?_⟩
          refine ⟨p, vs, w, rfl, rfl, k2.bh.seq hq, flat_ok r2.data cf.1, flats_ok hd cf.2, ?_⟩
          rw [countF_ok r2.data cf.1 hd cf.2]
          exact k _ Z2 H2 (k1.trans k2) (vlR.pl (.int _))
      · cases e
    · cases e
def eLIndex (fa fb : SEnv → Option Sl) : SEnv → Option Sl := fun ρ => match (fa ρ).bind litems, fb ρ with
  | some ds, some (.pl d) => if flatD d = true ∧ ds.all flatD = true then (ds.findIdx? fun y => eqF y d).map fun j => .pl (.int (j : Nat)) else none
  | _, _ => none
theorem pd_lindex {o e : Expr} {fa fb : SEnv → Option Sl} {apos cpos : Pos} (ha : PD X o fa) (he : PD X e fb) (hb : PE X (.Call (.Attribute o "index" apos) [e] [] cpos) (tBM X.K "list" (rIndex X.K) (ER X.K fa) (tCons (ER X.K fb) tNil))) : PD X (.Call (.Attribute o "index" apos) [e] [] cpos) (eLIndex fa fb) :=
  PE_imp hb fun σ H Q ⟨B, Z0, Z, ρ, s, x, e, k⟩ => by
    unfold eLIndex at e
    split at e
    · rename_i ds d q1 q2
      split at e
      · rename_i cf
        cases qj : ds.findIdx? (fun y => eqF y d) with
        | none => rw [qj] at e; cases e
        | some j =>
          rw [qj] at e
          cases e
          cases qa : fa ρ with
          | none => rw [qa] at q1; cases q1
          | some t =>
            rw [qa] at q1
            refine er1 x qa fun v Z1 H1 k1 r1 => ?_
            obtain ⟨p, vs, hv, hq, hd⟩ := litems_ok r1 k1.zh q1
            subst hv
            refine ⟨.inl ⟨rfl, vs, hq⟩, er1 (x.step k1) q2 fun w Z2 H2 k2 r2 => ?_⟩
            obtain ⟨hj, hp, hn⟩ := List.findIdx?_eq_some_iff_getElem.mp qj
            obtain ⟨z, hz, rz⟩ := DpAll_get (i := j) hd (List.getElem?_eq_getElem hj)
            have fl : ∀ (m : Nat) (hm : m < ds.length), flatD ds[m] = true := fun m hm => List.all_eq_true.mp cf.2 _ (List.getElem_mem hm)
            refine ⟨p, vs, w, j, z, rfl, rfl, k2.bh.seq hq, flat_ok r2.data cf.1, flats_ok hd cf.2, hz, by rw [eqF_ok rz r2.data (fl j hj) cf.1]; exact hp, fun m z' hm hz' => ?_, k _ Z2 H2 (k1.trans k2) (vlR.pl (.int _))⟩
            obtain ⟨d', hd', rd'⟩ := DpAll_get' hd hz'
            have hml : m < ds.length := by omega
            rw [List.getElem?_eq_getElem hml] at hd'
            cases hd'
            rw [eqF_ok rd' r2.data (fl m hml) cf.1]
            simpa using hn m hm
      · cases e
    · cases e
/-! ### int(x), str(n) -/
def intS : Sl → Option Sl
  | .pl (.int i) => some (.pl (.int i))
  | .pl (.bool b) => some (.pl (.int (if b then 1 else 0)))
  | _ => none
def intF : List Sl → Option Sl := fun ss => match ss with | [s] => intS s | _ => none
theorem ok_intC {K : PySem.W.Frag} : BuiOK K (fun xs H Q => (∃ i, xs = [.int i] ∧ Q (.int i) H) ∨ ∃ k, xs = [.bl k] ∧ Q (.int (if k then 1 else 0)) H) intF := bui1 (F := intS) fun Z H v s t Q zh r e k => by
  unfold intS at e
  split at e
  · cases e
    have h := r.data
    cases h
    exact .inl ⟨_, rfl, k _ Z H (Step.refl zh) (vlR.pl (.int _))⟩
  · cases e
    have h := r.data
    cases h
    exact .inr ⟨_, rfl, k _ Z H (Step.refl zh) (vlR.pl (.int _))⟩
  · cases e
theorem pd_intC {p pos : Pos} {e : Expr} {a : SEnv → Option Sl} (hg : Gl X "int") (hm : X.mg "int" = none) (ha : PD X e a) (h1 : starEach [e] X.env = (false, eval e X.env) :: starEach [] X.env := by rfl) : PD X (.Call (.Name "int" p) [e] [] pos) (eBui intF (aCons a aNil)) :=
  pd_callTy call_int1 ok_intC hg hm (by decide +kernel) (ad_cons ha ad_nil h1) (by decide) (by decide) h1 rfl
def strS : Sl → Option Sl
  | .pl (.int i) => if i.natAbs.log2 < 1920 then some (.pl (.str (toString i))) else none
  | _ => none
def strF : List Sl → Option Sl := fun ss => match ss with | [s] => strS s | _ => none
theorem ok_strC {K : PySem.W.Frag} : BuiOK K (fun xs H Q => ∃ i, xs = [.int i] ∧ i.natAbs.log2 < 1920 ∧ Q (.str (toString i)) H) strF := bui1 (F := strS) fun Z H v s t Q zh r e k => by
  unfold strS at e
  split at e
  · rename_i i
    split at e
    · rename_i c
      cases e
      have h := r.data
      cases h
      exact ⟨_, rfl, c, k _ Z H (Step.refl zh) (vlR.pl (.str _))⟩
    · cases e
  · cases e
theorem pd_strC {p pos : Pos} {e : Expr} {a : SEnv → Option Sl} (hg : Gl X "str") (hm : X.mg "str" = none) (ha : PD X e a) (h1 : starEach [e] X.env = (false, eval e X.env) :: starEach [] X.env := by rfl) : PD X (.Call (.Name "str" p) [e] [] pos) (eBui strF (aCons a aNil)) :=
  pd_callTy call_str_int ok_strC hg hm (by decide +kernel) (ad_cons ha ad_nil h1) (by decide) (by decide) h1 rfl
theorem intF_bool (b : Bool) : intF [.pl (.bool b)] = some (.pl (.int (if b then 1 else 0))) := rfl
theorem intF_int (i : Int) : intF [.pl (.int i)] = some (.pl (.int i)) := rfl
theorem fldS_obj {cs : List Str} {f : Str} {a : Option Addr} {c : Str} {fs : List (Str × Sl)} (h : c ∈ cs) : fldS cs f (.obj a c fs) = (fs.lookup f).bind borq := if_pos h
theorem fldS_bob {cs : List Str} {f : Str} {c : Str} {fs : List (Str × Sl)} (h : c ∈ cs) : fldS cs f (.bob c fs) = (fs.lookup f).bind borq := if_pos h
theorem eFld_def (cs : List Str) (f : Str) (a : SEnv → Option Sl) (ρ : SEnv) : eFld cs f a ρ = (a ρ).bind (fldS cs f) := rfl
theorem eIsO_def (ys ns : List Str) (a : SEnv → Option Sl) (ρ : SEnv) : eIsO ys ns a ρ = ((a ρ).bind objS).bind fun q => if q.1 ∈ ys then some (.pl (.bool true)) else if q.1 ∈ ns then some (.pl (.bool false)) else none := rfl
theorem eMeth0_def (tab : List (Str × Fn)) (m : Str) (a : SEnv → Option Sl) (ρ : SEnv) : eMeth0 tab m a ρ = (a ρ).bind fun s => methF tab m s [] := rfl
theorem eMeth0_of {tab : List (Str × Fn)} {m : Str} {a : SEnv → Option Sl} {ρ : SEnv} {s r : Sl} {c : Str} {fs : List (Str × Sl)} {F : Fn} (ha : a ρ = some s) (ho : objS s = some (c, fs)) (hm : fs.lookup m = none) (ht : tab.lookup c = some F) (hF : F [.bob c fs] = some (.ret r)) : eMeth0 tab m a ρ = some r := by
  rw [eMeth0_def, ha]
  show methF tab m s [] = some r
  unfold methF
  rw [ho]
  show (if fs.lookup m = none then _ else none) = some r
  rw [if_pos hm, ht]
  simp only [Option.bind, hF]
end
end DL

set_option Elab.async false
set_option linter.all false
set_option maxRecDepth 100000
set_option maxHeartbeats 1000000
/-! DLW: xs[::-1], texts sorted, joined, split; more methods of texts. -/
namespace DL
open PySem PySem.Spec PyProof.Rows L2
section
variable {X : Cx}
def eRev (a : SEnv → Option Sl) : SEnv → Option Sl := fun ρ => ((a ρ).bind litems).map fun ds => .own ds.reverse
theorem DpAll_app {K : PySem.W.Frag} {Z : Hp} : ∀ {vs ws : List V} {ds es : List D}, DpAll K Z vs ds → DpAll K Z ws es → DpAll K Z (vs ++ ws) (ds ++ es)
  | _, _, _, _, .nil, h => h
  | _, _, _, _, .cons r t, h => .cons r (DpAll_app t h)
theorem DpAll_rev {K : PySem.W.Frag} {Z : Hp} : ∀ {vs : List V} {ds : List D}, DpAll K Z vs ds → DpAll K Z vs.reverse ds.reverse
  | _, _, .nil => .nil
  | v :: vs, d :: ds, .cons r t => by
    rw [List.reverse_cons, List.reverse_cons]
    exact DpAll_app (DpAll_rev t) (.cons r .nil)
theorem pd_revSl {e : Expr} {fa : SEnv → Option Sl} {k : Nat} {p1 p2 p3 pos : Pos} (ha : PD X e fa) : PD X (.Subscript e (.Slice none none (some (.UnaryOp .USub (.Constant (.int 1) k p1) p2)) p3) pos) (eRev fa) :=
  PE_imp (pe_revL ha) fun σ H Q ⟨B, Z0, Z, ρ, s, x, e, k⟩ => by
    unfold eRev at e
    cases qa : fa ρ with
    | none => rw [qa] at e; cases e
    | some t =>
      rw [qa] at e
      cases qi : litems t with
      | none => simp only [Option.bind, qi] at e; cases e
      | some ds =>
        simp only [Option.bind, qi] at e
        cases e
        refine er1 x qa fun v Z1 H1 k1 r1 => ?_
        obtain ⟨p, vs, hv, hq, hd⟩ := litems_ok r1 k1.zh qi
        refine ⟨p, vs, hv, hq, fun q hq0 => ?_⟩
        obtain ⟨k4, r4⟩ := vlR.newL k1.zh hq0 (DpAll_rev hd)
        exact k _ _ _ (k1.trans k4) (r4.back k1.bh)
/-! ### lists of texts -/
def strsD : List D → Option (List Str)
  | [] => some []
  | .str s :: r => (strsD r).map (s :: ·)
  | _ => none
theorem strs_ok {K : PySem.W.Frag} {Z : Hp} : ∀ {vs : List V} {ds : List D} {ss : List Str}, DpAll K Z vs ds → strsD ds = some ss → vs = ss.map V.str
  | _, _, _, .nil, e => by cases e; rfl
  | v :: vs, d :: ds, ss, .cons r t, e => by
    cases r <;> first | (cases e; done) | skip
    rename_i s
    change (strsD ds).map (s :: ·) = some ss at e
    cases q : strsD ds with
    | none => rw [q] at e; cases e
    | some rs =>
      rw [q] at e
      cases e
      rw [strs_ok t q]
      rfl
@[simp] theorem strsD_map (ss : List Str) : strsD (ss.map PyData.str) = some ss := by
  induction ss with
  | nil => rfl
  | cons s ss ih => show (strsD (ss.map PyData.str)).map (s :: ·) = _; rw [ih]; rfl
theorem strs_Dp {K : PySem.W.Frag} {Z : Hp} : ∀ ss : List Str, DpAll K Z (ss.map V.str) (ss.map PyData.str)
  | [] => .nil
  | n :: ns => .cons (.str n) (strs_Dp ns)
/-! ### sorted texts -/
theorem lt_asym : ∀ {a b : List Nat}, ltCps a b = true → ltCps b a = false
  | [], [], _ => rfl
  | [], _ :: _, _ => rfl
  | _ :: _, [], h => nomatch h
  | a :: r, b :: t, h => by
    simp only [ltCps, Bool.or_eq_true, Bool.and_eq_true, decide_eq_true_eq, beq_iff_eq] at h
    show (decide (b < a) || (b == a && ltCps t r)) = false
    rcases h with h | ⟨rfl, h⟩
    · rw [show decide (b < a) = false from decide_eq_false (by omega), show (b == a) = false from beq_eq_false_iff_ne.mpr (by omega)]; rfl
    · rw [show decide (a < a) = false from decide_eq_false (by omega), lt_asym h, Bool.and_false]; rfl
theorem lt_anti : ∀ {a b : List Nat}, ltCps a b = false → ltCps b a = false → a = b
  | [], [], _, _ => rfl
  | [], _ :: _, h, _ => nomatch h
  | _ :: _, [], _, h => nomatch h
  | a :: r, b :: t, h1, h2 => by
    simp only [ltCps, Bool.or_eq_false_iff, decide_eq_false_iff_not] at h1 h2
    have e : a = b := by omega
    subst e
    simp only [beq_self_eq_true, Bool.true_and] at h1 h2
    rw [lt_anti h1.2 h2.2]
theorem le_trans' : ∀ {a b c : List Nat}, ltCps b a = false → ltCps c b = false → ltCps c a = false
  | [], _, [], _, _ => rfl
  | _ :: _, [], _, h, _ => nomatch h
  | _, _ :: _, [], _, h => nomatch h
  | [], [], _ :: _, _, _ => rfl
  | [], _ :: _, _ :: _, _, _ => rfl
  | a :: r, b :: t, c :: u, h1, h2 => by
    simp only [ltCps, Bool.or_eq_false_iff, decide_eq_false_iff_not, Bool.and_eq_false_iff, beq_eq_false_iff_ne] at h1 h2 ⊢
    refine ⟨by omega, ?_⟩
    by_cases e : c = a
    · have e1 : b = a := by omega
      have e2 : c = b := by omega
      rcases h1.2 with z | z
      · exact absurd e1 z
      · rcases h2.2 with y | y
        · exact absurd e2 y
        · exact .inr (le_trans' z y)
    · exact .inl e
def leS (a b : Str) : Bool := !ltCps b.cps.toList a.cps.toList
def sortS (l : List Str) : List Str := l.mergeSort leS
theorem leS_trans {a b c : Str} (h1 : leS a b = true) (h2 : leS b c = true) : leS a c = true := by
  simp only [leS, Bool.not_eq_true'] at *
  exact le_trans' h1 h2
theorem leS_total (a b : Str) : (leS a b || leS b a) = true := by
  simp only [leS]
  cases q : ltCps b.cps.toList a.cps.toList with
  | false => rfl
  | true => rw [lt_asym q]; rfl
theorem leS_anti {a b : Str} (h1 : leS a b = true) (h2 : leS b a = true) : a = b := by
  simp only [leS, Bool.not_eq_true'] at *
  exact Str.ext' (Array.toList_inj.mp (lt_anti h2 h1))
theorem sortS_perm (l : List Str) : (sortS l).Perm l := List.mergeSort_perm _ _
theorem sortS_srt (l : List Str) : (sortS l).Pairwise fun a b => leS a b = true := List.pairwise_mergeSort (le := leS) (fun _ _ _ => leS_trans) leS_total l
theorem rising_pw : ∀ {l : List Str} {p : Str}, risingS p l = true → (∀ x ∈ l, leS p x = true) ∧ l.Pairwise fun a b => leS a b = true
  | [], _, _ => ⟨fun _ h => (nomatch h), List.Pairwise.nil⟩
  | x :: l, p, h => by
    unfold risingS at h
    rw [Bool.and_eq_true] at h
    obtain ⟨h1, h2⟩ := rising_pw h.2
    have hx : leS p x = true := h.1
    exact ⟨fun y hy => (List.mem_cons.mp hy).elim (fun e => e ▸ hx) (fun z => leS_trans hx (h1 y z)), List.Pairwise.cons h1 h2⟩
theorem sortedS_pw {l : List Str} (h : sortedS l = true) : l.Pairwise fun a b => leS a b = true := by
  cases l with
  | nil => exact List.Pairwise.nil
  | cons x l => exact List.Pairwise.cons (rising_pw h).1 (rising_pw h).2
theorem sortS_uniq {l m : List Str} (h1 : sortedS m = true) (h : m.Perm l) : m = sortS l := srt_uniq (le := fun a b => leS a b = true) (fun _ _ => leS_anti) (sortedS_pw h1) (sortS_srt l) (h.trans (sortS_perm l).symm)
def sortedSS (s : Sl) : Option Sl := ((litems s).bind strsD).bind fun ns => if ns.length < 64 then some (.own ((sortS ns).map PyData.str)) else none
def sortedSF : List Sl → Option Sl := fun ss => match ss with | [s] => sortedSS s | _ => none
theorem ok_sortedS {K : PySem.W.Frag} : BuiOK K (rSortedS K) sortedSF := bui1 (F := sortedSS) fun Z H v s t Q zh r e k => by
  unfold sortedSS at e
  cases qi : litems s with
  | none => rw [qi] at e; cases e
  | some ds =>
    rw [qi] at e
    cases qn : strsD ds with
    | none => simp only [Option.bind, qn] at e; cases e
    | some ns =>
      simp only [Option.bind, qn] at e
      split at e
      · rename_i c
        cases e
        obtain ⟨p, vs, rfl, hq, hd⟩ := litems_ok r zh qi
        have := strs_ok hd qn
        subst this
        refine ⟨p, ns, rfl, hq, c, fun ns' l h1 h2 hl => ?_⟩
        have := sortS_uniq h2 h1
        subst this
        obtain ⟨k2, r2⟩ := vlR.newL zh hl (strs_Dp (sortS ns))
        exact k _ _ _ k2 r2
      · cases e
theorem pd_sortedS {p pos : Pos} {e : Expr} {a : SEnv → Option Sl} (hg : Gl X "sorted") (hm : X.mg "sorted" = none) (ha : PD X e a) (h1 : starEach [e] X.env = (false, eval e X.env) :: starEach [] X.env := by rfl) : PD X (.Call (.Name "sorted" p) [e] [] pos) (eBui sortedSF (aCons a aNil)) :=
  pd_callB cr_sortedS ok_sortedS hg hm (by decide +kernel) (ad_cons ha ad_nil h1) (by decide) (by decide) h1 rfl
/-! ### methods of texts -/
def joinS (x : Str) (s : Sl) : Option Sl := ((items s).bind strsD).bind fun ys => if (ys.map (·.length)).sum + ys.length * x.length ≤ 16777216 then some (.pl (.str (Txt.join x ys))) else none
def eJoin (o a : SEnv → Option Sl) : SEnv → Option Sl := fun ρ => match o ρ, a ρ with
  | some (.pl (.str x)), some s => joinS x s
  | _, _ => none
theorem pd_join {o e : Expr} {fo fa : SEnv → Option Sl} {apos pos : Pos} (ho : PD X o fo) (ha : PD X e fa) (hs : starEach [e] X.env = [(false, eval e X.env)] := by rfl) (hbase : attributeBase o "join" X.env (eval o X.env) = eval o X.env := by rfl) (hline : (apos.endLine == pos.line) = true := by rfl) : PD X (.Call (.Attribute o "join" apos) [e] [] pos) (eJoin fo fa) :=
  PE_imp (pe_join ho ha hs hbase hline) fun σ H Q ⟨B, Z0, Z, ρ, s, x, e, k⟩ => by
    unfold eJoin at e
    split at e
    · rename_i a t q1 q2
      unfold joinS at e
      cases qi : items t with
      | none => rw [qi] at e; cases e
      | some ds =>
        rw [qi] at e
        cases qn : strsD ds with
        | none => simp only [Option.bind, qn] at e; cases e
        | some ys =>
          simp only [Option.bind, qn] at e
          split at e
          · rename_i c
            cases e
            refine er1 x q1 fun v Z1 H1 k1 r1 => ?_
            have h1 := r1.data
            cases h1
            refine ⟨⟨_, rfl⟩, er1 (x.step k1) q2 fun w Z2 H2 k2 r2 => ?_⟩
            obtain ⟨p, vs, rfl, hq, hd⟩ := items_ok r2 (k1.trans k2).zh qi
            have := strs_ok hd qn
            subst this
            exact ⟨_, p, ys, rfl, rfl, hq, c, k _ Z2 H2 (k1.trans k2) (vlR.pl (.str _))⟩
          · cases e
    · cases e
/-- a text, split at another -/
def eSplit (o a : SEnv → Option Sl) : SEnv → Option Sl := fun ρ => match o ρ, a ρ with
  | some (.pl (.str x)), some (.pl (.str y)) => if (y.length == 0) = false ∧ x.length ≤ 16777000 then some (.own ((Txt.split x y).map PyData.str)) else none
  | _, _ => none
theorem pd_split {o e : Expr} {fo fa : SEnv → Option Sl} {apos pos : Pos} (ho : PD X o fo) (ha : PD X e fa) (hs : starEach [e] X.env = [(false, eval e X.env)] := by rfl) (hbase : attributeBase o "split" X.env (eval o X.env) = eval o X.env := by rfl) (hline : (apos.endLine == pos.line) = true := by rfl) : PD X (.Call (.Attribute o "split" apos) [e] [] pos) (eSplit fo fa) :=
  PE_imp (pe_split ho ha hs hbase hline) fun σ H Q ⟨B, Z0, Z, ρ, s, x, e, k⟩ => by
    unfold eSplit at e
    split at e
    · rename_i a b q1 q2
      split at e
      · rename_i c
        cases e
        refine er1 x q1 fun v Z1 H1 k1 r1 => ?_
        have h1 := r1.data
        cases h1
        refine ⟨⟨_, rfl⟩, er1 (x.step k1) q2 fun w Z2 H2 k2 r2 => ?_⟩
        have h2 := r2.data
        cases h2
        refine ⟨_, _, rfl, rfl, c.1, by rw [sizeLine_eq]; omega, fun p hp => ?_⟩
        obtain ⟨k3, r3⟩ := vlR.newL (k1.trans k2).zh hp (strs_Dp (Txt.split a b))
        exact k _ _ _ ((k1.trans k2).trans k3) (r3.back (k1.trans k2).bh)
      · cases e
    · cases e
/-- methods of a text that take a text and tell something plain -/
def eM1 (C : Str → Prop) [DecidablePred C] (g : Str → Str → D) (o a : SEnv → Option Sl) : SEnv → Option Sl := fun ρ => match o ρ, a ρ with
  | some (.pl (.str x)), some (.pl (.str y)) => if C x then some (.pl (g x y)) else none
  | _, _ => none
theorem pd_m1 {id : String} {name : Str} {C : Str → Prop} [DecidablePred C] {g : Str → Str → D} {gv : Str → Str → V} {o e : Expr} {fo fa : SEnv → Option Sl} {apos pos : Pos} (slot : Slot "str" name id) (ty : typeOf (.builtin id) = pure (.type "method_descriptor"))
    (rule : MtR X id (fun x xs H Q => ∃ a b, x = .str a ∧ xs = [.str b] ∧ C a ∧ Q (gv a b) H)) (hv : ∀ (Z : Hp) a b, Dp X.K Z (gv a b) (g a b)) (ho : PD X o fo) (ha : PD X e fa)
    (hs : starEach [e] X.env = [(false, eval e X.env)] := by rfl) (hbase : attributeBase o name X.env (eval o X.env) = eval o X.env := by rfl) (hline : (apos.endLine == pos.line) = true := by rfl) : PD X (.Call (.Attribute o name apos) [e] [] pos) (eM1 C g fo fa) :=
  PE_imp (pe_m1 slot ty rule ho ha hs hbase hline) fun σ H Q ⟨B, Z0, Z, ρ, s, x, e, k⟩ => by
    unfold eM1 at e
    split at e
    · rename_i a b q1 q2
      split at e
      · rename_i c
        cases e
        refine er1 x q1 fun v Z1 H1 k1 r1 => ?_
        have h1 := r1.data
        cases h1
        refine ⟨⟨_, rfl⟩, er1 (x.step k1) q2 fun w Z2 H2 k2 r2 => ?_⟩
        have h2 := r2.data
        cases h2
        exact ⟨_, _, rfl, rfl, c, k _ Z2 H2 (k1.trans k2) (vlR.pl (hv _ _ _))⟩
      · cases e
    · cases e
theorem mt_anyC {id : String} {gv : Str → Str → V} (h : MtR X id (fun x xs H Q => ∃ a b, x = .str a ∧ xs = [.str b] ∧ Q (gv a b) H)) : MtR X id (fun x xs H Q => ∃ a b, x = .str a ∧ xs = [.str b] ∧ True ∧ Q (gv a b) H) :=
  fun pins s σ H x xs v us Q I rx rs ⟨a, b, e1, e2, _, q⟩ => h pins s σ H x xs v us Q I rx rs ⟨a, b, e1, e2, q⟩
abbrev tru (_ : Str) : Prop := True
abbrev fits24 (a : Str) : Prop := a.length ≤ 16777216
theorem pd_sCount {o e : Expr} {fo fa : SEnv → Option Sl} {apos pos : Pos} (ho : PD X o fo) (ha : PD X e fa) (hs : starEach [e] X.env = [(false, eval e X.env)] := by rfl) (hbase : attributeBase o "count" X.env (eval o X.env) = eval o X.env := by rfl) (hline : (apos.endLine == pos.line) = true := by rfl) : PD X (.Call (.Attribute o "count" apos) [e] [] pos) (eM1 tru (fun x y => .int (Txt.count x y)) fo fa) :=
  pd_m1 PySem.F.slot_str_count PySem.F.type_str_count (mt_anyC mt_count) (fun _ _ _ => .int _) ho ha hs hbase hline
theorem pd_sStarts {o e : Expr} {fo fa : SEnv → Option Sl} {apos pos : Pos} (ho : PD X o fo) (ha : PD X e fa) (hs : starEach [e] X.env = [(false, eval e X.env)] := by rfl) (hbase : attributeBase o "startswith" X.env (eval o X.env) = eval o X.env := by rfl) (hline : (apos.endLine == pos.line) = true := by rfl) : PD X (.Call (.Attribute o "startswith" apos) [e] [] pos) (eM1 tru (fun x y => .bool (Txt.startswith x y)) fo fa) :=
  pd_m1 PySem.F.slot_str_startswith PySem.F.type_str_startswith (mt_anyC mt_startswith) (fun _ _ _ => .bl _) ho ha hs hbase hline
theorem pd_lstripC {o e : Expr} {fo fa : SEnv → Option Sl} {apos pos : Pos} (ho : PD X o fo) (ha : PD X e fa) (hs : starEach [e] X.env = [(false, eval e X.env)] := by rfl) (hbase : attributeBase o "lstrip" X.env (eval o X.env) = eval o X.env := by rfl) (hline : (apos.endLine == pos.line) = true := by rfl) : PD X (.Call (.Attribute o "lstrip" apos) [e] [] pos) (eM1 fits24 (fun x y => .str (Txt.lstripChars x y)) fo fa) :=
  pd_m1 PySem.F.slot_str_lstrip PySem.F.type_str_lstrip (by have := mt_lstripChars (X := X); rw [sizeLine_eq] at this; exact this) (fun _ _ _ => .str _) ho ha hs hbase hline
theorem pd_rstripC {o e : Expr} {fo fa : SEnv → Option Sl} {apos pos : Pos} (ho : PD X o fo) (ha : PD X e fa) (hs : starEach [e] X.env = [(false, eval e X.env)] := by rfl) (hbase : attributeBase o "rstrip" X.env (eval o X.env) = eval o X.env := by rfl) (hline : (apos.endLine == pos.line) = true := by rfl) : PD X (.Call (.Attribute o "rstrip" apos) [e] [] pos) (eM1 fits24 (fun x y => .str (Txt.rstripChars x y)) fo fa) :=
  pd_m1 PySem.F.slot_str_rstrip PySem.F.type_str_rstrip (by have := mt_rstripChars (X := X); rw [sizeLine_eq] at this; exact this) (fun _ _ _ => .str _) ho ha hs hbase hline
end
/-! ### reckoning -/
theorem eRev_def (a : SEnv → Option Sl) (ρ : SEnv) : eRev a ρ = ((a ρ).bind litems).map fun ds => .own ds.reverse := rfl
theorem eJoin_of {o a : SEnv → Option Sl} {ρ : SEnv} {x : Str} {s : Sl} {ys : List Str} (h1 : o ρ = some (.pl (.str x))) (h2 : a ρ = some s) (h3 : items s = some (ys.map PyData.str)) (h4 : (ys.map (·.length)).sum + ys.length * x.length ≤ 16777216) : eJoin o a ρ = some (.pl (.str (Txt.join x ys))) := by
  unfold eJoin
  rw [h1, h2]
  show joinS x s = _
  unfold joinS
  rw [h3]
  show (strsD (ys.map PyData.str)).bind _ = _
  rw [strsD_map]
  exact if_pos h4
theorem eM1_of {C : Str → Prop} [DecidablePred C] {g : Str → Str → D} {o a : SEnv → Option Sl} {ρ : SEnv} {x y : Str} (h1 : o ρ = some (.pl (.str x))) (h2 : a ρ = some (.pl (.str y))) (hc : C x) : eM1 C g o a ρ = some (.pl (g x y)) := by
  unfold eM1
  rw [h1, h2]
  exact if_pos hc
theorem eSplit_of {o a : SEnv → Option Sl} {ρ : SEnv} {x y : Str} (h1 : o ρ = some (.pl (.str x))) (h2 : a ρ = some (.pl (.str y))) (h3 : (y.length == 0) = false) (h4 : x.length ≤ 16777000) : eSplit o a ρ = some (.own ((Txt.split x y).map PyData.str)) := by
  unfold eSplit
  rw [h1, h2]
  exact if_pos ⟨h3, h4⟩
theorem sortedSF_of {s : Sl} {ss : List Str} (h : litems s = some (ss.map PyData.str)) (hl : ss.length < 64) : sortedSF [s] = some (.own ((sortS ss).map PyData.str)) := by
  show sortedSS s = _
  unfold sortedSS
  rw [h]
  show (strsD (ss.map PyData.str)).bind _ = _
  rw [strsD_map]
  exact if_pos hl
end DL

set_option Elab.async false
set_option linter.all false
set_option maxRecDepth 100000
set_option maxHeartbeats 1000000
/-! DLV: xs.extend(a tuple), sorted(a dict of texts). -/
namespace DL
open PySem PySem.Spec PyProof.Rows L2
section
variable {X : Cx} {E : WX}
def rExtT (K : PySem.W.Frag) : V → List V → Hp → VK → Prop := fun x vs H Q => ∃ l b xs zs, x = .ref l ∧ vs = [.ref b] ∧ H l = some (.lst xs) ∧ SqT K H b zs ∧ xs.length + zs.length ≤ 16777216 ∧ Q .non (upd H l (.lst (xs ++ zs)))
theorem ext_tupW (l t : Addr) (xs ys : Array Value) (n m : Nat) (dd : Option Addr) (so : Array (Option Value)) (h0 : ¬(!xs.isEmpty && Builtin.List.listTooLong (xs.size + ys.size)) = true) (h1 : xs.size ≤ sizeLine) (h2 : xs.size + ys.size ≤ sizeLine + 1) :
    Meets (Builtin.«list.extend» ⟨[.ref l, .ref t], []⟩) (fun _ R s => s.heap.get? l = some { cls := .type "list", data := .seq xs n } ∧ s.heap.get? t = some { cls := .type "tuple", dict := dd, data := .seq ys m, slots := so } ∧ R (.ok (.ret Value.none)) { s with heap := s.heap.update l (Obj.mapSeq fun z => z ++ ys), toks := s.toks }) :=
  .of_wp fun prg wo A R st hs => by
    obtain ⟨hp, gs, dr, tk, os⟩ := st
    obtain ⟨hL, hT, hR⟩ := hs
    have g1 := AutoSeq1.idx_int
    have g2 := AutoSeq1.sub_tuple_tuple
    have g3 := AutoSeq1.sub_list_list
    have g4 := AutoSeq1.sub_tuple_list
    have g5 := AutoSeq1.sub_list_tuple
    have hy : (xs ++ ys).size ≤ sizeLine + 1 := by rw [Array.size_append]; exact h2
    wp_walk using (wpAny_updateSeq hL rfl (hz := h1) (_hz' := hy)), AutoSeq1.wpAny_loadPart' hL, AutoSeq1.wpAny_loadPart' hT
    exact ⟨_, rfl, hR⟩
theorem mt_extT : MtM X "list.extend" (rExtT X.K) := by
  intro pins s σ H x vs v us Q I rx rv h
  obtain ⟨l, b, xs, zs, e1, e2, hL, hT, hz, q⟩ := h
  subst e1 e2
  cases rx
  obtain ⟨u, e3, ru⟩ := rv.one
  subst e3
  cases ru
  obtain ⟨k1, i1, n1, r1, l1, g1⟩ := I.lstM hL
  obtain ⟨i2, r2, ⟨⟨cl, dd, dt, so⟩, g2, c2, n2, d2⟩, _⟩ := I.tuple hT
  simp only at c2 d2
  subst c2
  subst d2
  have t1 : xs.length = i1.length := r1.length
  have t2 : zs.length = i2.length := r2.length
  have w1 : i1.toArray.size + i2.toArray.size ≤ sizeLine := by rw [List.size_toArray, List.size_toArray, sizeLine_eq]; omega
  have w2 : ¬ (!i1.toArray.isEmpty && Builtin.List.listTooLong (i1.toArray.size + i2.toArray.size)) = true := by rw [notLongL w1, Bool.and_false]; simp
  have go := ext_tupW l b i1.toArray i2.toArray n1 n2 dd so w2 (by rw [List.size_toArray, sizeLine_eq]; omega) (by omega)
  refine call_meets PySem.F.slot_list_extend ⟨_, g1, rfl⟩ PySem.F.entry_list_extend (PySem.F.args_list_extend_2 _ _) go ⟨g1, g2, ⟨.non, _, I.lset (its' := i1 ++ i2) hL g1 (by simp) (r1.append r2) (by rw [List.length_append, sizeLine_eq]; omega), rfl, q⟩⟩
/-- xs.extend(t) -/
def sExtT (i : Nat) (f : SEnv → Option Sl) : SEnv → Option Out := fun ρ => match get ρ i, f ρ with
  | .own ds, some (.pl (.tuple es)) => if ds.length + es.length ≤ 100000 then some (.nx (put ρ i (.own (ds ++ es)))) else none
  | _, _ => none
theorem sd_extT (i : Nat) {x : Str} {e : Expr} {f : SEnv → Option Sl} {p apos cpos pos : Pos} (hv : PE X (.Name x p) (tVar i)) (he : PD X e f)
    (hb : PE X (.Call (.Attribute (.Name x p) "extend" apos) [e] [] cpos) (tBM X.K "list" (rExtT X.K) (tVar i) (tCons (ER X.K f) tNil))) (hs : swapsWith (.Call (.Attribute (.Name x p) "extend" apos) [e] [] cpos) none pos.line X.env = pure false := by rfl) :
    SD X E (.Expr (.Call (.Attribute (.Name x p) "extend" apos) [e] [] cpos) pos) (sExtT i f) := PS_imp (ps_expr hb hs) fun D σ H ⟨B, Z0, Z, ρ, o, x, e, k⟩ => by
  unfold sExtT at e
  split at e
  · rename_i ds es q1 q2
    by_cases c : ds.length + es.length ≤ 100000
    · rw [if_pos c] at e
      cases e
      obtain ⟨p, vs, hv, hp, hd, km⟩ := x.mut q1
      refine ⟨_, hv, .inl ⟨rfl, vs, .inl (.inl hp)⟩, er1 x q2 fun v Z' H' k' r => ?_⟩
      obtain ⟨t, ws, rfl, hq, hw⟩ := titems_ok r.data
      obtain ⟨hp', km'⟩ := km k'
      exact ⟨p, t, vs, ws, rfl, rfl, hp', sqT_mono k'.zh hq, by rw [DpAll_length hd, DpAll_length hw]; omega, k Z' σ _ (km' _ _ (DpAll_append (DpAll_mono k'.zz _ _ hd) hw))⟩
    · rw [if_neg c] at e; cases e
  · cases e
/-- x, y = a, b of plain data -/
def sPar (i j : Nat) (fa fb : SEnv → Option Sl) : SEnv → Option Out := fun ρ => match fa ρ, fb ρ with
  | some (.pl d), some (.pl e) => some (.nx (put (put ρ i (.pl d)) j (.pl e)))
  | _, _ => none
theorem sd_par {i j : Nat} {x y : Str} {a b : Expr} {fa fb : SEnv → Option Sl} {px py pt pos : Pos} {kt k2 : Nat} {pt2 : Pos} (hN : X.N.Nodup) (hi : X.N[i]? = some x) (hj : X.N[j]? = some y) (hij : i ≠ j)
    (hx : X.env.scope.names.lookup x = some .local) (hy : X.env.scope.names.lookup y = some .local) (ha : PD X a fa) (hb : PD X b fb)
    (hw : swappedStores [.Tuple [.Name x px, .Name y py] kt pt] (.Tuple [a, b] k2 pt2) X.env = pure (some [x, y])) (hc : X.calm = true := by rfl)
    (hs : swapsWithSole [.Tuple [.Name x px, .Name y py] kt pt] (.Tuple [a, b] k2 pt2) pos.line X.env = pure false := by rfl)
    (h1 : starEach [a, b] X.env = (false, eval a X.env) :: starEach [b] X.env := by rfl) (h3 : starEach [b] X.env = (false, eval b X.env) :: starEach [] X.env := by rfl) :
    SD X E (.Assign [.Tuple [.Name x px, .Name y py] kt pt] (.Tuple [a, b] k2 pt2) pos) (sPar i j fa fb) :=
  PS_imp (ps_par hc hN hi hj hij hx hy (pa_cons ha (pa_cons hb pa_nil h3) h1) hw hs) fun D σ H ⟨B, Z0, Z, ρ, o, x, e, k⟩ => by
    unfold sPar at e
    split at e
    · rename_i d1 d2 q1 q2
      cases e
      exact er2 x q1 q2 fun v w Z' H' k' r1 r2 => ⟨v, w, rfl, k Z' _ H' (((x.step k').setD i r1.data).setD j r2.data)⟩
    · cases e
/-! ### sorted(d) -/
def keysS : List (Key × D) → Option (List Str)
  | [] => some []
  | (.inr s, _) :: r => (keysS r).map (s :: ·)
  | _ => none
theorem keys_ok {K : PySem.W.Frag} {Z : Hp} : ∀ {vs : List (Key × V)} {ds : List (Key × D)} {ss : List Str}, KVD K Z vs ds → keysS ds = some ss → vs.map (·.1) = ss.map Sum.inr
  | _, _, _, .nil, e => by cases e; rfl
  | (k1, v) :: vs, (k2, d) :: ds, ss, .cons r t, e => by
    cases k2 with
    | inl i => cases e
    | inr s =>
      change (keysS ds).map (s :: ·) = some ss at e
      cases q : keysS ds with
      | none => rw [q] at e; cases e
      | some rs =>
        rw [q] at e
        cases e
        rw [List.map_cons, keys_ok t q, show k1 = Sum.inr s from r.1]
        rfl
theorem keysS_map {α : Type} (f : α → Str) (g : α → D) : ∀ l : List α, keysS (l.map fun x => (Sum.inr (f x), g x)) = some (l.map f)
  | [] => rfl
  | x :: l => by show (keysS (l.map _)).map _ = _; rw [keysS_map f g l]; rfl
def sortedDS (s : Sl) : Option Sl := ((kvsOf s).bind keysS).bind fun ns => if ns.length < 64 then some (.own ((sortS ns).map PyData.str)) else none
def sortedDF : List Sl → Option Sl := fun ss => match ss with | [s] => sortedDS s | _ => none
theorem ok_sortedD {K : PySem.W.Frag} : BuiOK K (fun xs H Q => ∃ (a : Addr) (kvs : List (Key × V)) (ks : List Str), xs = [.ref a] ∧ Rd H a (.dK kvs) ∧ kvs.map (·.1) = ks.map Sum.inr ∧ ks.length < 64 ∧
    ∀ ys p, ys.Perm ks → sortedS ys = true → H p = none → Q (.ref p) (upd H p (.lst (ys.map V.str)))) sortedDF := bui1 (F := sortedDS) fun Z H v s t Q zh r e k => by
  unfold sortedDS at e
  cases qi : kvsOf s with
  | none => rw [qi] at e; cases e
  | some kvs =>
    rw [qi] at e
    cases qn : keysS kvs with
    | none => simp only [Option.bind, qn] at e; cases e
    | some ns =>
      simp only [Option.bind, qn] at e
      split at e
      · rename_i c
        cases e
        obtain ⟨p, vs, rfl, hp, hd⟩ := kvsOf_ok r qi
        refine ⟨p, vs, ns, rfl, .inl hp, keys_ok hd qn, c, fun ns' l h1 h2 hl => ?_⟩
        have := sortS_uniq h2 h1
        subst this
        obtain ⟨k2, r2⟩ := vlR.newL zh hl (strs_Dp (sortS ns))
        exact k _ _ _ k2 r2
      · cases e
theorem pd_sortedD {p pos : Pos} {e : Expr} {a : SEnv → Option Sl} (hg : Gl X "sorted") (hm : X.mg "sorted" = none) (ha : PD X e a) (hc : X.calm = true := by rfl) (h1 : starEach [e] X.env = (false, eval e X.env) :: starEach [] X.env := by rfl) : PD X (.Call (.Name "sorted" p) [e] [] pos) (eBui sortedDF (aCons a aNil)) :=
  pd_callB (call_sortedD hc) ok_sortedD hg hm (by decide +kernel) (ad_cons ha ad_nil h1) (by decide) (by decide) h1 rfl
end
theorem sortedDF_of {s : Sl} {kvs : List (Key × D)} {ss : List Str} (h : kvsOf s = some kvs) (h2 : keysS kvs = some ss) (hl : ss.length < 64) : sortedDF [s] = some (.own ((sortS ss).map PyData.str)) := by
  show sortedDS s = _
  unfold sortedDS
  rw [h]
  show (keysS kvs).bind _ = _
  rw [h2]
  exact if_pos hl
theorem sExtT_of {i : Nat} {f : SEnv → Option Sl} {ρ : SEnv} {ds es : List D} (h1 : get ρ i = .own ds) (h2 : f ρ = some (.pl (.tuple es))) (h : ds.length + es.length ≤ 100000) : sExtT i f ρ = some (.nx (put ρ i (.own (ds ++ es)))) := by
  unfold sExtT
  rw [h1, h2]
  exact if_pos h
end DL

set_option Elab.async false
set_option linter.all false
set_option maxRecDepth 100000
set_option maxHeartbeats 1000000
/-! DLK: tuples that are known to their object: made by tuple(a list), asked for an index. -/
namespace DL
open PySem PySem.Spec PyProof.Rows L2
section
variable {X : Cx}
def rTupK (K : PySem.W.Frag) : List V → Hp → VK → Prop := fun xs H Q => ∃ p ys, xs = [.ref p] ∧ SqL K H p ys ∧ ∀ l o, H l = none → o.cls = .type "tuple" → o.dict = none → Q (.ref l) (upd H l (.frz o (.tup ys)))
theorem call_tupK : CallR X (.type "tuple") (rTupK X.K) := by
  intro pins s σ H xs us Q I r h
  obtain ⟨p, ys, rfl, hq, q⟩ := h
  obtain ⟨u, rfl, rx⟩ := vals1 r
  cases rx
  obtain ⟨its, rv, pl, hz⟩ := I.list hq
  have hl := rv.length
  refine call_tuple_list pl.isList (fun h2 kp => ?_) (by rw [List.size_toArray]; omega)
  have I1 : Inv X pins σ H { s with heap := h2 } := I.kept (t' := s.toks) kp
  let ob : Obj := { cls := .type "tuple", data := .seq its.toArray }
  have I2 : Inv X pins σ (upd H h2.objs.size (.frz ob (.tup ys))) { s with heap := h2.push ob } :=
    I1.laid (t' := s.toks) (fun b o e => Heap.get?_push_of_some _ e) (Nat.le_refl _) (show ObjOk X.prog X.w _ _ _ (.frz ob (.tup ys)) from ⟨Heap.get?_push_size _ rfl, hz, its, rv, IsTup.new _ _⟩)
  exact ⟨.ref h2.objs.size, _, I2, rfl, q _ ob (I1.hok.fresh (Nat.le_refl _)) rfl rfl⟩
/-- tuple(a list), known -/
def tupKF : List Sl → Option Sl := fun ss => match ss with | [s] => (litems s).map .tk | _ => none
theorem ok_tupK {K : PySem.W.Frag} : BuiOK K (rTupK K) tupKF := bui1 (F := fun s => (litems s).map .tk) fun Z H v s t Q zh r e k => by
  cases qi : litems s with
  | none => rw [qi] at e; cases e
  | some ds =>
    rw [qi] at e
    cases e
    obtain ⟨p, vs, rfl, hq, hd⟩ := litems_ok r zh qi
    refine ⟨p, vs, rfl, hq, fun l o hl h1 h2 => ?_⟩
    have k2 : Step Z H (upd Z l (.frz o (.tup vs))) (upd H l (.frz o (.tup vs))) := Step.newZ zh hl
    refine k _ _ _ k2 ⟨[], ⟨rfl, l, rfl, o, vs, upd_same, h1, h2, DpAll_mono k2.zz _ _ hd⟩, fun _ z => nomatch z⟩
theorem pd_tupK {p pos : Pos} {e : Expr} {a : SEnv → Option Sl} (hg : Gl X "tuple") (hm : X.mg "tuple" = none) (ha : PD X e a) (h1 : starEach [e] X.env = (false, eval e X.env) :: starEach [] X.env := by rfl) : PD X (.Call (.Name "tuple" p) [e] [] pos) (eBui tupKF (aCons a aNil)) :=
  pd_callTy call_tupK ok_tupK hg hm (by decide +kernel) (ad_cons ha ad_nil h1) (by decide) (by decide) h1 rfl
/-- a known tuple as plain data -/
def unkS : Sl → Option Sl
  | .tk ds => some (.pl (.tuple ds))
  | _ => none
def eUnk (a : SEnv → Option Sl) : SEnv → Option Sl := fun ρ => (a ρ).bind unkS
theorem pd_unk {e : Expr} {a : SEnv → Option Sl} (h : PD X e a) : PD X e (eUnk a) := PE_imp h fun σ H Q ⟨B, Z0, Z, ρ, s, x, e, k⟩ => by
  unfold eUnk at e
  cases q : a ρ with
  | none => rw [q] at e; cases e
  | some t =>
    rw [q] at e
    cases t with
    | tk ds =>
      cases e
      refine ⟨B, Z0, Z, ρ, _, x, q, fun v Z' H' k' r => k v Z' H' k' ?_⟩
      obtain ⟨fp, ⟨e1, p, e2, o, vs, g1, g2, g3, g4⟩, h2⟩ := r
      cases e2
      exact vlR.pl (.tup (.inl (.inr ⟨o, g1⟩)) g4)
    | _ => cases e
/-! ### names.index(x) -/
abbrev rTIx (K : PySem.W.Frag) : V → List V → Hp → VK → Prop := fun x xs H Q => ∃ p, ∃ ys : List Str, ∃ z j, x = .ref p ∧ xs = [.str z] ∧ SqT K H p (ys.map V.str) ∧ ys[j]? = some z ∧ (∀ m, m < j → ys[m]? ≠ some z) ∧ Q (.int (j : Nat)) H
def tTIx (r : V → List V → Hp → VK → Prop) (to te : TE) : TE := fun σ H Q => to σ H fun x H1 => (∃ p o u, x = V.ref p ∧ H1 p = some (.frz o u) ∧ o.cls = .type "tuple" ∧ o.dict = none) ∧ te σ H1 fun y H2 => r x [y] H2 Q
theorem pe_tupIx {o e : Expr} {to te : TE} {apos pos : Pos} (ho : PE X o to) (he : PE X e te) (hs : starEach [e] X.env = [(false, eval e X.env)] := by rfl) (hb : attributeBase o "index" X.env (eval o X.env) = eval o X.env := by rfl) (hl : (apos.endLine == pos.line) = true := by rfl) :
    PE X (.Call (.Attribute o "index" apos) [e] [] pos) (tTIx (rTIx X.K) to te) := by
  refine ⟨fun pins s σ H Q I h => PySem.Call_method1 hb hs hl (thn (ho.run pins s σ H _ I h) fun v s1 ⟨x, H1, I1, r1, q1⟩ => ?_)⟩
  obtain ⟨⟨p, ob, u, rfl, g1, g2, g3⟩, q1⟩ := q1
  cases r1
  obtain ⟨g4, _⟩ := I1.hok p _ g1
  refine ⟨"tuple", _, PySem.F.plainAttrs_tuple, PySem.F.slot_tuple_index, PySem.F.type_tuple_index, ⟨ob, g4, g2⟩, (fun a ea => by cases ea; exact ⟨ob, g4, g3⟩), Calls.callWith_builtin rfl (Calls.evalArgs_plain (Calls.spliced_cons ?_))⟩
  exact thn (he.run pins s1 σ H1 _ I1 q1) fun w s2 ⟨y, H2, I2, r2, q2⟩ => Calls.spliced_nil (mt_tup_index pins s2 σ H2 (.ref p) [y] _ [w] Q I2 (show RelV (.ref p) (.ref p) from rfl) (.cons r2 .nil) q2)
def eTIx (fa fb : SEnv → Option Sl) : SEnv → Option Sl := fun ρ => match fa ρ, fb ρ with
  | some (.tk ds), some (.pl (.str z)) => match strsD ds with
    | some ys => (ys.findIdx? fun y => y == z).map fun j => .pl (.int (j : Nat))
    | none => none
  | _, _ => none
theorem pd_tupIx {o e : Expr} {fa fb : SEnv → Option Sl} {apos pos : Pos} (ha : PD X o fa) (he : PD X e fb) (hs : starEach [e] X.env = [(false, eval e X.env)] := by rfl) (hb : attributeBase o "index" X.env (eval o X.env) = eval o X.env := by rfl) (hl : (apos.endLine == pos.line) = true := by rfl) :
    PD X (.Call (.Attribute o "index" apos) [e] [] pos) (eTIx fa fb) :=
  PE_imp (pe_tupIx ha he hs hb hl) fun σ H Q ⟨B, Z0, Z, ρ, s, x, e, k⟩ => by
    unfold eTIx at e
    split at e
    · rename_i ds z q1 q2
      cases qs : strsD ds with
      | none => rw [qs] at e; cases e
      | some ys =>
        rw [qs] at e
        cases qj : ys.findIdx? (fun y => y == z) with
        | none => simp only [qj] at e; cases e
        | some j =>
          simp only [qj] at e
          cases e
          refine er1 x q1 fun v Z1 H1 k1 r1 => ?_
          obtain ⟨fp, ⟨_, p, e2, o, vs, g1, g2, g3, g4⟩, _⟩ := r1
          cases e2
          have hp : H1 p = some (.frz o (.tup vs)) := k1.zh _ _ g1
          refine ⟨⟨p, o, _, rfl, hp, g2, g3⟩, er1 (x.step k1) q2 fun w Z2 H2 k2 r2 => ?_⟩
          have hw := r2.data
          cases hw
          have := strs_ok g4 qs
          subst this
          obtain ⟨hj, hpj, hn⟩ := List.findIdx?_eq_some_iff_getElem.mp qj
          refine ⟨p, ys, z, j, rfl, rfl, .inl (.inr ⟨o, k2.bh _ _ hp⟩), ?_, fun m hm e3 => ?_, k _ Z2 H2 (k1.trans k2) (vlR.pl (.int _))⟩
          · rw [List.getElem?_eq_getElem hj, beq_iff_eq.mp hpj]
          · have hml : m < ys.length := by omega
            rw [List.getElem?_eq_getElem hml] at e3
            have := hn m hm
            rw [Option.some.inj e3, beq_self_eq_true] at this
            exact absurd rfl this
    · cases e
end
theorem ssd_stuck {X : Cx} {E : WX} {st : List Stmt} : SsD X E st sStk := ⟨fun _ _ _ _ _ _ h => by obtain ⟨_, _, _, _, _, _, e, _⟩ := h; cases e⟩
theorem tupKF_brw (ds : List D) : tupKF [.brw ds] = some (.tk ds) := rfl
theorem eUnk_def (a : SEnv → Option Sl) (ρ : SEnv) : eUnk a ρ = (a ρ).bind unkS := rfl
theorem unkS_tk (ds : List D) : unkS (.tk ds) = some (.pl (.tuple ds)) := rfl
theorem eTIx_of {fa fb : SEnv → Option Sl} {ρ : SEnv} {ys : List Str} {z : Str} {j : Nat} (h1 : fa ρ = some (.tk (ys.map .str))) (h2 : fb ρ = some (.pl (.str z))) (h3 : ys.findIdx? (fun y => y == z) = some j) : eTIx fa fb ρ = some (.pl (.int (j : Nat))) := by
  unfold eTIx
  rw [h1, h2]
  show (match strsD (ys.map PyData.str) with | some ys => _ | none => none) = _
  rw [strsD_map]
  show (ys.findIdx? _).map _ = _
  rw [h3]
  rfl
end DL

set_option Elab.async false
set_option linter.all false
set_option maxRecDepth 100000
set_option maxHeartbeats 1000000
/-! DLN: lists and tuples whose first item is a known tuple: made, parted; x in xs where items are data of any depth. -/
namespace DL
open PySem PySem.Spec PyProof.Rows L2
section
variable {X : Cx} {E : WX}
/-- [a, b, ..] or (a, b, ..), a a known tuple -/
def eKq (l : Bool) (a : SEnv → Option Sl) (f : SEnv → Option (List D)) : SEnv → Option Sl := fun ρ => match a ρ, f ρ with
  | some (.tk ds), some r => if r.length ≤ 1000 then some (.kq l ds r) else none
  | _, _ => none
theorem kq_core {l : Bool} {a : SEnv → Option Sl} {f : SEnv → Option (List D)} {σ : L2.St} {H : Hp} {Q : VK} (mk : List V → HO) (hl : ∀ K Z p vs, Rd Z p (mk vs) → if l then SqL K Z p vs else SqT K Z p vs) (h : ER X.K (eKq l a f) σ H Q) :
    tCons (ER X.K a) (DR X.K f) σ H fun vs H1 => vs.length ≤ sizeLine ∧ ∀ p, H1 p = none → Q (.ref p) (upd H1 p (mk vs)) := by
  obtain ⟨B, Z0, Z, ρ, s, x, e, k⟩ := h
  unfold eKq at e
  split at e
  · rename_i ds r q1 q2
    split at e
    · rename_i c
      cases e
      refine er1 x q1 fun v Z1 H1 k1 r1 => ⟨B, Z0, Z1, ρ, r, x.step k1, q2, fun ws Z2 H2 k2 hws => ⟨by rw [sizeLine_eq, List.length_cons, DpAll_length hws]; omega, fun p hp => ?_⟩⟩
      obtain ⟨fp, ⟨_, q, e2, ht⟩, _⟩ := r1
      cases e2
      have k3 : Step Z2 H2 (upd Z2 p (mk (.ref q :: ws))) (upd H2 p (mk (.ref q :: ws))) := Step.newZ (k1.trans k2).zh hp
      exact k _ _ _ ((k1.trans k2).trans k3) ⟨[], ⟨rfl, p, rfl, q, ws, hl _ _ _ _ (.inl upd_same), (ht.mono k2.zz).mono k3.zz, DpAll_mono k3.zz _ _ hws⟩, fun _ z => nomatch z⟩
    · cases e
  · cases e
theorem pd_lstK {e : Expr} {es : List Expr} {pos : Pos} {a : SEnv → Option Sl} {f : SEnv → Option (List D)} (he : PD X e a) (h : DD X es f) (h1 : starEach (e :: es) X.env = (false, eval e X.env) :: starEach es X.env := by rfl) : PD X (.List (e :: es) pos) (eKq true a f) :=
  PE_imp (pe_lst (pa_cons he h h1)) fun σ H Q w => kq_core (l := true) .lst (fun K Z p vs r => (Or.inl r : SqL K Z p vs)) w
theorem pd_tupK2 {e : Expr} {es : List Expr} {x1} {pos : Pos} {a : SEnv → Option Sl} {f : SEnv → Option (List D)} (he : PD X e a) (h : DD X es f) (h1 : starEach (e :: es) X.env = (false, eval e X.env) :: starEach es X.env := by rfl) : PD X (.Tuple (e :: es) x1 pos) (eKq false a f) :=
  PE_imp (pe_tup (pa_cons he h h1)) fun σ H Q w => kq_core (l := false) .tup (fun K Z p vs r => (Or.inl r : SqT K Z p vs)) w
/-- x, y, .. = such a one -/
def sUnK (l : Bool) (i n : Nat) (g : GsF) (f : SEnv → Option Sl) : SEnv → Option Out := fun ρ => match f ρ with
  | some (.kq l' ds r) => if l' = l ∧ r.length + 1 = n then (g r (put ρ i (.tk ds))).map .nx else none
  | _ => none
theorem unK_core {l : Bool} {i n : Nat} {g : GsF} {f : SEnv → Option Sl} {D : Ends} {σ : L2.St} {H : Hp} (h : SR X.K E (sUnK l i n g f) D σ H) :
    ER X.K f σ H fun v H1 => ∃ p vs q ws, v = .ref p ∧ (if l then SqL X.K H1 p vs else SqT X.K H1 p vs) ∧ vs.length = n ∧ vs = q :: ws ∧ GsR X.K g ws (σ.set i (some q)) H1 fun σ' H' => D.nx σ' H' := by
  obtain ⟨B, Z0, Z, ρ, o, x, e, k⟩ := h
  unfold sUnK at e
  split at e
  · rename_i l' ds r q1
    split at e
    · rename_i c
      obtain ⟨rfl, c⟩ := c
      cases qg : g r (put ρ i (.tk ds)) with
      | none => rw [qg] at e; cases e
      | some ρ' =>
        rw [qg] at e
        cases e
        refine er1 x q1 fun v Z1 H1 k1 r1 => ?_
        obtain ⟨fp, ⟨_, p, e2, q, ws, hs, ht, hd⟩, _⟩ := r1
        cases e2
        refine ⟨p, .ref q :: ws, .ref q, ws, rfl, ?_, by rw [List.length_cons, DpAll_length hd]; exact c, rfl, B, Z0, Z1, _, r, ρ', (x.step k1).set (s := .tk ds) (Step.refl (x.step k1).zh) i ⟨[], ⟨rfl, q, rfl, ht⟩, fun _ z => nomatch z⟩, hd, qg, fun σ' x' => k Z1 σ' H1 x'⟩
        cases l'
        · exact sqT_mono k1.zh hs
        · exact k1.zh.seq hs
    · cases e
  · cases e
theorem sd_unL {e : Expr} {x : Str} {es : List Expr} {kt i n : Nat} {g : GsF} {f : SEnv → Option Sl} {p pt pos : Pos} (hc : X.calm = true) (hN : X.N.Nodup) (hi : X.N[i]? = some x) (hx : Loc X.env.scope x) (hg : GsD X es g) (he : PD X e f) (hn : (assignEach (.Name x p :: es) X.env).length = n := by rfl) (hst : (assignEach (.Name x p :: es) X.env).findIdx? (·.1) = none := by rfl)
    (hf : X.fn x = true ∨ X.env.scope.names.lookup x = some .local := by first | exact .inl rfl | exact .inr rfl | assumption) (hs : swapsWithSole [.Tuple (.Name x p :: es) kt pt] e pos.line X.env = pure false := by rfl) (hw : swappedStores [.Tuple (.Name x p :: es) kt pt] e X.env = pure none := by rfl) (hq : (assignEach [.Tuple (.Name x p :: es) kt pt] X.env).map (·.2) = [assign (.Tuple (.Name x p :: es) kt pt) X.env] := by rfl) :
    SD X E (.Assign [.Tuple (.Name x p :: es) kt pt] e pos) (sUnK true i n g f) := PS_imp (ps_asg he (pg_lst hc (pgs_cons (pg_name hN hi hx hf) hg) hn hst) hs hw hq) fun D σ H h => by
  obtain ⟨B, Z0, Z, ρ, s, x, e, k⟩ := unK_core h
  refine ⟨B, Z0, Z, ρ, s, x, e, fun v Z' H' k' r => ?_⟩
  obtain ⟨p, vs, q, ws, h1, h2, h3, h4, h5⟩ := k v Z' H' k' r
  exact ⟨p, vs, h1, h2, h3, q, ws, h4, h5⟩
theorem sd_unT {e : Expr} {x : Str} {es : List Expr} {kt i n : Nat} {g : GsF} {f : SEnv → Option Sl} {p pt pos : Pos} (hc : X.calm = true) (hN : X.N.Nodup) (hi : X.N[i]? = some x) (hx : Loc X.env.scope x) (hg : GsD X es g) (he : PD X e f) (hn : (assignEach (.Name x p :: es) X.env).length = n := by rfl) (hst : (assignEach (.Name x p :: es) X.env).findIdx? (·.1) = none := by rfl)
    (hf : X.fn x = true ∨ X.env.scope.names.lookup x = some .local := by first | exact .inl rfl | exact .inr rfl | assumption) (hs : swapsWithSole [.Tuple (.Name x p :: es) kt pt] e pos.line X.env = pure false := by rfl) (hw : swappedStores [.Tuple (.Name x p :: es) kt pt] e X.env = pure none := by rfl) (hq : (assignEach [.Tuple (.Name x p :: es) kt pt] X.env).map (·.2) = [assign (.Tuple (.Name x p :: es) kt pt) X.env] := by rfl) :
    SD X E (.Assign [.Tuple (.Name x p :: es) kt pt] e pos) (sUnK false i n g f) := PS_imp (ps_asg he (pg_tup hc (pgs_cons (pg_name hN hi hx hf) hg) hn hst) hs hw hq) fun D σ H h => by
  obtain ⟨B, Z0, Z, ρ, s, x, e, k⟩ := unK_core h
  refine ⟨B, Z0, Z, ρ, s, x, e, fun v Z' H' k' r => ?_⟩
  obtain ⟨p, vs, q, ws, h1, h2, h3, h4, h5⟩ := k v Z' H' k' r
  exact ⟨p, vs, h1, h2, h3, q, ws, h4, h5⟩
/-! ### x in xs, deep -/
def tInD (neg : Bool) (fa fb : SEnv → Option Sl) : SEnv → Option Bool := fun ρ => match fa ρ, (fb ρ).bind litems with
  | some (.pl d), some ds => if SeqAt.shaped d = true ∧ SeqAt.shaped (.list ds) = true then some ((ds.any fun z => PyData.eqv z d) != neg) else none
  | _, _ => none
theorem inD_core {neg : Bool} {fa fb : SEnv → Option Sl} {σ : L2.St} {H : Hp} {B Z0 Z : Hp} {ρ : SEnv} {c : Bool} {R : V → V → Hp → Prop} (x : St X.K B Z0 Z H σ ρ) (e : tInD neg fa fb ρ = some c)
    (k : ∀ v w Z' H' d ds, Step Z H Z' H' → Dp X.K H' v d → Dp X.K H' w (.list ds) → SeqAt.shaped d = true → SeqAt.shaped (.list ds) = true → c = ((ds.any fun z => PyData.eqv z d) != neg) → R v w H') : ER X.K fa σ H fun v H1 => ER X.K fb σ H1 fun w H2 => R v w H2 := by
  unfold tInD at e
  split at e
  · rename_i d ds q1 q2
    cases qb : fb ρ with
    | none => rw [qb] at q2; cases q2
    | some s =>
      rw [qb] at q2
      split at e
      · rename_i cf
        cases e
        refine er2 x q1 qb fun v w Z' H' k' r1 r2 => ?_
        obtain ⟨p, vs, rfl, hq, hd⟩ := litems_ok r2 k'.zh q2
        exact k _ _ Z' H' d ds k' (Dp_mono k'.zh _ _ r1.data) (.lst hq (DpAll_mono k'.zh _ _ hd)) cf.1 cf.2 rfl
      · cases e
  · cases e
theorem td_notinD {n : Nat} {a b : Expr} {fa fb : SEnv → Option Sl} {pos : Pos} (hr : Room n X.A) (ha : PD X a fa) (hb : PD X b fb) (hm : behindInMarks .NotIn b = false := by rfl) : TD X (.Compare a [.NotIn] [b] pos) (tInD true fa fb) :=
  PT_imp (pt_cmpR (op_notInD (by have := hr.un; omega)) ha hb hm) fun σ H Q ⟨B, Z0, Z, ρ, c, x, e, k⟩ => inD_core x e fun v w Z' H' d ds k' h1 h2 h3 h4 h5 => ⟨d, ds, h1, h2, h3, h4, _, rfl, by
    have := k Z' H' k'
    rw [h5] at this
    cases q : (ds.any fun z => PyData.eqv z d) <;> rw [q] at this <;> exact this⟩
end
theorem eKq_of {l : Bool} {a : SEnv → Option Sl} {f : SEnv → Option (List D)} {ρ : SEnv} {ds r : List D} (h1 : a ρ = some (.tk ds)) (h2 : f ρ = some r) (h3 : r.length ≤ 1000) : eKq l a f ρ = some (.kq l ds r) := by
  unfold eKq
  rw [h1, h2]
  exact if_pos h3
theorem tInD_of {neg : Bool} {fa fb : SEnv → Option Sl} {ρ : SEnv} {d : D} {s : Sl} {ds : List D} (h1 : fa ρ = some (.pl d)) (h2 : fb ρ = some s) (h3 : litems s = some ds) (h4 : SeqAt.shaped d = true) (h5 : SeqAt.shaped (.list ds) = true) : tInD neg fa fb ρ = some ((ds.any fun z => PyData.eqv z d) != neg) := by
  unfold tInD
  rw [h1, h2]
  show (match (some (Sl.pl d)), litems s with | some (.pl d), some ds => _ | _, _ => none) = _
  rw [h3]
  exact if_pos ⟨h4, h5⟩
end DL

set_option Elab.async false
set_option linter.all false
set_option maxRecDepth 100000
set_option maxHeartbeats 1000000
/-! DLH: defs that change what is handed to them (lists, objects): their spec, their calls; tests that change; lists whose address is known. -/
namespace DL
open PySem PySem.Spec PyProof.Rows L2
abbrev FnC := List Sl → Option (Rs × List Sl)
def FSpC (K : PySem.W.Frag) (F : FnC) : Sp := fun vs H Q E => ∃ B Z ss r ss', Same B H ∧ Same Z H ∧ ArgR K B Z H vs ss ∧ F ss = some (r, ss') ∧ match r with
  | .ret s => ∀ v Z1 H1 Z' H', StepB B Z Z1 H1 → Step Z1 H1 Z' H' → ArgR K B Z1 H1 vs ss' → vlR K H1 Z' H' v s → Q v H'
  | .exn x => ∀ c od Z' H', StepB B Z Z' H' → ArgR K B Z' H' vs ss' → exR K Z' H' x c od → E c od H'
/-! ### the def -/
def mark1 (a : Addr) : Sl → Sl
  | .own ds => .lno a ds
  | .obj _ c fs => .obj (some a) c fs
  | s => s
def mark (p : Nat → Addr) : Nat → List Sl → List Sl
  | _, [] => []
  | i, s :: r => mark1 (p i) s :: mark p (i + 1) r
/-- what has become of it -/
def back1 (a : Addr) : Sl → Sl → Option Sl
  | .own _, .lno b ds => if b = a then some (.own ds) else none
  | .obj _ _ _, .obj (some b) c fs => if b = a then some (.obj none c fs) else none
  | .own _, _ => none
  | .obj _ _ _, _ => none
  | _, _ => some .un
def backs (p : Nat → Addr) : Nat → List Sl → SEnv → Option (List Sl)
  | _, [], _ => some []
  | i, s :: r, t :: ρ => match back1 (p i) s t, backs p (i + 1) r ρ with
    | some u, some l => some (u :: l)
    | _, _ => none
  | _, _ :: _, [] => none
open Classical in
noncomputable def allN {ι α : Type} (f : ι → Option α) : Option α := if h : ∃ o, ∀ a, f a = some o then some h.choose else none
theorem allN_inv {ι α : Type} {f : ι → Option α} {o : α} (h : allN f = some o) (a : ι) : f a = some o := by
  unfold allN at h
  split at h
  · rename_i q
    cases h
    exact q.choose_spec a
  · cases h
theorem allN_of {α : Type} {f : (Nat → Addr) → Option α} {o : α} (h : ∀ a, f a = some o) : allN f = some o := by
  have q : ∃ o, ∀ a, f a = some o := ⟨o, h⟩
  unfold allN
  rw [dif_pos q]
  have h1 := q.choose_spec (fun _ => 0)
  rw [h (fun _ => 0)] at h1
  exact congrArg some (Option.some.inj h1).symm
def finC (p : Nat → Addr) (ss : List Sl) : Out → Option (Rs × List Sl)
  | .rm s ρ => (backs p 0 ss ρ).map fun l => (.ret s, l)
  | .nx ρ => (backs p 0 ss ρ).map fun l => (.ret (.pl .none), l)
  | .ex x ρ => (backs p 0 ss ρ).map fun l => (.exn x, l)
  | _ => none
noncomputable def fnC (n m : Nat) (g : SEnv → Option Out) : FnC := fun ss => if ss.length = m then allN fun p => (g (ent n (mark p 0 ss))).bind (finC p ss) else none
theorem fnC_of {n m : Nat} {g : SEnv → Option Out} {ss l : List Sl} {r : Rs} (hl : ss.length = m) (h : ∀ p : Nat → Addr, ∃ o, g (ent n (mark p 0 ss)) = some o ∧ finC p ss o = some (r, l)) : fnC n m g ss = some (r, l) := by
  unfold fnC
  rw [if_pos hl]
  refine allN_of fun p => ?_
  obtain ⟨o, h1, h2⟩ := h p
  rw [h1]
  exact h2
theorem mark_length (p : Nat → Addr) : ∀ (ss : List Sl) (i : Nat), (mark p i ss).length = ss.length
  | [], _ => rfl
  | s :: r, i => by show (mark p (i + 1) r).length + 1 = r.length + 1; rw [mark_length p r]
theorem mark_get (p : Nat → Addr) : ∀ (ss : List Sl) (i j : Nat), get (mark p i ss) j = mark1 (p (i + j)) (get ss j)
  | [], _, _ => rfl
  | s :: r, i, 0 => rfl
  | s :: r, i, j + 1 => by
    show get (mark p (i + 1) r) j = mark1 (p (i + (j + 1))) (get r j)
    rw [mark_get p r (i + 1) j, Nat.add_right_comm, Nat.add_assoc]
theorem backs_get (p : Nat → Addr) : ∀ {ss : List Sl} {i : Nat} {ρ : SEnv} {l : List Sl}, backs p i ss ρ = some l → l.length = ss.length ∧ ∀ j, j < ss.length → back1 (p (i + j)) (get ss j) (get ρ j) = some (get l j)
  | [], _, _, _, h => by cases h; exact ⟨rfl, fun j hj => absurd hj (Nat.not_lt_zero _)⟩
  | s :: r, i, [], l, h => by cases h
  | s :: r, i, t :: ρ, l, h => by
    unfold backs at h
    split at h
    · rename_i u l' q1 q2
      cases h
      obtain ⟨h1, h2⟩ := backs_get p q2
      refine ⟨by rw [List.length_cons, List.length_cons, h1], fun j hj => ?_⟩
      cases j with
      | zero => exact q1
      | succ j =>
        have := h2 j (by simpa using hj)
        rw [Nat.add_right_comm, Nat.add_assoc] at this
        exact this
    · cases h
def handed : Sl → Bool
  | .own _ => true
  | .obj _ _ _ => true
  | _ => false
section
variable {K : PySem.W.Frag}
/-- the addresses of what is handed -/
def adr (vs : List V) (i : Nat) : Addr := match vs[i]? with
  | some (.ref q) => q
  | _ => 0
theorem handed_adr {B Z H : Hp} {vs : List V} {i : Nat} {s : Sl} {fp : List Addr} (h : slR K B Z H s (vs[i]?) fp) (hs : handed s = true) : vs[i]? = some (.ref (adr vs i)) := by
  unfold adr
  cases s with
  | own ds => obtain ⟨p, ws, _, hx, _⟩ := h; rw [hx]
  | obj a c fs => obtain ⟨p, C, dx, ws, fq, _, hx, _⟩ := h; rw [hx]
  | _ => cases hs
theorem mark_arg {B Z H : Hp} {vs : List V} {ss : List Sl} (a : ArgR K B Z H vs ss) : ArgR K B Z H vs (mark (adr vs) 0 ss) := by
  obtain ⟨hl, fp, h1, h2, h3⟩ := a
  refine ⟨by rw [mark_length, hl], fp, fun i => ?_, h2, h3⟩
  rw [mark_get, Nat.zero_add]
  have hi := h1 i
  cases c : get ss i with
  | own ds =>
    rw [c] at hi
    have e := handed_adr hi rfl
    obtain ⟨p, ws, e1, hx, hp, hd⟩ := hi
    rw [e] at hx
    cases hx
    exact ⟨ws, e1, e, hp, hd⟩
  | obj a c' fs =>
    rw [c] at hi
    have e := handed_adr hi rfl
    obtain ⟨p, C, dx, ws, fq, e1, hx, hq, r⟩ := hi
    have hx' := hx
    rw [e] at hx
    cases hx
    exact ⟨_, C, dx, ws, fq, e1, hx', fun q hq => (Option.some.inj hq).symm, r⟩
  | _ => rw [c] at hi; exact hi
theorem back_arg {B Z0 Z H B0 Z1 H1 : Hp} {σ : L2.St} {ρ : SEnv} (x : St K B Z0 Z H σ ρ) {vs : List V} {ss ss' : List Sl} (a : ArgR K B0 Z1 H1 vs ss) (e : backs (adr vs) 0 ss ρ = some ss') : ArgR K B Z H vs ss' := by
  obtain ⟨hl, fpa, a1, _, _⟩ := a
  obtain ⟨st, len, fp, h1, h2, h3⟩ := x
  obtain ⟨e1, e2⟩ := backs_get _ e
  have key : ∀ i, slR K B Z H (get ss' i) (vs[i]?) (if handed (get ss' i) then fp i else []) := fun i => by
    by_cases hi : i < ss.length
    · have e3 := e2 i hi
      rw [Nat.zero_add] at e3
      have ai := a1 i
      have hi1 := h1 i
      cases c : get ss i with
      | own ds =>
        rw [c] at e3 ai
        have ea := handed_adr ai rfl
        cases c2 : get ρ i with
        | lno b es =>
          rw [c2] at e3 hi1
          change (if b = adr vs i then some (Sl.own es) else none) = some (get ss' i) at e3
          by_cases hb : b = adr vs i
          · rw [if_pos hb] at e3
            rw [← Option.some.inj e3]
            obtain ⟨ws, f1, f2, f3, f4⟩ := hi1
            exact ⟨b, ws, f1, by rw [ea, hb], f3, f4⟩
          · rw [if_neg hb] at e3; cases e3
        | _ => rw [c2] at e3; cases e3
      | obj a0 c0 fs0 =>
        rw [c] at e3 ai
        have ea := handed_adr ai rfl
        cases c2 : get ρ i with
        | obj b? c' fs =>
          rw [c2] at e3 hi1
          cases b? with
          | none => cases e3
          | some b =>
            change (if b = adr vs i then some (Sl.obj none c' fs) else none) = some (get ss' i) at e3
            by_cases hb : b = adr vs i
            · rw [if_pos hb] at e3
              rw [← Option.some.inj e3]
              obtain ⟨p, C, dx, ws, fq, f1, f2, f3, f4⟩ := hi1
              have := f3 b rfl
              exact ⟨p, C, dx, ws, fq, f1, by rw [ea, ← hb, this], (fun q z => nomatch z), f4⟩
            · rw [if_neg hb] at e3; cases e3
        | _ => rw [c2] at e3; cases e3
      | _ =>
        rw [c] at e3
        have : get ss' i = .un := by cases q : get ρ i <;> rw [q] at e3 <;> exact (Option.some.inj e3).symm
        rw [this]
        exact rfl
    · rw [get_out ss' i (by omega)]
      exact rfl
  refine ⟨by rw [e1, hl], fun i => if handed (get ss' i) then fp i else [], key, fun i j a hij ha q => ?_, fun i a ha => ?_⟩
  · have c1 : handed (get ss' i) = true := by
      cases c : handed (get ss' i) with
      | true => rfl
      | false => simp only [c, Bool.false_eq_true, if_false] at ha; exact nomatch ha
    have c2 : handed (get ss' j) = true := by
      cases c : handed (get ss' j) with
      | true => rfl
      | false => simp only [c, Bool.false_eq_true, if_false] at q; exact nomatch q
    simp only [c1, if_true] at ha
    simp only [c2, if_true] at q
    exact h2 i j a hij ha q
  · have c1 : handed (get ss' i) = true := by
      cases c : handed (get ss' i) with
      | true => rfl
      | false => simp only [c, Bool.false_eq_true, if_false] at ha; exact nomatch ha
    simp only [c1, if_true] at ha
    exact h3 i a ha
theorem bodyC_read {E : XK} {N : List Str} {m : Nat} {g : SEnv → Option Out} {vs : List V} {H : Hp} {Q : VK} (hm : m ≤ N.length) (h : FSpC K (fnC N.length m g) vs H Q E) : SR K (fun c d _ H => E c d H) g { nx := fun _ H' => Q .non H', rt := Q } (L2.start N vs) H := by
  obtain ⟨B, Z, ss, r, ss', bh, zh, a, e, k⟩ := h
  unfold fnC at e
  by_cases c : ss.length = m
  · rw [if_pos c] at e
    have e := allN_inv e (adr vs)
    have x := st_start bh zh (mark_arg a) (N := N) (by rw [a.1, c]; exact hm)
    cases q : g (ent N.length (mark (adr vs) 0 ss)) with
    | none => rw [q] at e; cases e
    | some o =>
      rw [q] at e
      change finC (adr vs) ss o = some (r, ss') at e
      refine ⟨B, Z, Z, _, o, x, q, ?_⟩
      cases o with
      | rm s ρ =>
        cases qb : backs (adr vs) 0 ss ρ with
        | none => simp only [finC, qb] at e; cases e
        | some l =>
          simp only [finC, qb] at e
          cases e
          exact fun v Z' Z1 σ H1 H' x1 k1 r1 => k v Z1 H1 Z' H' x1.st k1 (back_arg x1 a qb) r1
      | nx ρ =>
        cases qb : backs (adr vs) 0 ss ρ with
        | none => simp only [finC, qb] at e; cases e
        | some l =>
          simp only [finC, qb] at e
          cases e
          exact fun Z1 σ H1 x1 => k .non Z1 H1 Z1 H1 x1.st (Step.refl x1.zh) (back_arg x1 a qb) (vlR.pl .non)
      | ex y ρ =>
        cases qb : backs (adr vs) 0 ss ρ with
        | none => simp only [finC, qb] at e; cases e
        | some l =>
          simp only [finC, qb] at e
          cases e
          exact fun c od Z' σ' H' x' r => k c od Z' H' x'.st (back_arg x' a qb) r
      | _ => cases e
  · rw [if_neg c] at e; cases e
theorem FSpC_len {n m : Nat} {g : SEnv → Option Out} {vs : List V} {H : Hp} {Q : VK} {E : XK} (h : FSpC K (fnC n m g) vs H Q E) : vs.length = m := by
  obtain ⟨B, Z, ss, r, ss', bh, zh, a, e, k⟩ := h
  unfold fnC at e
  by_cases c : ss.length = m
  · rw [a.1, c]
  · rw [if_neg c] at e; cases e
end
section
variable {P : Program} {w : World} {K : PySem.W.Frag} {mg : Str → Option Value} {base : Heap}
theorem fnC_ok {x qual : Str} {st : Stmt} {f : Addr} {fd : FuncData} {N ps : List Str} {k m : Nat} {g : SEnv → Option Out} (F : Fun K x qual st f fd) (S : FnScope N ps (defScope st)) (hm : ps.length = m) (hn : m ≤ N.length)
    (hbody : ∀ (cdv : Value) (A : Around) (outer : List Env) (s : Shared) (H : Hp) (E : XK), Room k (A.deeper (PyProof.Rows.envOfC qual (defScope st) s.heap.objs.size f cdv)) → SsD (cxOf L2.CX0 P w K mg base N qual (defScope st) f cdv A outer s H E).nox (fun c d _ H => E c d H) (defBody st) g) :
    FnOk P w K mg base L2.CX0 (k + 1) f fd ps (FSpC K (fnC N.length m g)) := by
  refine F.ok S (fun vs H Q E h => by rw [hm]; exact FSpC_len h) fun cdv A outer s H vs Q E hr h => ⟨_, hbody cdv A outer s H E hr, bodyC_read hn h⟩
theorem fnC_okX {x qual : Str} {st : Stmt} {f : Addr} {fd : FuncData} {N ps : List Str} {k m : Nat} {g : SEnv → Option Out} (F : Fun K x qual st f fd) (S : FnScope N ps (defScope st)) (hm : ps.length = m) (hn : m ≤ N.length)
    (hbody : ∀ (cdv : Value) (A : Around) (outer : List Env) (s : Shared) (H : Hp) (E : XK), Room k (A.deeper (PyProof.Rows.envOfC qual (defScope st) s.heap.objs.size f cdv)) → SsD (cxOf (L2.CX P w) P w K mg base N qual (defScope st) f cdv A outer s H E) (fun c d _ H => E c d H) (defBody st) g) :
    FnOk P w K mg base (L2.CX P w) (k + 1) f fd ps (FSpC K (fnC N.length m g)) := by
  refine F.okX S (fun vs H Q E h => by rw [hm]; exact FSpC_len h) fun cdv A outer s H vs Q E hr h => ⟨_, hbody cdv A outer s H E hr, bodyC_read hn h⟩
end
/-! ### the call -/
inductive ArgC where
  | hd (j : Nat)
  | ex (f : SEnv → Option Sl)
def toA : Sl → Option Sl
  | .pl d => some (.pl d)
  | .own ds => some (.pl (.list ds))
  | .tk ds => some (.tk ds)
  | _ => none
def handS : Sl → Option Sl
  | .own ds => some (.own ds)
  | .lno _ ds => some (.own ds)
  | .obj _ c fs => some (.obj none c fs)
  | _ => none
def argsC : List ArgC → SEnv → Option (List Sl)
  | [], _ => some []
  | .hd j :: r, ρ => match handS (get ρ j), argsC r ρ with
    | some s, some l => some (s :: l)
    | _, _ => none
  | .ex f :: r, ρ => match (f ρ).bind toA, argsC r ρ with
    | some s, some l => some (s :: l)
    | _, _ => none
/-- the slot's old thing, what it is now -/
def reput : Sl → Sl → Option Sl
  | .own _, .own ds => some (.own ds)
  | .lno a _, .own ds => some (.lno a ds)
  | .obj a _ _, .obj _ c fs => if ownFs fs = true then some (.obj a c fs) else none
  | _, _ => none
def backA : List ArgC → List Sl → SEnv → Option SEnv
  | [], _, ρ => some ρ
  | .hd j :: r, s :: l, ρ => (reput (get ρ j) s).bind fun t => backA r l (put ρ j t)
  | .ex _ :: r, _ :: l, ρ => backA r l ρ
  | _, _, _ => none
def hands : List ArgC → List Nat
  | [] => []
  | .hd j :: r => j :: hands r
  | .ex _ :: r => hands r
def tArgs (K : PySem.W.Frag) : List ArgC → TA
  | [] => tNil
  | .hd j :: r => tCons (tVar j) (tArgs K r)
  | .ex f :: r => tCons (ER K f) (tArgs K r)
section
variable {K : PySem.W.Frag}
def Al (K : PySem.W.Frag) (σ : L2.St) (ρ : SEnv) (Z : Hp) : List ArgC → List V → List Sl → Prop
  | [], [], [] => True
  | .hd j :: r, v :: vs, s :: ss => look σ j = some v ∧ handS (get ρ j) = some s ∧ Al K σ ρ Z r vs ss
  | .ex _ :: r, v :: vs, s :: ss => handed s = false ∧ (∀ B H, slR K B Z H s (some v) []) ∧ Al K σ ρ Z r vs ss
  | _, _, _ => False
theorem handS_val {B Z H : Hp} {s t : Sl} {o : Option V} {fp : List Addr} (h : slR K B Z H s o fp) (e : handS s = some t) : ∃ v, o = some v := slR_val h fun z => by rw [z] at e; cases e
theorem args_read {B Z0 : Hp} {σ : L2.St} {ρ : SEnv} : ∀ {as : List ArgC} {ss : List Sl} {Z H : Hp} {Q : List V → Hp → Prop}, St K B Z0 Z H σ ρ → argsC as ρ = some ss → (∀ vs Z' H', Step Z H Z' H' → Al K σ ρ Z' as vs ss → Q vs H') → tArgs K as σ H Q
  | [], ss, Z, H, Q, x, e, k => by cases e; exact k [] Z H (Step.refl x.zh) trivial
  | .hd j :: r, ss, Z, H, Q, x, e, k => by
    unfold argsC at e
    split at e
    · rename_i s l q1 q2
      cases e
      obtain ⟨st, len, fp, h1, h2, h3⟩ := id x
      obtain ⟨v, hv⟩ := handS_val (h1 j) q1
      exact ⟨v, look_some hv, args_read x q2 fun vs Z' H' k' al => k (v :: vs) Z' H' k' ⟨hv, q1, al⟩⟩
    · cases e
  | .ex f :: r, ss, Z, H, Q, x, e, k => by
    unfold argsC at e
    split at e
    · rename_i s l q1 q2
      cases e
      cases qf : f ρ with
      | none => rw [qf] at q1; cases q1
      | some t =>
        rw [qf] at q1
        refine er1 x qf fun v Z1 H1 k1 r1 => ?_
        have fin : ∃ Z2, Step Z H Z2 H1 ∧ handed s = false ∧ ∀ Z3, Same Z2 Z3 → ∀ B H, slR K B Z3 H s (some v) [] := by
          cases t with
          | pl d => cases q1; exact ⟨Z1, k1, rfl, fun Z3 zz B H => ⟨rfl, v, rfl, Dp_mono zz _ _ r1.data⟩⟩
          | own ds =>
            cases q1
            obtain ⟨Z2, k2, zz, hd⟩ := toD_ok k1 r1 (d := .list ds) rfl
            exact ⟨Z2, k2, rfl, fun Z3 z3 B H => ⟨rfl, v, rfl, Dp_mono z3 _ _ hd⟩⟩
          | tk ds =>
            cases q1
            obtain ⟨fp, ⟨_, p, hx, ht⟩, _⟩ := r1
            exact ⟨Z1, k1, rfl, fun Z3 zz B H => ⟨rfl, p, hx, ht.mono zz⟩⟩
          | _ => cases q1
        obtain ⟨Z2, k2, h0, hs⟩ := fin
        exact args_read (x.step k2) q2 fun vs Z' H' k' al => k (v :: vs) Z' H' (k2.trans k') ⟨h0, hs Z' k'.zz, al⟩
    · cases e
def hideL (H : Hp) (L : List Addr) : Hp := fun a => if a ∈ L then none else H a
theorem hideL_in {H : Hp} {L : List Addr} {a : Addr} (h : a ∈ L) : hideL H L a = none := if_pos h
theorem hideL_out {H : Hp} {L : List Addr} {a : Addr} (h : a ∉ L) : hideL H L a = H a := if_neg h
def argFp : List ArgC → (Nat → List Addr) → Nat → List Addr
  | .hd j :: _, fp, 0 => fp j
  | .hd _ :: r, fp, i + 1 => argFp r fp i
  | .ex _ :: _, _, 0 => []
  | .ex _ :: r, fp, i + 1 => argFp r fp i
  | [], _, _ => []
theorem argFp_mem {fp : Nat → List Addr} {a : Addr} : ∀ {as : List ArgC} {i : Nat}, a ∈ argFp as fp i → ∃ j ∈ hands as, a ∈ fp j
  | .hd j :: _, 0, h => ⟨j, List.mem_cons_self .., h⟩
  | .hd _ :: r, i + 1, h => by obtain ⟨j, h1, h2⟩ := argFp_mem (as := r) h; exact ⟨j, List.mem_cons_of_mem _ h1, h2⟩
  | .ex _ :: _, 0, h => nomatch h
  | .ex _ :: r, i + 1, h => argFp_mem (as := r) h
  | [], _, h => nomatch h
theorem argFp_dis {fp : Nat → List Addr} (h2 : ∀ i j a, i ≠ j → a ∈ fp i → ¬ a ∈ fp j) : ∀ {as : List ArgC} (hn : (hands as).Nodup) {i k : Nat} {a : Addr}, i ≠ k → a ∈ argFp as fp i → a ∉ argFp as fp k
  | [], _, _, _, _, _, h => nomatch h
  | .ex _ :: r, hn, 0, _, _, _, h => nomatch h
  | .ex _ :: r, hn, i + 1, 0, _, _, _ => fun q => nomatch q
  | .ex _ :: r, hn, i + 1, k + 1, a, hik, h => argFp_dis h2 (as := r) hn (fun z => hik (by rw [z])) h
  | .hd j :: r, hn, 0, 0, _, hik, _ => absurd rfl hik
  | .hd j :: r, hn, 0, k + 1, a, _, h => fun q => by
    obtain ⟨j', m, q'⟩ := argFp_mem (as := r) q
    exact h2 j j' a (fun z => (List.nodup_cons.mp hn).1 (z ▸ m)) h q'
  | .hd j :: r, hn, i + 1, 0, a, _, h => fun q => by
    obtain ⟨j', m, h'⟩ := argFp_mem (as := r) h
    exact h2 j j' a (fun z => (List.nodup_cons.mp hn).1 (z ▸ m)) q h'
  | .hd j :: r, hn, i + 1, k + 1, a, hik, h => argFp_dis h2 (as := r) (List.nodup_cons.mp hn).2 (fun z => hik (by rw [z])) h
theorem Al_len {σ : L2.St} {ρ : SEnv} {Z : Hp} : ∀ {as : List ArgC} {vs : List V} {ss : List Sl}, Al K σ ρ Z as vs ss → vs.length = ss.length
  | [], [], [], _ => rfl
  | .hd _ :: r, v :: vs, s :: ss, h => by rw [List.length_cons, List.length_cons, Al_len h.2.2]
  | .ex _ :: r, v :: vs, s :: ss, h => by rw [List.length_cons, List.length_cons, Al_len h.2.2]
theorem handS_slR {B B' Z H : Hp} {s t : Sl} {v : Option V} {fp : List Addr} (hb : Same B B') (h : slR K B Z H s v fp) (e : handS s = some t) : slR K B' Z H t v fp := by
  cases s with
  | own ds => cases e; exact h
  | lno a ds => cases e; obtain ⟨vs, h1, h2, h3, h4⟩ := h; exact ⟨a, vs, h1, h2, h3, h4⟩
  | obj a c fs =>
    cases e
    obtain ⟨p, C, dx, ws, fq, e1, hx, hq, r1, r2, r3, r4⟩ := h
    exact ⟨p, C, dx, ws, fq, e1, hx, (fun q z => nomatch z), r1, r2, r3, fsR.mono r4 hb (Same.refl _) fun _ _ => rfl⟩
  | _ => cases e
theorem Al_slR {B B' Z H : Hp} {σ : L2.St} {ρ : SEnv} {fp : Nat → List Addr} (hb : Same B B') (h1 : ∀ i, slR K B Z H (get ρ i) (look σ i) (fp i)) : ∀ {as : List ArgC} {vs : List V} {ss : List Sl}, Al K σ ρ Z as vs ss → ∀ i, slR K B' Z H (get ss i) (vs[i]?) (argFp as fp i)
  | [], [], [], _, i => by show slR K B' Z H .un _ []; exact rfl
  | .hd j :: r, v :: vs, s :: ss, h, 0 => by have := handS_slR hb (h1 j) h.2.1; rw [h.1] at this; exact this
  | .hd j :: r, v :: vs, s :: ss, h, i + 1 => by rw [List.getElem?_cons_succ]; exact Al_slR hb h1 (as := r) h.2.2 i
  | .ex _ :: r, v :: vs, s :: ss, h, 0 => h.2.1 _ _
  | .ex _ :: r, v :: vs, s :: ss, h, i + 1 => by rw [List.getElem?_cons_succ]; exact Al_slR hb h1 (as := r) h.2.2 i
/-- slots whose address is known -/
def AdOk (σ : L2.St) (ρ : SEnv) (j : Nat) : Prop := (∀ a ds, get ρ j = .lno a ds → look σ j = some (.ref a)) ∧ ∀ a c fs, get ρ j = .obj (some a) c fs → look σ j = some (.ref a)
theorem adOk {B Z H : Hp} {σ : L2.St} {ρ : SEnv} {j : Nat} {fp : List Addr} (h : slR K B Z H (get ρ j) (look σ j) fp) : AdOk σ ρ j := by
  refine ⟨fun a ds e => ?_, fun a c fs e => ?_⟩
  · rw [e] at h; obtain ⟨vs, _, h2, _⟩ := h; exact h2
  · rw [e] at h; obtain ⟨p, C, dx, ws, fq, _, hx, hq, _⟩ := h; rw [hx, hq a rfl]
theorem reput_slR {B B' Z H : Hp} {σ : L2.St} {ρ : SEnv} {j : Nat} {s t : Sl} {fp : List Addr} (had : AdOk σ ρ j) (h : slR K B' Z H s (look σ j) fp) (e : reput (get ρ j) s = some t) : slR K B Z H t (look σ j) fp := by
  cases c : get ρ j with
  | own ds => rw [c] at e; cases s <;> cases e; exact h
  | lno a ds =>
    rw [c] at e
    cases s with
    | own es =>
      cases e
      obtain ⟨p, vs, h1, h2, h3, h4⟩ := h
      have := had.1 a ds c
      rw [h2] at this
      cases this
      exact ⟨vs, h1, h2, h3, h4⟩
    | _ => cases e
  | obj a c0 fs0 =>
    rw [c] at e
    cases s with
    | obj a' c' fs =>
      change (if ownFs fs = true then some (Sl.obj a c' fs) else none) = some t at e
      by_cases o : ownFs fs = true
      · rw [if_pos o] at e
        cases e
        obtain ⟨p, C, dx, ws, fq, e1, hx, hq, r1, r2, r3, r4⟩ := h
        refine ⟨p, C, dx, ws, fq, e1, hx, fun q z => ?_, r1, r2, r3, fsR.anyB o r4⟩
        rw [z] at c
        have := had.2 q c0 fs0 c
        rw [hx] at this
        cases this
        rfl
      · rw [if_neg o] at e; cases e
    | _ => cases e
  | _ => rw [c] at e; cases e
theorem reput_un {s t u : Sl} (e : reput s t = some u) : s ≠ .un := fun z => by rw [z] at e; cases e
theorem backA_ind {B B' Z H : Hp} {σ : L2.St} {ρ0 : SEnv} {Zo : Hp} (hB : ∀ a, B' a = none → B a = none) : ∀ {as : List ArgC} {vs : List V} {so ss' : List Sl} {ρ ρ' : SEnv} {fp fq : Nat → List Addr}, σ.length = ρ.length → (hands as).Nodup → (∀ j ∈ hands as, AdOk σ ρ j) →
    (∀ j, j ∉ hands as → slR K B Z H (get ρ j) (look σ j) (fp j)) → (∀ i j a, i ∉ hands as → j ∉ hands as → i ≠ j → a ∈ fp i → a ∉ fp j) → (∀ j a, j ∉ hands as → a ∈ fp j → B a = none ∧ Z a = none) →
    Al K σ ρ0 Zo as vs so → (∀ i, slR K B' Z H (get ss' i) (vs[i]?) (fq i)) → (∀ i j a, i ≠ j → a ∈ fq i → a ∉ fq j) → (∀ i a, a ∈ fq i → B' a = none ∧ Z a = none) → (∀ i j a, j ∉ hands as → a ∈ fq i → a ∉ fp j) → backA as ss' ρ = some ρ' →
    σ.length = ρ'.length ∧ ∃ fp' : Nat → List Addr, (∀ j, slR K B Z H (get ρ' j) (look σ j) (fp' j)) ∧ (∀ i j a, i ≠ j → a ∈ fp' i → a ∉ fp' j) ∧ ∀ j a, a ∈ fp' j → B a = none ∧ Z a = none
  | [], vs, so, ss', ρ, ρ', fp, fq, len, hn, had, p1, p2, p3, al, a1, a2, a3, d, e => by
    cases e
    exact ⟨len, fp, fun j => p1 j (fun z => nomatch z), fun i j a => p2 i j a (fun z => nomatch z) (fun z => nomatch z), fun j a => p3 j a fun z => nomatch z⟩
  | .ex f :: r, v :: vs, s0 :: so, [], ρ, ρ', fp, fq, len, hn, had, p1, p2, p3, al, a1, a2, a3, d, e => by cases e
  | .ex f :: r, v :: vs, s0 :: so, s :: ss', ρ, ρ', fp, fq, len, hn, had, p1, p2, p3, al, a1, a2, a3, d, e =>
    backA_ind hB (as := r) (fq := fun i => fq (i + 1)) len hn had p1 p2 p3 al.2.2 (fun i => by simpa using a1 (i + 1)) (fun i j a h => a2 (i + 1) (j + 1) a fun z => h (Nat.succ.inj z)) (fun i a => a3 (i + 1) a) (fun i j a => d (i + 1) j a) e
  | .hd j :: r, v :: vs, s0 :: so, [], ρ, ρ', fp, fq, len, hn, had, p1, p2, p3, al, a1, a2, a3, d, e => by cases e
  | .hd j :: r, v :: vs, s0 :: so, s :: ss', ρ, ρ', fp, fq, len, hn, had, p1, p2, p3, al, a1, a2, a3, d, e => by
    change (reput (get ρ j) s).bind (fun t => backA r ss' (put ρ j t)) = some ρ' at e
    cases q : reput (get ρ j) s with
    | none => rw [q] at e; cases e
    | some t =>
      rw [q] at e
      obtain ⟨n1, n2⟩ := List.nodup_cons.mp hn
      have hj : j < ρ.length := by
        by_cases c : j < ρ.length
        · exact c
        · exact absurd (get_out ρ j (by omega)) (reput_un q)
      have h0 : slR K B' Z H s (look σ j) (fq 0) := by rw [al.1]; exact a1 0
      have h0 : slR K B Z H t (look σ j) (fq 0) := reput_slR (had j (List.mem_cons_self ..)) h0 q
      refine backA_ind hB (as := r) (fp := sw fp j (fq 0)) (fq := fun i => fq (i + 1)) (by rw [put_length]; exact len) n2 (fun i hi => ?_) (fun i hi => ?_) (fun i k a hi hk hik ha => ?_) (fun i a hi ha => ?_) al.2.2 (fun i => by simpa using a1 (i + 1)) (fun i j a h => a2 (i + 1) (j + 1) a fun z => h (Nat.succ.inj z)) (fun i a => a3 (i + 1) a) (fun i k a hk ha => ?_) e
      · have hne : j ≠ i := fun z => n1 (z ▸ hi)
        have := had i (List.mem_cons_of_mem _ hi)
        unfold AdOk at this ⊢
        rw [get_put_ne _ _ _ _ hne]
        exact this
      · by_cases c : i = j
        · subst c
          rw [get_put_same _ _ _ hj, sw_same]
          exact h0
        · rw [get_put_ne _ _ _ _ (Ne.symm c), sw_ne _ _ c]
          exact p1 i fun z => (List.mem_cons.mp z).elim c hi
      · by_cases c : i = j
        · subst c
          rw [sw_same] at ha
          rw [sw_ne _ _ (Ne.symm hik)]
          exact d 0 k a (fun z => (List.mem_cons.mp z).elim (Ne.symm hik) hk) ha
        · rw [sw_ne _ _ c] at ha
          by_cases c2 : k = j
          · subst c2
            rw [sw_same]
            exact fun z => d 0 i a (fun z => (List.mem_cons.mp z).elim c hi) z ha
          · rw [sw_ne _ _ c2]
            exact p2 i k a (fun z => (List.mem_cons.mp z).elim c hi) (fun z => (List.mem_cons.mp z).elim c2 hk) hik ha
      · by_cases c : i = j
        · subst c
          rw [sw_same] at ha
          exact ⟨hB a (a3 0 a ha).1, (a3 0 a ha).2⟩
        · rw [sw_ne _ _ c] at ha
          exact p3 i a (fun z => (List.mem_cons.mp z).elim c hi) ha
      · by_cases c : k = j
        · subst c
          rw [sw_same]
          exact a2 (i + 1) 0 a (Nat.succ_ne_zero i) ha
        · rw [sw_ne _ _ c]
          exact d (i + 1) k a (fun z => (List.mem_cons.mp z).elim c hk) ha
theorem call_readC {F : FnC} {as : List ArgC} (hn : (hands as).Nodup) {B Z0 Z H : Hp} {σ : L2.St} {ρ ρ' : SEnv} {Q : VK} {E : XK} (x : St K B Z0 Z H σ ρ) {ss ss' : List Sl} {r : Rs} (qa : argsC as ρ = some ss) (qF : F ss = some (r, ss')) (qb : backA as ss' ρ = some ρ')
    (k : match r with
      | .ret s => ∀ v Z1 H1 Z' H', St K B Z0 Z1 H1 σ ρ' → Step Z1 H1 Z' H' → vlR K H1 Z' H' v s → Q v H'
      | .exn y => ∀ c od Z' H', St K B Z0 Z' H' σ ρ' → exR K Z' H' y c od → E c od H') : tCall (FSpC K F) [] E (tArgs K as) σ H Q := by
  refine args_read x qa fun vs Z' H' k' al => ?_
  rw [List.append_nil]
  obtain ⟨st, len, fp, h1, h2, h3⟩ := x.step k'
  let L : List Addr := (hands as).flatMap fp
  have mL : ∀ a, a ∈ L ↔ ∃ j ∈ hands as, a ∈ fp j := fun a => List.mem_flatMap
  have hbB : Same B (hideL H' L) := fun b u e => by
    have : b ∉ L := fun z => by
      obtain ⟨j, _, hj⟩ := (mL b).mp z
      rw [(h3 j b hj).1] at e
      cases e
    rw [hideL_out this]
    exact st.bh b u e
  have hB : ∀ a, hideL H' L a = none → B a = none := fun a h => by
    cases q : B a with
    | none => rfl
    | some u => rw [hbB a u q] at h; cases h
  have hle : Same (hideL H' L) H' := fun b u e => by
    by_cases c : b ∈ L
    · rw [hideL_in c] at e; cases e
    · rw [hideL_out c] at e; exact e
  have arg : ArgR K (hideL H' L) Z' H' vs ss := ⟨Al_len al, argFp as fp, Al_slR hbB h1 al, fun i j a hij ha => argFp_dis h2 hn hij ha, fun i a ha => by
    obtain ⟨j, m, hj⟩ := argFp_mem ha
    exact ⟨hideL_in ((mL a).mpr ⟨j, m, hj⟩), (h3 j a hj).2⟩⟩
  have live : ∀ j a, j ∉ hands as → a ∈ fp j → ∃ u, hideL H' L a = some u ∧ H' a = some u := fun j a hj ha => by
    have : a ∉ L := fun z => by
      obtain ⟨i, hi, hia⟩ := (mL a).mp z
      exact h2 i j a (fun z => hj (z ▸ hi)) hia ha
    rw [hideL_out this]
    cases q : H' a with
    | none => exact absurd q (slR.live (h1 j) a ha)
    | some u => exact ⟨u, rfl, rfl⟩
  have stN : ∀ {Z1 H1 : Hp}, StepB (hideL H' L) Z' Z1 H1 → ArgR K (hideL H' L) Z1 H1 vs ss' → St K B Z0 Z1 H1 σ ρ' := fun {Z1 H1} sb ar => by
    obtain ⟨hl, fq, a1, a2, a3⟩ := ar
    have w1 : ∀ j a, j ∉ hands as → a ∈ fp j → H1 a = H' a := fun j a hj ha => by
      obtain ⟨u, e1, e2⟩ := live j a hj ha
      rw [e2]
      exact sb.bh a u e1
    have w2 : ∀ j a, j ∉ hands as → a ∈ fp j → Z1 a = none := fun j a hj ha => by
      cases q : Z1 a with
      | none => rfl
      | some u =>
        rcases sb.gr a (by rw [q]; intro z; cases z) with z | z
        · exact absurd (h3 j a ha).2 z
        · obtain ⟨w, e1, _⟩ := live j a hj ha
          rw [z] at e1
          cases e1
    have w3 : ∀ i j a, j ∉ hands as → a ∈ fq i → a ∉ fp j := fun i j a hj ha q => by
      obtain ⟨u, e1, _⟩ := live j a hj q
      rw [(a3 i a ha).1] at e1
      cases e1
    have bi := backA_ind hB (fp := fp) (fq := fq) len hn (fun j _ => adOk (h1 j)) (fun j hj => (h1 j).mono (Same.refl B) sb.zz fun a ha => w1 j a hj ha) (fun i j a _ _ hij => h2 i j a hij) (fun j a hj ha => ⟨(h3 j a ha).1, w2 j a hj ha⟩) al a1 a2 a3 w3 qb
    obtain ⟨l1, fp', c1, c2, c3⟩ := bi
    exact ⟨⟨fun b u e => sb.bh b u (hbB b u e), st.zz.trans sb.zz, sb.zh, fun p q => by
        rcases sb.gr p q with z | z
        · exact st.gr p z
        · exact .inr (hB p z)⟩, l1, fp', c1, c2, c3⟩
  refine ⟨hideL H' L, Z', ss, r, ss', hle, k'.zh, arg, qF, ?_⟩
  cases r with
  | ret s => exact fun v Z1 H1 Z2 H2 sb s12 ar rv => k v Z1 H1 Z2 H2 (stN sb ar) s12 rv
  | exn y => exact fun c od Z1 H1 sb ar xr => k c od Z1 H1 (stN sb ar) xr
end
/-! ### expressions and tests that change slots -/
def ERC (K : PySem.W.Frag) (f : SEnv → Option (Sl × SEnv)) : TE := fun σ H Q => ∃ B Z0 Z ρ s ρ', St K B Z0 Z H σ ρ ∧ f ρ = some (s, ρ') ∧ ∀ v Z1 H1 Z' H', St K B Z0 Z1 H1 σ ρ' → Step Z1 H1 Z' H' → vlR K H1 Z' H' v s → Q v H'
def TRC (K : PySem.W.Frag) (f : SEnv → Option (Bool × SEnv)) : TT := fun σ H Q => ∃ B Z0 Z ρ b ρ', St K B Z0 Z H σ ρ ∧ f ρ = some (b, ρ') ∧ ∀ Z' H', St K B Z0 Z' H' σ ρ' → Q b H'
def eCallC (F : FnC) (as : List ArgC) : SEnv → Option (Sl × SEnv) := fun ρ => match argsC as ρ with
  | some ss => match F ss with
    | some (.ret s, ss') => (backA as ss' ρ).map fun ρ' => (s, ρ')
    | _ => none
  | none => none
section
variable {X : Cx} {E : WX}
theorem pac_nil : PA X [] (tArgs X.K []) := pa_nil
theorem pac_hd {e : Expr} {es : List Expr} {j : Nat} {as : List ArgC} (hv : PE X e (tVar j)) (t : PA X es (tArgs X.K as)) (h1 : starEach (e :: es) X.env = (false, eval e X.env) :: starEach es X.env := by rfl) : PA X (e :: es) (tArgs X.K (.hd j :: as)) := pa_cons hv t h1
theorem pac_ex {e : Expr} {es : List Expr} {f : SEnv → Option Sl} {as : List ArgC} (he : PD X e f) (t : PA X es (tArgs X.K as)) (h1 : starEach (e :: es) X.env = (false, eval e X.env) :: starEach es X.env := by rfl) : PA X (e :: es) (tArgs X.K (.ex f :: as)) := pa_cons he t h1
theorem pe_callC {k : Nat} {f : Addr} {fd : FuncData} {ps : List Str} {x : Str} {p pos : Pos} {e : Expr} {es : List Expr} {F : FnC} {as : List ArgC} (G : FnOk X.prog X.w X.K X.mg X.base L2.CX0 k f fd ps (FSpC X.K F)) (hr : Room k X.A) (hg : Gl X x) (hm : X.mg x = some (.ref f)) (hk : PySem.W.keepIn X.K (.ref f) = true) (hb : Binds X.K fd ps []) (ha : PA X (e :: es) (tArgs X.K as)) (hn : (hands as).Nodup)
    (hdb : (x == ("__debug__" : Str)) = false := by decide) (h1 : starEach (e :: es) X.env = (false, eval e X.env) :: starEach es X.env := by rfl) (h2 : ((backTo pos (starEach es X.env)).any fun x => x.fst) = false := by rfl) : PE X (.Call (.Name x p) (e :: es) [] pos) (ERC X.K (eCallC F as)) :=
  PE_imp (pe_call G hr hg hm hk hb .nil (L2.pass0 (X := X)) ha hdb h1 h2) fun σ H Q ⟨B, Z0, Z, ρ, s, ρ', x, e, k⟩ => by
    unfold eCallC at e
    cases qa : argsC as ρ with
    | none => rw [qa] at e; cases e
    | some ss =>
      rw [qa] at e
      dsimp only at e
      split at e
      · rename_i s0 ss' qF
        cases qb : backA as ss' ρ with
        | none => rw [qb] at e; cases e
        | some ρ1 =>
          rw [qb] at e
          cases e
          exact call_readC hn x qa qF qb k
      · cases e
def tTruC (f : SEnv → Option (Sl × SEnv)) : SEnv → Option (Bool × SEnv) := fun ρ => match f ρ with
  | some (s, ρ') => (truD s).map fun b => (b, ρ')
  | none => none
theorem tdc_val {a : Expr} {fa : SEnv → Option (Sl × SEnv)} (ha : PE X a (ERC X.K fa)) (he : ∀ whole, isTrue a X.env whole = (do let v ← whole; standAt a.pos; holding [v] (truthy v)) := by intro _; rfl) : PT X a (TRC X.K (tTruC fa)) :=
  PT_imp (pt_truth ha he) fun σ H Q ⟨B, Z0, Z, ρ, c, ρ', x, e, k⟩ => by
    unfold tTruC at e
    split at e
    · rename_i s ρ1 q
      cases qt : truD s with
      | none => rw [qt] at e; cases e
      | some b =>
        rw [qt] at e
        cases e
        exact ⟨B, Z0, Z, ρ, s, _, x, q, fun v Z1 H1 Z' H' x1 k1 r => ⟨_, truD_ok r k1.zh qt, k Z' H' (x1.step k1)⟩⟩
    · cases e
def tNotC (t : SEnv → Option (Bool × SEnv)) : SEnv → Option (Bool × SEnv) := fun ρ => (t ρ).map fun q => (!q.1, q.2)
theorem tdc_not {a : Expr} {t : SEnv → Option (Bool × SEnv)} {pos : Pos} (ha : PT X a (TRC X.K t)) : PT X (.UnaryOp .Not a pos) (TRC X.K (tNotC t)) :=
  PT_imp (pt_not ha) fun σ H Q ⟨B, Z0, Z, ρ, c, ρ', x, e, k⟩ => by
    unfold tNotC at e
    cases q : t ρ with
    | none => rw [q] at e; cases e
    | some b => rw [q] at e; cases e; exact ⟨B, Z0, Z, ρ, _, _, x, q, k⟩
def tCmpC (f : D → D → Option Bool) (fa : SEnv → Option (Sl × SEnv)) (fb : SEnv → Option Sl) : SEnv → Option (Bool × SEnv) := fun ρ => match fa ρ with
  | some (s, ρ') => (vw2 f (some s) (fb ρ')).map fun b => (b, ρ')
  | none => none
theorem tdc_cmp {op : CmpOp} {r : R2} {f : D → D → Option Bool} {a b : Expr} {fa : SEnv → Option (Sl × SEnv)} {fb : SEnv → Option Sl} {pos : Pos} (ho : OpR X (compareOp op) r) (hf : CmpOK X.K r f) (ha : PE X a (ERC X.K fa)) (hb : PD X b fb) (hm : behindInMarks op b = false) : PT X (.Compare a [op] [b] pos) (TRC X.K (tCmpC f fa fb)) :=
  PT_imp (pt_cmpR ho ha hb hm) fun σ H Q ⟨B, Z0, Z, ρ, c, ρ', x, e, k⟩ => by
    unfold tCmpC at e
    split at e
    · rename_i s ρ1 q
      cases qt : vw2 f (some s) (fb ρ1) with
      | none => rw [qt] at e; cases e
      | some b =>
        rw [qt] at e
        cases e
        obtain ⟨s', t, dx, dy, ea, eb, va, vb, ef⟩ := vw2_inv qt
        cases ea
        refine ⟨B, Z0, Z, ρ, s, _, x, q, fun v Z1 H1 Z2 H2 x1 k1 r1 => er1 (x1.step k1) eb fun w Z3 H3 k3 r3 => ?_⟩
        exact hf (view_ok (r1.step k3) k3.zh va) (view_ok r3 k3.zh vb) ef ⟨_, rfl, k Z3 H3 ((x1.step k1).step k3)⟩
    · cases e
def tOrC (t : SEnv → Option (Bool × SEnv)) (u : SEnv → Option Bool) : SEnv → Option (Bool × SEnv) := fun ρ => match t ρ with
  | some (true, ρ') => some (true, ρ')
  | some (false, ρ') => (u ρ').map fun b => (b, ρ')
  | none => none
theorem wdc_or {a b : Expr} {rest : List Expr} {t : SEnv → Option (Bool × SEnv)} {u : SEnv → Option Bool} {pos : Pos} (ha : PT X a (TRC X.K t)) (hb : WD X (.BoolOp .Or (b :: rest) pos) u) : PW X (.BoolOp .Or (a :: b :: rest) pos) (TRC X.K (tOrC t u)) :=
  PW_imp (pw_or ha hb) fun σ H Q ⟨B, Z0, Z, ρ, c, ρ', x, e, k⟩ => by
    unfold tOrC at e
    split at e
    · rename_i ρ1 q
      cases e
      exact ⟨B, Z0, Z, ρ, true, _, x, q, fun Z' H' x1 => iteT (k Z' H' x1)⟩
    · rename_i ρ1 q
      cases qu : u ρ1 with
      | none => rw [qu] at e; cases e
      | some b =>
        rw [qu] at e
        cases e
        exact ⟨B, Z0, Z, ρ, false, _, x, q, fun Z' H' x1 => iteF (tr1 x1 qu fun Z2 H2 k2 => k Z2 H2 (x1.step k2))⟩
    · cases e
theorem tdc_w {e : Expr} {t : SEnv → Option (Bool × SEnv)} (h : PW X e (TRC X.K t)) : PT X e (TRC X.K t) := h.pt
/-! ### statements -/
def sIfC (t : SEnv → Option (Bool × SEnv)) (f g : SEnv → Option Out) : SEnv → Option Out := fun ρ => match t ρ with
  | some (true, ρ') => f ρ'
  | some (false, ρ') => g ρ'
  | none => none
theorem sd_ifC {c : Expr} {a b : List Stmt} {t : SEnv → Option (Bool × SEnv)} {f g : SEnv → Option Out} {pos : Pos} (hc : PT X c (TRC X.K t)) (ha : SsD X E a f) (hb : SsD X E b g) : SD X E (.If c a b pos) (sIfC t f g) := PS_imp (ps_if hc ha hb) fun D σ H ⟨B, Z0, Z, ρ, o, x, e, k⟩ => by
  unfold sIfC at e
  split at e
  · rename_i ρ1 q
    exact ⟨B, Z0, Z, ρ, true, _, x, q, fun Z' H' x1 => iteT ⟨B, Z0, Z', _, o, x1, e, k⟩⟩
  · rename_i ρ1 q
    exact ⟨B, Z0, Z, ρ, false, _, x, q, fun Z' H' x1 => iteF ⟨B, Z0, Z', _, o, x1, e, k⟩⟩
  · cases e
def sAsgC (i : Nat) (f : SEnv → Option (Sl × SEnv)) : SEnv → Option Out := fun ρ => match f ρ with
  | some (s, ρ') => (sto s).map fun t => .nx (put ρ' i t)
  | none => none
theorem sd_asgC {i : Nat} {x : Str} {e : Expr} {f : SEnv → Option (Sl × SEnv)} {pos pos' : Pos} (hN : X.N.Nodup) (hi : X.N[i]? = some x) (hx : Loc X.env.scope x) (he : PE X e (ERC X.K f)) (hs : swapsWith e (some (.Name x pos')) pos.line X.env = pure false := by rfl) (hf : X.fn x = true ∨ X.env.scope.names.lookup x = some .local := by first | exact .inl rfl | exact .inr rfl | assumption) :
    SD X E (.Assign [.Name x pos'] e pos) (sAsgC i f) := PS_imp (ps_set hN hi hx he hs hf) fun D σ H ⟨B, Z0, Z, ρ, o, x, e, k⟩ => by
  unfold sAsgC at e
  split at e
  · rename_i s ρ1 q
    cases qs : sto s with
    | none => rw [qs] at e; cases e
    | some t =>
      rw [qs] at e
      cases e
      exact ⟨B, Z0, Z, ρ, s, ρ1, x, q, fun v Z1 H1 Z' H' x1 k1 r => k Z' _ H' (x1.set k1 i (sto_ok r qs))⟩
  · cases e
def sExpC (f : SEnv → Option (Sl × SEnv)) : SEnv → Option Out := fun ρ => match f ρ with
  | some (_, ρ') => some (.nx ρ')
  | none => none
theorem sd_expC {e : Expr} {f : SEnv → Option (Sl × SEnv)} {pos : Pos} (he : PE X e (ERC X.K f)) (hs : swapsWith e none pos.line X.env = pure false := by rfl) : SD X E (.Expr e pos) (sExpC f) := PS_imp (ps_expr he hs) fun D σ H ⟨B, Z0, Z, ρ, o, x, e, k⟩ => by
  unfold sExpC at e
  split at e
  · rename_i s ρ1 q
    cases e
    exact ⟨B, Z0, Z, ρ, s, _, x, q, fun v Z1 H1 Z' H' x1 k1 r => k Z' _ H' (x1.step k1)⟩
  · cases e
end
/-! ### lists that may be handed ones, changed -/
def lstS : Sl → Option (List D)
  | .own ds => some ds
  | .lno _ ds => some ds
  | _ => none
def setS : Sl → List D → Sl
  | .lno a _, ds => .lno a ds
  | _, ds => .own ds
theorem put_twice : ∀ (ρ : SEnv) (i : Nat) (s t : Sl), put (put ρ i s) i t = put ρ i t
  | [], _, _, _ => rfl
  | _ :: _, 0, _, _ => rfl
  | u :: r, n + 1, s, t => by rw [put_succ, put_succ, put_succ, put_twice r n s t]
section
variable {K : PySem.W.Frag}
theorem St.alt {B Z0 Z H : Hp} {σ : L2.St} {ρ : SEnv} (x : St K B Z0 Z H σ ρ) (i : Nat) (s : Sl) (h : ∀ fp, slR K B Z H (get ρ i) (look σ i) fp → slR K B Z H s (look σ i) fp) : St K B Z0 Z H σ (put ρ i s) := by
  by_cases hi : i < ρ.length
  · obtain ⟨st, len, fp, h1, h2, h3⟩ := x
    refine ⟨st, by rw [put_length]; exact len, fp, fun j => ?_, h2, h3⟩
    by_cases c : j = i
    · subst c
      rw [get_put_same _ _ _ hi]
      exact h _ (h1 j)
    · rw [get_put_ne _ _ _ _ (Ne.symm c)]
      exact h1 j
  · rw [put_out _ _ _ (by omega)]
    exact x
theorem St.mutL {B Z0 Z H : Hp} {σ : L2.St} {ρ : SEnv} (x : St K B Z0 Z H σ ρ) {i : Nat} {ds : List D} (e : lstS (get ρ i) = some ds) : ∃ p vs, σ[i]? = some (some (.ref p)) ∧ H p = some (.lst vs) ∧ DpAll K Z vs ds ∧
    ∀ {Z' H' : Hp}, Step Z H Z' H' → H' p = some (.lst vs) ∧ ∀ vs' ds', DpAll K Z' vs' ds' → St K B Z0 Z' (upd H' p (.lst vs')) σ (put ρ i (setS (get ρ i) ds')) := by
  cases c : get ρ i with
  | own es =>
    rw [c] at e
    cases e
    exact x.mut c
  | lno a es =>
    rw [c] at e
    cases e
    have hl : i < ρ.length := by
      by_cases z : i < ρ.length
      · exact z
      · rw [get_out _ _ (by omega)] at c; cases c
    have had : look σ i = some (.ref a) := by
      obtain ⟨_, _, fp, h1, _⟩ := id x
      exact (adOk (h1 i)).1 a _ c
    have y := x.alt i (.own ds) fun fp h => by
      rw [c] at h
      obtain ⟨vs, f1, f2, f3, f4⟩ := h
      exact ⟨a, vs, f1, f2, f3, f4⟩
    obtain ⟨p, vs, g1, g2, g3, g4⟩ := y.mut (get_put_same _ _ _ hl)
    refine ⟨p, vs, g1, g2, g3, fun {Z' H'} k => ⟨(g4 k).1, fun vs' ds' hd => ?_⟩⟩
    have z := (g4 k).2 vs' ds' hd
    rw [put_twice] at z
    have z2 := z.alt i (.lno a ds') fun fp h => by
      rw [get_put_same _ _ _ hl] at h
      obtain ⟨p', ws, f1, f2, f3, f4⟩ := h
      rw [had] at f2
      cases f2
      exact ⟨ws, f1, had, f3, f4⟩
    rw [put_twice] at z2
    exact z2
  | _ => rw [c] at e; cases e
end
section
variable {X : Cx} {E : WX}
/-- xs.append(e) -/
def sAppL (i : Nat) (f : SEnv → Option Sl) : SEnv → Option Out := fun ρ => match lstS (get ρ i), (f ρ).bind toD with
  | some ds, some d => if ds.length < 100000 then some (.nx (put ρ i (setS (get ρ i) (ds ++ [d])))) else none
  | _, _ => none
theorem sd_appL (i : Nat) {x : Str} {e : Expr} {f : SEnv → Option Sl} {p apos cpos pos : Pos} (hv : PE X (.Name x p) (tVar i)) (he : PD X e f)
    (hb : PE X (.Call (.Attribute (.Name x p) "append" apos) [e] [] cpos) (tBM X.K "list" rAppend (tVar i) (tCons (ER X.K f) tNil))) (hs : swapsWith (.Call (.Attribute (.Name x p) "append" apos) [e] [] cpos) none pos.line X.env = pure false := by rfl) :
    SD X E (.Expr (.Call (.Attribute (.Name x p) "append" apos) [e] [] cpos) pos) (sAppL i f) := PS_imp (ps_expr hb hs) fun D σ H ⟨B, Z0, Z, ρ, o, x, e, k⟩ => by
  unfold sAppL at e
  split at e
  · rename_i ds d q1 q2
    by_cases c : ds.length < 100000
    · rw [if_pos c] at e
      cases e
      obtain ⟨p, vs, hv, hp, hd, km⟩ := x.mutL q1
      refine ⟨_, hv, .inl ⟨rfl, vs, .inl (.inl hp)⟩, ?_⟩
      cases qf : f ρ with
      | none => rw [qf] at q2; cases q2
      | some s =>
        rw [qf] at q2
        refine er1 x qf fun v Z' H' k' r => ?_
        obtain ⟨Z2, k2, zz, hvd⟩ := toD_ok k' r q2
        obtain ⟨hp', km'⟩ := km k2
        exact ⟨p, vs, v, rfl, rfl, hp', by rw [sizeLine_eq, DpAll_length hd]; omega, k Z2 σ _ (km' _ _ (DpAll_append (DpAll_mono k2.zz _ _ hd) (.cons hvd .nil)))⟩
    · rw [if_neg c] at e; cases e
  · cases e
def sPopToL (i j : Nat) : SEnv → Option Out := fun ρ => match lstS (get ρ j) with
  | some ds => match ds.getLast? with
    | some d => some (.nx (put (put ρ j (setS (get ρ j) ds.dropLast)) i (.pl d)))
    | none => none
  | none => none
theorem pop_readL {K : PySem.W.Frag} {B Z0 Z H : Hp} {σ : L2.St} {ρ : SEnv} {j : Nat} {ds : List D} {d : D} (x : St K B Z0 Z H σ ρ) (q1 : lstS (get ρ j) = some ds) (q2 : ds.getLast? = some d) {Q : VK} (k : ∀ v p vs, Dp K Z v d → St K B Z0 Z (upd H p (.lst vs)) σ (put ρ j (setS (get ρ j) ds.dropLast)) → Q v (upd H p (.lst vs))) : tBM0 K "list" rPop (tVar j) σ H Q := by
  obtain ⟨p, vs, hv, hp, hd, km⟩ := x.mutL q1
  obtain ⟨_, km'⟩ := km (Step.refl x.zh)
  have hl := DpAll_length hd
  rw [List.getLast?_eq_getElem?] at q2
  obtain ⟨v, e1, r⟩ := DpAll_get hd q2
  exact ⟨_, hv, .inl ⟨rfl, vs, .inl (.inl hp)⟩, p, vs, v, rfl, rfl, hp, by rw [hl]; exact e1, k v p vs.dropLast r (km' _ _ (DpAll_dropLast hd))⟩
theorem sd_popToL {i j : Nat} {x y : Str} {p apos cpos pos pos' : Pos} (hN : X.N.Nodup) (hi : X.N[i]? = some x) (hx : Loc X.env.scope x) (hb : PE X (.Call (.Attribute (.Name y p) "pop" apos) [] [] cpos) (tBM0 X.K "list" rPop (tVar j))) (hs : swapsWith (.Call (.Attribute (.Name y p) "pop" apos) [] [] cpos) (some (.Name x pos')) pos.line X.env = pure false := by rfl) (hf : X.fn x = true ∨ X.env.scope.names.lookup x = some .local := by first | exact .inl rfl | exact .inr rfl | assumption) :
    SD X E (.Assign [.Name x pos'] (.Call (.Attribute (.Name y p) "pop" apos) [] [] cpos) pos) (sPopToL i j) := PS_imp (ps_set hN hi hx hb hs hf) fun D σ H ⟨B, Z0, Z, ρ, o, x, e, k⟩ => by
  unfold sPopToL at e
  split at e
  · rename_i ds q1
    split at e
    · rename_i d q2
      cases e
      exact pop_readL x q1 q2 fun v p vs r x' => k Z _ _ (x'.setD i r)
    · cases e
  · cases e
def sPopL (j : Nat) : SEnv → Option Out := fun ρ => match lstS (get ρ j) with
  | some ds => match ds.getLast? with
    | some _ => some (.nx (put ρ j (setS (get ρ j) ds.dropLast)))
    | none => none
  | none => none
theorem sd_popL {j : Nat} {y : Str} {p apos cpos pos : Pos} (hb : PE X (.Call (.Attribute (.Name y p) "pop" apos) [] [] cpos) (tBM0 X.K "list" rPop (tVar j))) (hs : swapsWith (.Call (.Attribute (.Name y p) "pop" apos) [] [] cpos) none pos.line X.env = pure false := by rfl) :
    SD X E (.Expr (.Call (.Attribute (.Name y p) "pop" apos) [] [] cpos) pos) (sPopL j) := PS_imp (ps_expr hb hs) fun D σ H ⟨B, Z0, Z, ρ, o, x, e, k⟩ => by
  unfold sPopL at e
  split at e
  · rename_i ds q1
    split at e
    · rename_i d q2
      cases e
      exact pop_readL x q1 q2 fun v p vs r x' => k Z _ _ x'
    · cases e
  · cases e
/-- xs.extend(a list) -/
def sExtL (i : Nat) (f : SEnv → Option Sl) : SEnv → Option Out := fun ρ => match lstS (get ρ i), (f ρ).bind ditems with
  | some ds, some es => if ds.length + es.length ≤ 100000 then some (.nx (put ρ i (setS (get ρ i) (ds ++ es)))) else none
  | _, _ => none
theorem sd_extL (i : Nat) {x : Str} {e : Expr} {f : SEnv → Option Sl} {p apos cpos pos : Pos} (hv : PE X (.Name x p) (tVar i)) (he : PD X e f)
    (hb : PE X (.Call (.Attribute (.Name x p) "extend" apos) [e] [] cpos) (tBM X.K "list" rExtend (tVar i) (tCons (ER X.K f) tNil))) (hs : swapsWith (.Call (.Attribute (.Name x p) "extend" apos) [e] [] cpos) none pos.line X.env = pure false := by rfl) :
    SD X E (.Expr (.Call (.Attribute (.Name x p) "extend" apos) [e] [] cpos) pos) (sExtL i f) := PS_imp (ps_expr hb hs) fun D σ H ⟨B, Z0, Z, ρ, o, x, e, k⟩ => by
  unfold sExtL at e
  split at e
  · rename_i ds es q1 q2
    by_cases c : ds.length + es.length ≤ 100000
    · rw [if_pos c] at e
      cases e
      obtain ⟨p, vs, hv, hp, hd, km⟩ := x.mutL q1
      refine ⟨_, hv, .inl ⟨rfl, vs, .inl (.inl hp)⟩, ?_⟩
      cases qf : f ρ with
      | none => rw [qf] at q2; cases q2
      | some s =>
        rw [qf] at q2
        refine er1 x qf fun v Z' H' k' r => ?_
        obtain ⟨b, ws, rfl, hb, hw⟩ := ditems_ok r q2
        obtain ⟨hp', km'⟩ := km k'
        exact ⟨p, b, vs, ws, rfl, rfl, hp', hb, by rw [sizeLine_eq, DpAll_length hd, DpAll_length hw]; omega, k Z' σ _ (km' _ _ (DpAll_append (DpAll_mono k'.zz _ _ hd) hw))⟩
    · rw [if_neg c] at e; cases e
  · cases e
/-- xs.append((a, xs.pop(), c)) -/
def sAppPop (i : Nat) (fa fc : SEnv → Option Sl) : SEnv → Option Out := fun ρ => match lstS (get ρ i), (fa ρ).bind toD with
  | some ds, some a => match ds.getLast?, (fc (put ρ i (setS (get ρ i) ds.dropLast))).bind toD with
    | some d, some c => if ds.length < 100000 then some (.nx (put ρ i (setS (get ρ i) (ds.dropLast ++ [.tuple [a, d, c]])))) else none
    | _, _ => none
  | _, _ => none
theorem setS_twice (s : Sl) (ds es : List D) : setS (setS s ds) es = setS s es := by cases s <;> rfl
theorem lstS_set (s : Sl) (ds : List D) : lstS (setS s ds) = some ds := by cases s <;> rfl
theorem sd_appPop (i : Nat) {x : Str} {e : Expr} {fa fc : SEnv → Option Sl} {p apos cpos pos : Pos} (hb : PE X (.Call (.Attribute (.Name x p) "append" apos) [e] [] cpos) (tBM X.K "list" rAppend (tVar i) (tCons (tTup (tCons (ER X.K fa) (tCons (tBM0 X.K "list" rPop (tVar i)) (tCons (ER X.K fc) tNil)))) tNil))) (hs : swapsWith (.Call (.Attribute (.Name x p) "append" apos) [e] [] cpos) none pos.line X.env = pure false := by rfl) :
    SD X E (.Expr (.Call (.Attribute (.Name x p) "append" apos) [e] [] cpos) pos) (sAppPop i fa fc) := PS_imp (ps_expr hb hs) fun D σ H ⟨B, Z0, Z, ρ, o, x, e, k⟩ => by
  unfold sAppPop at e
  split at e
  · rename_i ds a q1 q2
    split at e
    · rename_i d c q3 q4
      by_cases hc : ds.length < 100000
      · rw [if_pos hc] at e
        cases e
        have hil : i < ρ.length := by
          by_cases z : i < ρ.length
          · exact z
          · rw [get_out _ _ (by omega)] at q1; cases q1
        obtain ⟨p, vs, hv, hp, hd, km⟩ := x.mutL q1
        refine ⟨_, hv, .inl ⟨rfl, vs, .inl (.inl hp)⟩, ?_⟩
        cases qa : fa ρ with
        | none => rw [qa] at q2; cases q2
        | some s =>
          rw [qa] at q2
          refine er1 x qa fun v Z1 H1 k1 r1 => ?_
          obtain ⟨Z2, k2, zz, hvd⟩ := toD_ok k1 r1 q2
          refine pop_readL (x.step k2) q1 q3 fun w p2 ws hw x2 => ?_
          cases qc : fc (put ρ i (setS (get ρ i) ds.dropLast)) with
          | none => rw [qc] at q4; cases q4
          | some t =>
            rw [qc] at q4
            refine er1 x2 qc fun u Z3 H3 k3 r3 => ?_
            obtain ⟨Z4, k4, zz4, hud⟩ := toD_ok k3 r3 q4
            refine ⟨by rw [sizeLine_eq]; simp, fun q hq => ?_⟩
            obtain ⟨s5, r5⟩ := Dp_newT k4.zh hq (vs := [v, w, u]) (ds := [a, d, c]) (.cons (Dp_mono k4.zz _ _ hvd) (.cons (Dp_mono k4.zz _ _ hw) (.cons hud .nil)))
            have x5 := (x2.step k4).step s5
            have q5 : lstS (get (put ρ i (setS (get ρ i) ds.dropLast)) i) = some ds.dropLast := by rw [get_put_same _ _ _ hil, lstS_set]
            obtain ⟨p5, vs5, hv5, hp5, hd5, km5⟩ := x5.mutL q5
            rw [hv] at hv5
            cases hv5
            have fin := (km5 (Step.refl x5.zh)).2 _ _ (DpAll_append hd5 (.cons r5 .nil))
            rw [get_put_same _ _ _ hil, setS_twice, put_twice] at fin
            exact ⟨p, vs5, .ref q, rfl, rfl, hp5, by rw [sizeLine_eq, DpAll_length hd5, List.length_dropLast]; omega, k _ σ _ fin⟩
      · rw [if_neg hc] at e; cases e
    · cases e
  · cases e
/-- xs * n, a list -/
def eRep (fa fb : SEnv → Option Sl) : SEnv → Option Sl := fun ρ => match (fa ρ).bind ditems, fb ρ with
  | some ds, some (.pl (.int k)) => if (-(2 ^ 63) ≤ k ∧ k < 2 ^ 63) ∧ ds.length * k.toNat ≤ 100000 then some (.own (List.replicate k.toNat ds).flatten) else none
  | _, _ => none
theorem DpAll_rep {K : PySem.W.Frag} {Z : Hp} {vs : List V} {ds : List D} (h : DpAll K Z vs ds) : ∀ n : Nat, DpAll K Z (List.replicate n vs).flatten (List.replicate n ds).flatten
  | 0 => .nil
  | n + 1 => by rw [List.replicate_succ, List.replicate_succ, List.flatten_cons, List.flatten_cons]; exact DpAll_append h (DpAll_rep h n)
theorem pd_rep {a b : Expr} {fa fb : SEnv → Option Sl} {pos : Pos} (ha : PD X a fa) (hb : PD X b fb) : PD X (.BinOp a .Mult b pos) (eRep fa fb) :=
  PE_imp (pe_op op_rep ha hb) fun σ H Q ⟨B, Z0, Z, ρ, s, x, e, k⟩ => by
    unfold eRep at e
    split at e
    · rename_i ds n q1 q2
      by_cases c : (-(2 ^ 63) ≤ n ∧ n < 2 ^ 63) ∧ ds.length * n.toNat ≤ 100000
      · rw [if_pos c] at e
        cases e
        cases qa : fa ρ with
        | none => rw [qa] at q1; cases q1
        | some t =>
          rw [qa] at q1
          refine er2 x qa q2 fun v w Z' H' k' r1 r2 => ?_
          obtain ⟨p, vs, rfl, hp, hd⟩ := ditems_ok r1 q1
          have hw := r2.data
          cases hw
          refine ⟨p, n, vs, rfl, rfl, hp, c.1.1, c.1.2, by rw [sizeLine_eq, DpAll_length hd]; omega, fun l hl => ?_⟩
          obtain ⟨k3, r3⟩ := vlR.newL k'.zh hl (DpAll_rep hd n.toNat)
          exact k _ _ _ (k'.trans k3) (r3.back k'.bh)
      · rw [if_neg c] at e; cases e
    · cases e
end
/-! ### defs with a default -/
section
variable {P : Program} {w : World} {K : PySem.W.Frag} {mg : Str → Option Value} {base : Heap}
theorem funD_mk1 {x qual : Str} {st : Stmt} {f T : Addr} {oc tc u : Value} {od td an : Option Addr} {osl ts : Array (Option Value)} {kV doc pm cdv ct : Value} {tn : Nat} {v : V} (l : K.lookup f = some ⟨oc, od, .func (PySem.W.fnOf x qual (defArgs st) (defBody st) (defScope st) (.ref T) kV doc pm an cdv ct), osl⟩)
    (c : PySem.W.codeIn K cdv qual = true) (k : PySem.W.keepIn K (.ref f) = true) (t : K.lookup T = some ⟨tc, td, .seq #[u] tn, ts⟩) (r : RelV v u) : FunD K x qual (defArgs st) (defBody st) (defScope st) [v] [] f (PySem.W.fnOf x qual (defArgs st) (defBody st) (defScope st) (.ref T) kV doc pm an cdv ct) :=
  ⟨⟨oc, od, .ref T, kV, doc, pm, an, cdv, ct, osl, rfl, l, c, .inr ⟨by simp, T, _, [u], tn, rfl, t, rfl, .cons r .nil⟩, .inl rfl⟩, k⟩
theorem fn_okD {x qual : Str} {st : Stmt} {f : Addr} {fd : FuncData} {N ps : List Str} {k m : Nat} {g : SEnv → Option Out} {dvs : List V} {kws : List (Str × V)} (F : FunD K x qual (defArgs st) (defBody st) (defScope st) dvs kws f fd) (S : FnScope N ps (defScope st)) (hm : ps.length = m) (hn : m ≤ N.length)
    (hbody : ∀ (cdv : Value) (A : Around) (outer : List Env) (s : Shared) (H : Hp) (E : XK), Room k (A.deeper (PyProof.Rows.envOfC qual (defScope st) s.heap.objs.size f cdv)) → SsD (cxOf L2.CX0 P w K mg base N qual (defScope st) f cdv A outer s H E).nox (fun c d _ H => E c d H) (defBody st) g) :
    FnOk P w K mg base L2.CX0 (k + 1) f fd ps (FSp K (fnD N.length m g)) := by
  refine F.ok S (fun vs H Q E h => by rw [hm]; exact FSp_len h) fun cdv A outer s H vs Q E hr h => ⟨_, (hbody cdv A outer s H E hr).nox, body_read hn h⟩
theorem fn_okDX {x qual : Str} {st : Stmt} {f : Addr} {fd : FuncData} {N ps : List Str} {k m : Nat} {g : SEnv → Option Out} {dvs : List V} {kws : List (Str × V)} (F : FunD K x qual (defArgs st) (defBody st) (defScope st) dvs kws f fd) (S : FnScope N ps (defScope st)) (hm : ps.length = m) (hn : m ≤ N.length)
    (hbody : ∀ (cdv : Value) (A : Around) (outer : List Env) (s : Shared) (H : Hp) (E : XK), Room k (A.deeper (PyProof.Rows.envOfC qual (defScope st) s.heap.objs.size f cdv)) → SsD (cxOf (L2.CX P w) P w K mg base N qual (defScope st) f cdv A outer s H E) (fun c d _ H => E c d H) (defBody st) g) :
    FnOk P w K mg base (L2.CX P w) (k + 1) f fd ps (FSp K (fnD N.length m g)) := by
  refine F.ok S (fun vs H Q E h => by rw [hm]; exact FSp_len h) fun cdv A outer s H vs Q E hr h => ⟨_, hbody cdv A outer s H E hr, body_read hn h⟩
theorem bindsAll {x qual : Str} {st : Stmt} {f : Addr} {fd : FuncData} {ps : List Str} {v : V} (F : FunD K x qual (defArgs st) (defBody st) (defScope st) [v] [] f fd)
    (h : ∀ (T : Addr) (kV doc pm : Value) (an : Option Addr) (cdv ct : Value) (us its : List Value), us.length = ps.length → its.length = [v].length →
      ∃ k, bindArgs (PySem.W.fnOf x qual (defArgs st) (defBody st) (defScope st) (.ref T) kV doc pm an cdv ct) ⟨us, []⟩ = seqItems? (.ref T) >>= k ∧ k (some its.toArray) = pure (ps.zip (us ++ its.drop 1))) : Binds K fd ps [] := by
  obtain ⟨ds, h1, h2⟩ := F.binds1 (ps := ps) ps.length 1 (by simp) (by simp) h
  cases h1
  exact h2
end
/-- the last argument lacks -/
def aDef (dss : List Sl) (a : SEnv → Option (List Sl)) : SEnv → Option (List Sl) := fun ρ => (a ρ).map (· ++ dss)
theorem aDef_def (dss : List Sl) (a : SEnv → Option (List Sl)) (ρ : SEnv) : aDef dss a ρ = (a ρ).map (· ++ dss) := rfl
section
variable {X : Cx}
theorem pd_callD {k : Nat} {f : Addr} {fd : FuncData} {ps : List Str} {x : Str} {p pos : Pos} {e : Expr} {es : List Expr} {F : Fn} {a : SEnv → Option (List Sl)} {dvs : List V} {dss : List Sl} (G : FnOk X.prog X.w X.K X.mg X.base L2.CX0 k f fd ps (FSp X.K F)) (hr : Room k X.A) (hg : Gl X x) (hm : X.mg x = some (.ref f)) (hk : PySem.W.keepIn X.K (.ref f) = true) (hb : ∃ ds, Vals dvs ds ∧ Binds X.K fd ps ds) (hd : ∀ Z H, AllB X.K Z H dvs dss) (ha : AD X (e :: es) a)
    (hdb : (x == ("__debug__" : Str)) = false := by decide) (h1 : starEach (e :: es) X.env = (false, eval e X.env) :: starEach es X.env := by rfl) (h2 : ((backTo pos (starEach es X.env)).any fun x => x.fst) = false := by rfl) : PD X (.Call (.Name x p) (e :: es) [] pos) (eCall F (aDef dss a)) := by
  obtain ⟨ds, hv, hb⟩ := hb
  exact PE_imp (pe_call G hr hg hm hk hb hv (L2.pass0 (X := X)) ha hdb h1 h2) fun σ H Q h => call_read hd h
theorem dss_int {K : PySem.W.Frag} (i : Int) : ∀ Z H, AllB K Z H [V.int i] [.pl (.int i)] := fun Z H => ⟨⟨rfl, _, rfl, .int i⟩, trivial⟩
end
/-! ### one sign in a text; over the signs of a text -/
def inSign (neg : Bool) : D → D → Option Bool
  | .str x, .str z => match x.cps.toList with
    | [c] => some (decide (c ∈ z.cps.toList) != neg)
    | _ => none
  | _, _ => none
theorem inSign_inv {neg : Bool} {dx dy : D} {b : Bool} (e : inSign neg dx dy = some b) : ∃ (c : Nat) (z : Str), dx = .str ⟨#[c]⟩ ∧ dy = .str z ∧ b = (decide (c ∈ z.cps.toList) != neg) := by
  unfold inSign at e
  split at e
  · rename_i x z
    split at e
    · rename_i c q
      cases e
      have : x = ⟨#[c]⟩ := by
        obtain ⟨l⟩ := x
        congr
        exact Array.ext' (by simpa using q)
      exact ⟨c, z, by rw [this], rfl, rfl⟩
    · cases e
  · cases e
theorem ok_inSign {K : PySem.W.Frag} : CmpOK K (fun x y H Q => ∃ (c : Nat) (z : Str), x = .str ⟨#[c]⟩ ∧ y = .str z ∧ Q (.bl (decide (c ∈ z.cps.toList))) H) (inSign false) := by
  intro H x y dx dy b Q hx hy e k
  obtain ⟨c, z, rfl, rfl, rfl⟩ := inSign_inv e
  cases hx
  cases hy
  refine ⟨c, z, rfl, rfl, ?_⟩
  simpa using k
theorem ok_notinSign {K : PySem.W.Frag} : CmpOK K (fun x y H Q => ∃ (c : Nat) (z : Str), x = .str ⟨#[c]⟩ ∧ y = .str z ∧ Q (.bl (!decide (c ∈ z.cps.toList))) H) (inSign true) := by
  intro H x y dx dy b Q hx hy e k
  obtain ⟨c, z, rfl, rfl, rfl⟩ := inSign_inv e
  cases hx
  cases hy
  refine ⟨c, z, rfl, rfl, ?_⟩
  simpa using k
section
variable {X : Cx} {E : WX}
def signs (s : Str) : List D := s.cps.toList.map fun c => .str ⟨#[c]⟩
def ssrc : Sl → Option (List D)
  | .pl (.str s) => some (signs s)
  | _ => none
theorem ld_str {tg e : Expr} {f : SEnv → Option Sl} (h : PD X e f) : LD X tg e (eSrc ssrc f) := PI_imp (pi_str h) fun σ H R ⟨B, Z0, Z, ρ, ds, x, e, k⟩ => by
  unfold eSrc at e
  cases q : f ρ with
  | none => rw [q] at e; cases e
  | some s =>
    rw [q] at e
    cases s with
    | pl c =>
      cases c with
      | str z =>
        cases e
        refine er1 x q fun v Z' H' k' r => ?_
        have hv := r.data
        cases hv
        have hl : (signs z).length = z.cps.size := by unfold signs; rw [List.length_map, Array.length_toList]
        refine ⟨z, rfl, k _ (fun _ => True) (fun i H v H' => H' = H ∧ ∃ c, z.cps[i]? = some c ∧ v = .str ⟨#[c]⟩) Z' H' k' ⟨by rw [hl]; exact walk_str, fun _ _ _ => trivial, fun i Z H x H' d e _ zh y => ?_⟩⟩
        obtain ⟨rfl, c, hc, rfl⟩ := y
        refine ⟨Z, Step.refl zh, ?_⟩
        unfold signs at e
        rw [List.getElem?_map, Array.getElem?_toList, hc] at e
        cases e
        exact .str _
      | _ => cases e
    | _ => cases e
end
end DL

set_option maxHeartbeats 4000000
namespace La
open PySem PySem.Spec PyProof.Rows L2 DL
abbrev N_is_name : List Str := ["text", "sign"]
abbrev P_is_name : List Str := ["text"]
abbrev N_parted : List Str := ["piece", "word", "bare"]
abbrev P_parted : List Str := ["piece"]
abbrev N_join_top : List Str := ["waiting", "made", "deed", "last"]
abbrev P_join_top : List Str := ["waiting", "made"]
abbrev N_join_while : List Str := ["waiting", "made", "deeds"]
abbrev P_join_while : List Str := ["waiting", "made", "deeds"]
abbrev N_closed : List Str := ["waiting", "made", "count", "k"]
abbrev P_closed : List Str := ["waiting", "made", "count"]
abbrev N_taken : List Str := ["piece", "wanted", "waiting", "made", "ahead", "word", "behind"]
abbrev P_taken : List Str := ["piece", "wanted", "waiting", "made"]
abbrev N_read_sentence : List Str := ["text", "row", "waiting", "made", "wanted", "piece"]
abbrev P_read_sentence : List Str := ["text", "row"]
abbrev N_as_part : List Str := ["sentence", "bare"]
abbrev P_as_part : List Str := ["sentence", "bare"]
abbrev N_shown_sentence : List Str := ["sentence", "kind", "left", "right"]
abbrev P_shown_sentence : List Str := ["sentence"]
abbrev N__law_draws : List Str := ["cell", "count", "number", "drawn", "k"]
abbrev P__law_draws : List Str := ["cell", "count"]
abbrev N__law_cell_at : List Str := ["script", "k"]
abbrev P__law_cell_at : List Str := ["script", "k"]
abbrev N__law_fresh : List Str := ["number", "size", "letters", "name", "k"]
abbrev P__law_fresh : List Str := ["number", "size"]
abbrev N__law_names : List Str := ["cell", "size", "letters", "some", "drawn", "base", "at", "names", "k", "name", "sign"]
abbrev P__law_names : List Str := ["cell", "size"]
abbrev N__law_text : List Str := ["tree", "under", "level", "word", "text"]
abbrev P__law_text : List Str := ["tree", "under"]
abbrev N__law_grown : List Str := ["pool", "cell", "names", "drawn", "one", "other", "kind"]
abbrev P__law_grown : List Str := ["pool", "cell", "names"]
abbrev N__law_same : List Str := ["found", "due", "k"]
abbrev P__law_same : List Str := ["found", "due"]
abbrev N__law_read_again : List Str := ["text", "number", "due", "found"]
abbrev P__law_read_again : List Str := ["text", "number", "due"]
abbrev N_law : List Str := ["script", "names", "pool", "cell", "new", "text", "shown"]
abbrev P_law : List Str := ["script"]
abbrev k_KEPT : D := .tuple [.str "always", .str "where", .str "usually", .str "not", .str "and", .str "or"]
abbrev k_MOST_SIGNS : D := .int 120
abbrev k_SMALL : D := .str "abcdefghijklmnopqrstuvwxyz"
noncomputable def L_is_name_1 : SEnv → Option Out :=
  (sWipeB [1] (sIf (tCmp2 (inSign true) (eVar 1) (eC k_SMALL)) (sRet (eC (.bool false))) sNext))
noncomputable def K_is_name_1 : SEnv → Option Out :=
  (sIf (tOr2 (tInS false (eVar 0) (eC k_KEPT)) (tOr2 (tCmp2 ltD (eBui lenF (aCons (eVar 0) aNil)) (eC (.int 1))) (tCmp2 gtD (eBui lenF (aCons (eVar 0) aNil)) (eC (.int 12))))) (sRet (eC (.bool false))) sNext)
noncomputable def K_is_name_2 : SEnv → Option Out :=
  (sFor (eSrc ssrc (eVar 0)) (gPut 1)
  L_is_name_1)
noncomputable def K_is_name_3 : SEnv → Option Out :=
  (sRet (eC (.bool true)))
noncomputable def B_is_name : SEnv → Option Out :=
  (sSeq K_is_name_1
  (sSeq K_is_name_2
  K_is_name_3))
abbrev ev_is_name (text_ : Sl := .un) (sign_ : Sl := .un) : SEnv := [text_, sign_]
theorem X_is_name : ∃ f : Fn, f = fnD 2 1 B_is_name := ⟨_, rfl⟩
noncomputable def F_is_name : Fn := Classical.choose X_is_name
theorem F_is_name_eq : F_is_name = fnD 2 1 B_is_name := Classical.choose_spec X_is_name
theorem F_is_name_rt {a0 s : Sl} (h : B_is_name (ev_is_name a0) = some (.rt s)) : F_is_name [a0] = some (.ret s) := by rw [F_is_name_eq]; exact fnD_rt rfl h
theorem F_is_name_nx {a0 : Sl} {ρ : SEnv} (h : B_is_name (ev_is_name a0) = some (.nx ρ)) : F_is_name [a0] = some (.ret (.pl .none)) := by rw [F_is_name_eq]; exact fnD_nx rfl h
noncomputable def K_parted_1 : SEnv → Option Out :=
  (sAsg 1 (eM1 fits24 (fun x y => .str (Txt.lstripChars x y)) (eVar 0) (eC (.str "("))))
noncomputable def K_parted_2 : SEnv → Option Out :=
  (sAsg 2 (eM1 fits24 (fun x y => .str (Txt.rstripChars x y)) (eVar 1) (eC (.str ")"))))
noncomputable def K_parted_3 : SEnv → Option Out :=
  (sRet (eTup (dCons (eBin subD (eBui lenF (aCons (eVar 0) aNil)) (eBui lenF (aCons (eVar 1) aNil))) (dCons (eVar 2) (dCons (eBin subD (eBui lenF (aCons (eVar 1) aNil)) (eBui lenF (aCons (eVar 2) aNil))) dNil)))))
noncomputable def B_parted : SEnv → Option Out :=
  (sSeq K_parted_1
  (sSeq K_parted_2
  K_parted_3))
abbrev ev_parted (piece_ : Sl := .un) (word_ : Sl := .un) (bare_ : Sl := .un) : SEnv := [piece_, word_, bare_]
theorem X_parted : ∃ f : Fn, f = fnD 3 1 B_parted := ⟨_, rfl⟩
noncomputable def F_parted : Fn := Classical.choose X_parted
theorem F_parted_eq : F_parted = fnD 3 1 B_parted := Classical.choose_spec X_parted
theorem F_parted_rt {a0 s : Sl} (h : B_parted (ev_parted a0) = some (.rt s)) : F_parted [a0] = some (.ret s) := by rw [F_parted_eq]; exact fnD_rt rfl h
theorem F_parted_nx {a0 : Sl} {ρ : SEnv} (h : B_parted (ev_parted a0) = some (.nx ρ)) : F_parted [a0] = some (.ret (.pl .none)) := by rw [F_parted_eq]; exact fnD_nx rfl h
noncomputable def K_join_top_1 : SEnv → Option Out :=
  (sIf (tCmp2 eqD (eVar 2) (eC (.str "not"))) (sAppL 1 (eTup (dCons (eC (.str "not")) (dCons (eVar 3) dNil)))) (sAppPop 1 (eVar 2) (eVar 3)))
noncomputable def B_join_top : SEnv → Option Out :=
  (sSeq (sPopToL 2 0)
  (sSeq (sPopToL 3 1)
  K_join_top_1))
abbrev ev_join_top (waiting_ : Sl := .un) (made_ : Sl := .un) (deed_ : Sl := .un) (last_ : Sl := .un) : SEnv := [waiting_, made_, deed_, last_]
theorem X_join_top : ∃ f : FnC, f = fnC 4 2 B_join_top := ⟨_, rfl⟩
noncomputable def F_join_top : FnC := Classical.choose X_join_top
theorem F_join_top_eq : F_join_top = fnC 4 2 B_join_top := Classical.choose_spec X_join_top
theorem F_join_top_nx {d0 e0 : List D} {d1 e1 : List D} (h : ∀ a0 a1 : Addr, ∃ x2 x3 : Sl, B_join_top (ev_join_top (.lno a0 d0) (.lno a1 d1)) = some (.nx (ev_join_top (.lno a0 e0) (.lno a1 e1) x2 x3))) : F_join_top [.own d0, .own d1] = some (.ret (.pl .none), [.own e0, .own e1]) := by
  rw [F_join_top_eq]
  refine fnC_of rfl fun p => ?_
  obtain ⟨x2, x3, e⟩ := h (p 0) (p 1)
  exact ⟨_, e, by simp [finC, backs, back1]⟩
theorem F_join_top_rm {d0 e0 : List D} {d1 e1 : List D} {s : Sl} (h : ∀ a0 a1 : Addr, ∃ x2 x3 : Sl, B_join_top (ev_join_top (.lno a0 d0) (.lno a1 d1)) = some (.rm s (ev_join_top (.lno a0 e0) (.lno a1 e1) x2 x3))) : F_join_top [.own d0, .own d1] = some (.ret s, [.own e0, .own e1]) := by
  rw [F_join_top_eq]
  refine fnC_of rfl fun p => ?_
  obtain ⟨x2, x3, e⟩ := h (p 0) (p 1)
  exact ⟨_, e, by simp [finC, backs, back1]⟩
noncomputable def L_join_while_1 : SEnv → Option Out :=
  (sExpC (eCallC F_join_top [.hd 0, .hd 1]))
noncomputable def T_join_while_1 : SEnv → Option Bool :=
  (tAnd2 (tCmp2 gtD (eBui lenF (aCons (eVar 0) aNil)) (eC (.int 0))) (tInS false (eIx (eVar 0) (eUn (uF fun i => -i) (eC (.int 1)))) (eVar 2)))
noncomputable def B_join_while : SEnv → Option Out :=
  (whileD T_join_while_1 L_join_while_1 1000)
abbrev ev_join_while (waiting_ : Sl := .un) (made_ : Sl := .un) (deeds_ : Sl := .un) : SEnv := [waiting_, made_, deeds_]
theorem X_join_while : ∃ f : FnC, f = fnC 3 3 B_join_while := ⟨_, rfl⟩
noncomputable def F_join_while : FnC := Classical.choose X_join_while
theorem F_join_while_eq : F_join_while = fnC 3 3 B_join_while := Classical.choose_spec X_join_while
theorem F_join_while_nx {d0 e0 : List D} {d1 e1 : List D} {y2 : D} (h : ∀ a0 a1 : Addr, ∃ x2 : Sl, B_join_while (ev_join_while (.lno a0 d0) (.lno a1 d1) (.pl y2)) = some (.nx (ev_join_while (.lno a0 e0) (.lno a1 e1) x2))) : F_join_while [.own d0, .own d1, .pl y2] = some (.ret (.pl .none), [.own e0, .own e1, .un]) := by
  rw [F_join_while_eq]
  refine fnC_of rfl fun p => ?_
  obtain ⟨x2, e⟩ := h (p 0) (p 1)
  exact ⟨_, e, by simp [finC, backs, back1]⟩
theorem F_join_while_rm {d0 e0 : List D} {d1 e1 : List D} {y2 : D} {s : Sl} (h : ∀ a0 a1 : Addr, ∃ x2 : Sl, B_join_while (ev_join_while (.lno a0 d0) (.lno a1 d1) (.pl y2)) = some (.rm s (ev_join_while (.lno a0 e0) (.lno a1 e1) x2))) : F_join_while [.own d0, .own d1, .pl y2] = some (.ret s, [.own e0, .own e1, .un]) := by
  rw [F_join_while_eq]
  refine fnC_of rfl fun p => ?_
  obtain ⟨x2, e⟩ := h (p 0) (p 1)
  exact ⟨_, e, by simp [finC, backs, back1]⟩
noncomputable def K_closed_1 : SEnv → Option Out :=
  (sExpC (eCallC F_join_while [.hd 0, .hd 1, .ex (eTup (dCons (eC (.str "and")) (dCons (eC (.str "or")) dNil)))]))
noncomputable def K_closed_2 : SEnv → Option Out :=
  (sIf (tCmp2 eqD (eBui lenF (aCons (eVar 0) aNil)) (eC (.int 0))) (sRetM (eC (.bool false))) sNext)
noncomputable def K_closed_3 : SEnv → Option Out :=
  (sExpC (eCallC F_join_while [.hd 0, .hd 1, .ex (eTup (dCons (eC (.str "not")) dNil))]))
noncomputable def L_closed_1 : SEnv → Option Out :=
  (sWipeB [3] (sSeq K_closed_1
  (sSeq K_closed_2
  (sSeq (sPopL 0)
  K_closed_3))))
noncomputable def K_closed_4 : SEnv → Option Out :=
  (sFor (rg1 (aCons (eVar 2) aNil)) (gPut 3)
  L_closed_1)
noncomputable def K_closed_5 : SEnv → Option Out :=
  (sRetM (eC (.bool true)))
noncomputable def B_closed : SEnv → Option Out :=
  (sSeq K_closed_4
  K_closed_5)
abbrev ev_closed (waiting_ : Sl := .un) (made_ : Sl := .un) (count_ : Sl := .un) (k_ : Sl := .un) : SEnv := [waiting_, made_, count_, k_]
theorem X_closed : ∃ f : FnC, f = fnC 4 3 B_closed := ⟨_, rfl⟩
noncomputable def F_closed : FnC := Classical.choose X_closed
theorem F_closed_eq : F_closed = fnC 4 3 B_closed := Classical.choose_spec X_closed
theorem F_closed_nx {d0 e0 : List D} {d1 e1 : List D} {y2 : D} (h : ∀ a0 a1 : Addr, ∃ x2 x3 : Sl, B_closed (ev_closed (.lno a0 d0) (.lno a1 d1) (.pl y2)) = some (.nx (ev_closed (.lno a0 e0) (.lno a1 e1) x2 x3))) : F_closed [.own d0, .own d1, .pl y2] = some (.ret (.pl .none), [.own e0, .own e1, .un]) := by
  rw [F_closed_eq]
  refine fnC_of rfl fun p => ?_
  obtain ⟨x2, x3, e⟩ := h (p 0) (p 1)
  exact ⟨_, e, by simp [finC, backs, back1]⟩
theorem F_closed_rm {d0 e0 : List D} {d1 e1 : List D} {y2 : D} {s : Sl} (h : ∀ a0 a1 : Addr, ∃ x2 x3 : Sl, B_closed (ev_closed (.lno a0 d0) (.lno a1 d1) (.pl y2)) = some (.rm s (ev_closed (.lno a0 e0) (.lno a1 e1) x2 x3))) : F_closed [.own d0, .own d1, .pl y2] = some (.ret s, [.own e0, .own e1, .un]) := by
  rw [F_closed_eq]
  refine fnC_of rfl fun p => ?_
  obtain ⟨x2, x3, e⟩ := h (p 0) (p 1)
  exact ⟨_, e, by simp [finC, backs, back1]⟩
noncomputable def K_taken_1 : SEnv → Option Out :=
  (sIf (tCmp2 eqD (eVar 0) (eC (.str "and"))) (sExpC (eCallC F_join_while [.hd 2, .hd 3, .ex (eTup (dCons (eC (.str "and")) dNil))])) (sIf (tCmp2 eqD (eVar 0) (eC (.str "or"))) (sExpC (eCallC F_join_while [.hd 2, .hd 3, .ex (eTup (dCons (eC (.str "and")) (dCons (eC (.str "or")) dNil)))])) (sRetM (eC .none))))
noncomputable def K_taken_2 : SEnv → Option Out :=
  (sRetM (eC (.bool true)))
noncomputable def K_taken_3 : SEnv → Option Out :=
  (sAppL 2 (eC (.str "not")))
noncomputable def K_taken_4 : SEnv → Option Out :=
  (sIf (tNot1 (tTru (eVar 1))) (sSeq K_taken_1
  (sSeq (sAppL 2 (eVar 0))
  K_taken_2)) sNext)
noncomputable def K_taken_5 : SEnv → Option Out :=
  (sAsgT (gTupF 3 (gsCons 4 (gsCons 5 (gsCons 6 gsNil)))) (eCall F_parted (aCons (eVar 0) aNil)))
noncomputable def K_taken_6 : SEnv → Option Out :=
  (sExtL 2 (eRep (eLst (dCons (eC (.str "(")) dNil)) (eVar 4)))
noncomputable def K_taken_7 : SEnv → Option Out :=
  (sIf (tAnd2 (tCmp2 eqD (eVar 5) (eC (.str "not"))) (tCmp2 eqD (eVar 6) (eC (.int 0)))) (sSeq K_taken_3
  K_taken_2) sNext)
noncomputable def K_taken_8 : SEnv → Option Out :=
  (sIf (tNot1 (tTru (eCall F_is_name (aCons (eVar 5) aNil)))) (sRetM (eC .none)) sNext)
noncomputable def K_taken_9 : SEnv → Option Out :=
  (sAppL 3 (eTup (dCons (eC (.str "is")) (dCons (eVar 5) dNil))))
noncomputable def K_taken_10 : SEnv → Option Out :=
  (sExpC (eCallC F_join_while [.hd 2, .hd 3, .ex (eTup (dCons (eC (.str "not")) dNil))]))
noncomputable def K_taken_11 : SEnv → Option Out :=
  (sIfC (tNotC (tTruC (eCallC F_closed [.hd 2, .hd 3, .ex (eVar 6)]))) (sRetM (eC .none)) sNext)
noncomputable def K_taken_12 : SEnv → Option Out :=
  (sRetM (eC (.bool false)))
noncomputable def B_taken : SEnv → Option Out :=
  (sSeq K_taken_4
  (sSeq K_taken_5
  (sSeq K_taken_6
  (sSeq K_taken_7
  (sSeq K_taken_8
  (sSeq K_taken_9
  (sSeq K_taken_10
  (sSeq K_taken_11
  K_taken_12))))))))
abbrev ev_taken (piece_ : Sl := .un) (wanted_ : Sl := .un) (waiting_ : Sl := .un) (made_ : Sl := .un) (ahead_ : Sl := .un) (word_ : Sl := .un) (behind_ : Sl := .un) : SEnv := [piece_, wanted_, waiting_, made_, ahead_, word_, behind_]
theorem X_taken : ∃ f : FnC, f = fnC 7 4 B_taken := ⟨_, rfl⟩
noncomputable def F_taken : FnC := Classical.choose X_taken
theorem F_taken_eq : F_taken = fnC 7 4 B_taken := Classical.choose_spec X_taken
theorem F_taken_nx {y0 : D} {y1 : D} {d2 e2 : List D} {d3 e3 : List D} (h : ∀ a2 a3 : Addr, ∃ x0 x1 x4 x5 x6 : Sl, B_taken (ev_taken (.pl y0) (.pl y1) (.lno a2 d2) (.lno a3 d3)) = some (.nx (ev_taken x0 x1 (.lno a2 e2) (.lno a3 e3) x4 x5 x6))) : F_taken [.pl y0, .pl y1, .own d2, .own d3] = some (.ret (.pl .none), [.un, .un, .own e2, .own e3]) := by
  rw [F_taken_eq]
  refine fnC_of rfl fun p => ?_
  obtain ⟨x0, x1, x4, x5, x6, e⟩ := h (p 2) (p 3)
  exact ⟨_, e, by simp [finC, backs, back1]⟩
theorem F_taken_rm {y0 : D} {y1 : D} {d2 e2 : List D} {d3 e3 : List D} {s : Sl} (h : ∀ a2 a3 : Addr, ∃ x0 x1 x4 x5 x6 : Sl, B_taken (ev_taken (.pl y0) (.pl y1) (.lno a2 d2) (.lno a3 d3)) = some (.rm s (ev_taken x0 x1 (.lno a2 e2) (.lno a3 e3) x4 x5 x6))) : F_taken [.pl y0, .pl y1, .own d2, .own d3] = some (.ret s, [.un, .un, .own e2, .own e3]) := by
  rw [F_taken_eq]
  refine fnC_of rfl fun p => ?_
  obtain ⟨x0, x1, x4, x5, x6, e⟩ := h (p 2) (p 3)
  exact ⟨_, e, by simp [finC, backs, back1]⟩
noncomputable def K_read_sentence_1 : SEnv → Option Out :=
  (sAsgC 4 (eCallC F_taken [.ex (eVar 5), .ex (eVar 4), .hd 2, .hd 3]))
noncomputable def K_read_sentence_2 : SEnv → Option Out :=
  (sIf (tCmp2 isnF (eVar 4) (eC .none)) sStk sNext)
noncomputable def L_read_sentence_1 : SEnv → Option Out :=
  (sWipeB [5] (sSeq K_read_sentence_1
  K_read_sentence_2))
noncomputable def K_read_sentence_3 : SEnv → Option Out :=
  (sIf (tCmp2 gtD (eBui lenF (aCons (eVar 0) aNil)) (eC k_MOST_SIGNS)) sStk sNext)
noncomputable def K_read_sentence_4 : SEnv → Option Out :=
  (sAsg 4 (eC (.bool true)))
noncomputable def K_read_sentence_5 : SEnv → Option Out :=
  (sFor (eSrc lsrc (eSplit (eVar 0) (eC (.str " ")))) (gPut 5)
  L_read_sentence_1)
noncomputable def K_read_sentence_6 : SEnv → Option Out :=
  (sIf (tOr2 (tTru (eVar 4)) (tInS false (eC (.str "(")) (eVar 2))) sStk sNext)
noncomputable def K_read_sentence_7 : SEnv → Option Out :=
  (sExpC (eCallC F_join_while [.hd 2, .hd 3, .ex (eTup (dCons (eC (.str "and")) (dCons (eC (.str "or")) dNil)))]))
noncomputable def K_read_sentence_8 : SEnv → Option Out :=
  (sRet (eIx (eVar 3) (eC (.int 0))))
noncomputable def B_read_sentence : SEnv → Option Out :=
  (sSeq K_read_sentence_3
  (sSeq (sAsg 2 (eLst dNil))
  (sSeq (sAsg 3 (eLst dNil))
  (sSeq K_read_sentence_4
  (sSeq K_read_sentence_5
  (sSeq K_read_sentence_6
  (sSeq K_read_sentence_7
  K_read_sentence_8)))))))
abbrev ev_read_sentence (text_ : Sl := .un) (row_ : Sl := .un) (waiting_ : Sl := .un) (made_ : Sl := .un) (wanted_ : Sl := .un) (piece_ : Sl := .un) : SEnv := [text_, row_, waiting_, made_, wanted_, piece_]
theorem X_read_sentence : ∃ f : Fn, f = fnD 6 2 B_read_sentence := ⟨_, rfl⟩
noncomputable def F_read_sentence : Fn := Classical.choose X_read_sentence
theorem F_read_sentence_eq : F_read_sentence = fnD 6 2 B_read_sentence := Classical.choose_spec X_read_sentence
theorem F_read_sentence_rt {a0 a1 s : Sl} (h : B_read_sentence (ev_read_sentence a0 a1) = some (.rt s)) : F_read_sentence [a0, a1] = some (.ret s) := by rw [F_read_sentence_eq]; exact fnD_rt rfl h
theorem F_read_sentence_nx {a0 a1 : Sl} {ρ : SEnv} (h : B_read_sentence (ev_read_sentence a0 a1) = some (.nx ρ)) : F_read_sentence [a0, a1] = some (.ret (.pl .none)) := by rw [F_read_sentence_eq]; exact fnD_nx rfl h
noncomputable def B_as_part (Fr : Fn) : SEnv → Option Out :=
  (sSeq (sIf (tTru (eVar 1)) (sRet (eCall Fr (aCons (eVar 0) aNil))) sNext)
  (sRet (eBin addD (eBin addD (eC (.str "(")) (eCall Fr (aCons (eVar 0) aNil))) (eC (.str ")")))))
abbrev ev_as_part (sentence_ : Sl := .un) (bare_ : Sl := .un) : SEnv := [sentence_, bare_]
theorem X_as_part : ∃ G : Fn → Fn, ∀ Fr, G Fr = fnD 2 2 (B_as_part Fr) := ⟨_, fun _ => rfl⟩
noncomputable def G_as_part : Fn → Fn := Classical.choose X_as_part
theorem G_as_part_eq (Fr : Fn) : G_as_part Fr = fnD 2 2 (B_as_part Fr) := Classical.choose_spec X_as_part Fr
theorem G_as_part_rt {Fr : Fn} {a0 a1 s : Sl} (h : B_as_part Fr (ev_as_part a0 a1) = some (.rt s)) : G_as_part Fr [a0, a1] = some (.ret s) := by rw [G_as_part_eq]; exact fnD_rt rfl h
noncomputable def B_shown_sentence (Fr : Fn) : SEnv → Option Out :=
  (sSeq (sAsg 1 (eIx (eVar 0) (eC (.int 0))))
  (sSeq (sIf (tCmp2 eqD (eVar 1) (eC (.str "is"))) (sRet (eIx (eVar 0) (eC (.int 1)))) sNext)
  (sSeq (sIf (tCmp2 eqD (eVar 1) (eC (.str "not"))) (sRet (eBin addD (eC (.str "not ")) (eCall (G_as_part Fr) (aCons (eIx (eVar 0) (eC (.int 1))) (aCons (eB (tInS false (eIx (eIx (eVar 0) (eC (.int 1))) (eC (.int 0))) (eTup (dCons (eC (.str "is")) (dCons (eC (.str "not")) dNil))))) aNil))))) sNext)
  (sSeq (sAsg 2 (eCall (G_as_part Fr) (aCons (eIx (eVar 0) (eC (.int 1))) (aCons (eOr (eB (tCmp2 eqD (eVar 1) (eC (.str "or")))) (eB (tCmp2 neD (eIx (eIx (eVar 0) (eC (.int 1))) (eC (.int 0))) (eC (.str "or"))))) aNil))))
  (sSeq (sAsg 3 (eCall (G_as_part Fr) (aCons (eIx (eVar 0) (eC (.int 2))) (aCons (eOr (eB (tInS false (eIx (eIx (eVar 0) (eC (.int 2))) (eC (.int 0))) (eTup (dCons (eC (.str "is")) (dCons (eC (.str "not")) dNil))))) (eAnd (eB (tCmp2 eqD (eVar 1) (eC (.str "or")))) (eB (tCmp2 eqD (eIx (eIx (eVar 0) (eC (.int 2))) (eC (.int 0))) (eC (.str "and")))))) aNil))))
  (sRet (eBin addD (eBin addD (eBin addD (eBin addD (eVar 2) (eC (.str " "))) (eVar 1)) (eC (.str " "))) (eVar 3))))))))
abbrev ev_shown_sentence (sentence_ : Sl := .un) (kind_ : Sl := .un) (left_ : Sl := .un) (right_ : Sl := .un) : SEnv := [sentence_, kind_, left_, right_]
theorem X_shown_sentence : ∃ R : Nat → Fn, R 0 = fnD 4 1 sStk ∧ ∀ n, R (n + 1) = fnD 4 1 (B_shown_sentence (R n)) := ⟨fun n => Nat.rec (fnD 4 1 sStk) (fun _ F => fnD 4 1 (B_shown_sentence F)) n, rfl, fun _ => rfl⟩
noncomputable def R_shown_sentence : Nat → Fn := Classical.choose X_shown_sentence
theorem R_shown_sentence_0 : R_shown_sentence 0 = fnD 4 1 sStk := (Classical.choose_spec X_shown_sentence).1
theorem R_shown_sentence_s (n : Nat) : R_shown_sentence (n + 1) = fnD 4 1 (B_shown_sentence (R_shown_sentence n)) := (Classical.choose_spec X_shown_sentence).2 n
noncomputable def F_shown_sentence : Fn := R_shown_sentence 64
theorem R_shown_sentence_rt {n : Nat} {a0 s : Sl} (h : B_shown_sentence (R_shown_sentence n) (ev_shown_sentence a0) = some (.rt s)) : R_shown_sentence (n + 1) [a0] = some (.ret s) := by rw [R_shown_sentence_s]; exact fnD_rt rfl h
noncomputable def K__law_draws_1 : SEnv → Option Out :=
  (sAsg 2 (eBin modD (eBin mulD (eVar 2) (eC (.int 48271))) (eC (.int 2147483647))))
noncomputable def K__law_draws_2 : SEnv → Option Out :=
  (sApp 3 (eBin divD (eVar 2) (eC (.int 13))))
noncomputable def L__law_draws_1 : SEnv → Option Out :=
  (sWipeB [4] (sSeq K__law_draws_1
  K__law_draws_2))
noncomputable def K__law_draws_3 : SEnv → Option Out :=
  (sAsg 2 (eBin modD (eBin mulD (eBin addD (eBin modD (eVar 0) (eC (.int 2147483629))) (eC (.int 1))) (eC (.int 1103515245))) (eC (.int 2147483647))))
noncomputable def K__law_draws_4 : SEnv → Option Out :=
  (sWipeB [2] (sFor (rg1 (aCons (eVar 1) aNil)) (gPut 4)
  L__law_draws_1))
noncomputable def B__law_draws : SEnv → Option Out :=
  (sSeq K__law_draws_3
  (sSeq (sAsg 3 (eLst dNil))
  (sSeq K__law_draws_4
  (sRetVar 3))))
abbrev ev__law_draws (cell_ : Sl := .un) (count_ : Sl := .un) (number_ : Sl := .un) (drawn_ : Sl := .un) (k_ : Sl := .un) : SEnv := [cell_, count_, number_, drawn_, k_]
theorem X__law_draws : ∃ f : Fn, f = fnD 5 2 B__law_draws := ⟨_, rfl⟩
noncomputable def F__law_draws : Fn := Classical.choose X__law_draws
theorem F__law_draws_eq : F__law_draws = fnD 5 2 B__law_draws := Classical.choose_spec X__law_draws
theorem F__law_draws_rt {a0 a1 s : Sl} (h : B__law_draws (ev__law_draws a0 a1) = some (.rt s)) : F__law_draws [a0, a1] = some (.ret s) := by rw [F__law_draws_eq]; exact fnD_rt rfl h
theorem F__law_draws_nx {a0 a1 : Sl} {ρ : SEnv} (h : B__law_draws (ev__law_draws a0 a1) = some (.nx ρ)) : F__law_draws [a0, a1] = some (.ret (.pl .none)) := by rw [F__law_draws_eq]; exact fnD_nx rfl h
noncomputable def K__law_cell_at_1 : SEnv → Option Out :=
  (sIf (tCmp2 ltD (eVar 1) (eBui lenF (aCons (eVar 0) aNil))) (sRet (eIx (eVar 0) (eVar 1))) sNext)
noncomputable def B__law_cell_at : SEnv → Option Out :=
  (sSeq K__law_cell_at_1
  (sRet (eC (.int 0))))
abbrev ev__law_cell_at (script_ : Sl := .un) (k_ : Sl := .un) : SEnv := [script_, k_]
theorem X__law_cell_at : ∃ f : Fn, f = fnD 2 2 B__law_cell_at := ⟨_, rfl⟩
noncomputable def F__law_cell_at : Fn := Classical.choose X__law_cell_at
theorem F__law_cell_at_eq : F__law_cell_at = fnD 2 2 B__law_cell_at := Classical.choose_spec X__law_cell_at
theorem F__law_cell_at_rt {a0 a1 s : Sl} (h : B__law_cell_at (ev__law_cell_at a0 a1) = some (.rt s)) : F__law_cell_at [a0, a1] = some (.ret s) := by rw [F__law_cell_at_eq]; exact fnD_rt rfl h
theorem F__law_cell_at_nx {a0 a1 : Sl} {ρ : SEnv} (h : B__law_cell_at (ev__law_cell_at a0 a1) = some (.nx ρ)) : F__law_cell_at [a0, a1] = some (.ret (.pl .none)) := by rw [F__law_cell_at_eq]; exact fnD_nx rfl h
noncomputable def K__law_fresh_1 : SEnv → Option Out :=
  (sAsg 0 (eBin modD (eBin addD (eBin mulD (eVar 0) (eC (.int 69621))) (eC (.int 1))) (eC (.int 2147483647))))
noncomputable def K__law_fresh_2 : SEnv → Option Out :=
  (sAsg 3 (eBin addD (eVar 3) (eIx (eVar 2) (eBin modD (eBin divD (eVar 0) (eC (.int 17))) (eC (.int 26))))))
noncomputable def L__law_fresh_1 : SEnv → Option Out :=
  (sWipeB [4] (sSeq K__law_fresh_1
  K__law_fresh_2))
noncomputable def K__law_fresh_3 : SEnv → Option Out :=
  (sAsg 2 (eC (.str "abcdefghijklmnopqrstuvwxyz")))
noncomputable def K__law_fresh_4 : SEnv → Option Out :=
  (sWipeB [0] (sFor (rg1 (aCons (eVar 1) aNil)) (gPut 4)
  L__law_fresh_1))
noncomputable def B__law_fresh : SEnv → Option Out :=
  (sSeq K__law_fresh_3
  (sSeq (sAsg 3 (eC (.str "")))
  (sSeq K__law_fresh_4
  (sRet (eVar 3)))))
abbrev ev__law_fresh (number_ : Sl := .un) (size_ : Sl := .un) (letters_ : Sl := .un) (name_ : Sl := .un) (k_ : Sl := .un) : SEnv := [number_, size_, letters_, name_, k_]
theorem X__law_fresh : ∃ f : Fn, f = fnD 5 2 B__law_fresh := ⟨_, rfl⟩
noncomputable def F__law_fresh : Fn := Classical.choose X__law_fresh
theorem F__law_fresh_eq : F__law_fresh = fnD 5 2 B__law_fresh := Classical.choose_spec X__law_fresh
theorem F__law_fresh_rt {a0 a1 s : Sl} (h : B__law_fresh (ev__law_fresh a0 a1) = some (.rt s)) : F__law_fresh [a0, a1] = some (.ret s) := by rw [F__law_fresh_eq]; exact fnD_rt rfl h
theorem F__law_fresh_nx {a0 a1 : Sl} {ρ : SEnv} (h : B__law_fresh (ev__law_fresh a0 a1) = some (.nx ρ)) : F__law_fresh [a0, a1] = some (.ret (.pl .none)) := by rw [F__law_fresh_eq]; exact fnD_nx rfl h
noncomputable def K__law_names_1 : SEnv → Option Out :=
  (sAsg 10 (eIx (eVar 2) (eBin modD (eBin addD (eIx (eVar 4) (eC (.int 21))) (eBin mulD (eVar 8) (eIx (eLst (dCons (eC (.int 1)) (dCons (eC (.int 3)) (dCons (eC (.int 5)) (dCons (eC (.int 7)) (dCons (eC (.int 9)) (dCons (eC (.int 11)) dNil))))))) (eBin modD (eIx (eVar 4) (eC (.int 22))) (eC (.int 6)))))) (eC (.int 26)))))
noncomputable def K__law_names_2 : SEnv → Option Out :=
  (sAsg 9 (eBin addD (eBin addD (eSl (eVar 5) oNone (oSome (eVar 6))) (eVar 10)) (eSl (eVar 5) (oSome (eBin addD (eVar 6) (eC (.int 1)))) oNone)))
noncomputable def K__law_names_3 : SEnv → Option Out :=
  (sAsg 9 (eCall F__law_fresh (aCons (eIx (eVar 4) (eBin addD (eC (.int 3)) (eVar 8))) (aCons (eBin addD (eC (.int 1)) (eBin modD (eBin divD (eIx (eVar 4) (eBin addD (eC (.int 4)) (eVar 8))) (eC (.int 5))) (eC (.int 12)))) aNil))))
noncomputable def K__law_names_4 : SEnv → Option Out :=
  (sWipeB [10] (sIf (tCmp2 ltD (eBin modD (eIx (eVar 4) (eC (.int 20))) (eC (.int 4))) (eC (.int 2))) (sSeq K__law_names_1
  K__law_names_2) sNext))
noncomputable def K__law_names_5 : SEnv → Option Out :=
  (sIf (tCmp2 eqD (eBin modD (eIx (eVar 4) (eC (.int 20))) (eC (.int 4))) (eC (.int 2))) (sAsg 9 (eIx (eVar 3) (eBin modD (eBin addD (eIx (eVar 4) (eC (.int 23))) (eBin mulD (eC (.int 3)) (eVar 8))) (eC (.int 16))))) sNext)
noncomputable def K__law_names_6 : SEnv → Option Out :=
  (sIf (tInS false (eVar 9) (eTup (dCons (eC (.str "always")) (dCons (eC (.str "where")) (dCons (eC (.str "usually")) (dCons (eC (.str "not")) (dCons (eC (.str "and")) (dCons (eC (.str "or")) dNil)))))))) (sAsg 9 (eBin addD (eVar 9) (eC (.str "a")))) sNext)
noncomputable def K__law_names_7 : SEnv → Option Out :=
  (sIf (tInS true (eVar 9) (eVar 7)) (sApp 7 (eVar 9)) sNext)
noncomputable def L__law_names_1 : SEnv → Option Out :=
  (sWipeB [8, 9, 10] (sSeq K__law_names_3
  (sSeq K__law_names_4
  (sSeq K__law_names_5
  (sSeq K__law_names_6
  K__law_names_7)))))
noncomputable def K__law_names_8 : SEnv → Option Out :=
  (sAsg 2 (eC (.str "abcdefghijklmnopqrstuvwxyz")))
noncomputable def K__law_names_9 : SEnv → Option Out :=
  (sAsg 3 (eLst (dCons (eC (.str "nota")) (dCons (eC (.str "no")) (dCons (eC (.str "ot")) (dCons (eC (.str "an")) (dCons (eC (.str "nd")) (dCons (eC (.str "ands")) (dCons (eC (.str "o")) (dCons (eC (.str "r")) (dCons (eC (.str "orr")) (dCons (eC (.str "alway")) (dCons (eC (.str "wher")) (dCons (eC (.str "usual")) (dCons (eC (.str "notnot")) (dCons (eC (.str "ask")) dNil))))))))))))))))
noncomputable def K__law_names_10 : SEnv → Option Out :=
  (sAsg 3 (eCat (eVar 3) (eLst (dCons (eC (.str "is")) (dCons (eC (.str "tell")) dNil)))))
noncomputable def K__law_names_11 : SEnv → Option Out :=
  (sAsg 4 (eCall F__law_draws (aCons (eVar 0) (aCons (eC (.int 26)) aNil))))
noncomputable def K__law_names_12 : SEnv → Option Out :=
  (sAsg 5 (eCall F__law_fresh (aCons (eIx (eVar 4) (eC (.int 0))) (aCons (eBin addD (eC (.int 1)) (eBin modD (eIx (eVar 4) (eC (.int 1))) (eC (.int 12)))) aNil))))
noncomputable def K__law_names_13 : SEnv → Option Out :=
  (sAsg 6 (eBin modD (eIx (eVar 4) (eC (.int 2))) (eBui lenF (aCons (eVar 5) aNil))))
noncomputable def K__law_names_14 : SEnv → Option Out :=
  (sFor (rg1 (aCons (eVar 1) aNil)) (gPut 8)
  L__law_names_1)
noncomputable def B__law_names : SEnv → Option Out :=
  (sSeq K__law_names_8
  (sSeq K__law_names_9
  (sSeq K__law_names_10
  (sSeq K__law_names_11
  (sSeq K__law_names_12
  (sSeq K__law_names_13
  (sSeq (sAsg 7 (eLst dNil))
  (sSeq K__law_names_14
  (sRetVar 7)))))))))
abbrev ev__law_names (cell_ : Sl := .un) (size_ : Sl := .un) (letters_ : Sl := .un) (some_ : Sl := .un) (drawn_ : Sl := .un) (base_ : Sl := .un) (at_ : Sl := .un) (names_ : Sl := .un) (k_ : Sl := .un) (name_ : Sl := .un) (sign_ : Sl := .un) : SEnv := [cell_, size_, letters_, some_, drawn_, base_, at_, names_, k_, name_, sign_]
theorem X__law_names : ∃ f : Fn, f = fnD 11 2 B__law_names := ⟨_, rfl⟩
noncomputable def F__law_names : Fn := Classical.choose X__law_names
theorem F__law_names_eq : F__law_names = fnD 11 2 B__law_names := Classical.choose_spec X__law_names
theorem F__law_names_rt {a0 a1 s : Sl} (h : B__law_names (ev__law_names a0 a1) = some (.rt s)) : F__law_names [a0, a1] = some (.ret s) := by rw [F__law_names_eq]; exact fnD_rt rfl h
theorem F__law_names_nx {a0 a1 : Sl} {ρ : SEnv} (h : B__law_names (ev__law_names a0 a1) = some (.nx ρ)) : F__law_names [a0, a1] = some (.ret (.pl .none)) := by rw [F__law_names_eq]; exact fnD_nx rfl h
noncomputable def B__law_text (Fr : Fn) : SEnv → Option Out :=
  (sSeq (sIf (tCmp2 eqD (eIx (eVar 0) (eC (.int 0))) (eC (.str "is"))) (sRet (eIx (eVar 0) (eC (.int 1)))) sNext)
  (sSeq (sIf (tCmp2 eqD (eIx (eVar 0) (eC (.int 0))) (eC (.str "not"))) (sRet (eBin addD (eC (.str "not ")) (eCall Fr (aCons (eIx (eVar 0) (eC (.int 1))) (aCons (eC (.int 3)) aNil))))) sNext)
  (sSeq (sAsg 2 (eC (.int 1)))
  (sSeq (sAsg 3 (eC (.str " or ")))
  (sSeq (sIf (tCmp2 eqD (eIx (eVar 0) (eC (.int 0))) (eC (.str "and"))) (sSeq (sAsg 2 (eC (.int 2)))
  (sAsg 3 (eC (.str " and ")))) sNext)
  (sSeq (sAsg 4 (eBin addD (eBin addD (eCall Fr (aCons (eIx (eVar 0) (eC (.int 1))) (aCons (eVar 2) aNil))) (eVar 3)) (eCall Fr (aCons (eIx (eVar 0) (eC (.int 2))) (aCons (eBin addD (eVar 2) (eC (.int 1))) aNil)))))
  (sSeq (sIf (tCmp2 ltD (eVar 2) (eVar 1)) (sRet (eBin addD (eBin addD (eC (.str "(")) (eVar 4)) (eC (.str ")")))) sNext)
  (sRet (eVar 4)))))))))
abbrev ev__law_text (tree_ : Sl := .un) (under_ : Sl := .un) (level_ : Sl := .un) (word_ : Sl := .un) (text_ : Sl := .un) : SEnv := [tree_, under_, level_, word_, text_]
theorem X__law_text : ∃ R : Nat → Fn, R 0 = fnD 5 2 sStk ∧ ∀ n, R (n + 1) = fnD 5 2 (B__law_text (R n)) := ⟨fun n => Nat.rec (fnD 5 2 sStk) (fun _ F => fnD 5 2 (B__law_text F)) n, rfl, fun _ => rfl⟩
noncomputable def R__law_text : Nat → Fn := Classical.choose X__law_text
theorem R__law_text_0 : R__law_text 0 = fnD 5 2 sStk := (Classical.choose_spec X__law_text).1
theorem R__law_text_s (n : Nat) : R__law_text (n + 1) = fnD 5 2 (B__law_text (R__law_text n)) := (Classical.choose_spec X__law_text).2 n
noncomputable def F__law_text : Fn := R__law_text 64
theorem R__law_text_rt {n : Nat} {a0 a1 s : Sl} (h : B__law_text (R__law_text n) (ev__law_text a0 a1) = some (.rt s)) : R__law_text (n + 1) [a0, a1] = some (.ret s) := by rw [R__law_text_s]; exact fnD_rt rfl h
noncomputable def K__law_grown_1 : SEnv → Option Out :=
  (sAsg 3 (eCall F__law_draws (aCons (eVar 1) (aCons (eC (.int 6)) aNil))))
noncomputable def K__law_grown_2 : SEnv → Option Out :=
  (sAsg 4 (eIx (eVar 0) (eUn (uF fun i => -i) (eC (.int 1)))))
noncomputable def K__law_grown_3 : SEnv → Option Out :=
  (sIf (tCmp2 eqD (eBin modD (eIx (eVar 3) (eC (.int 0))) (eC (.int 3))) (eC (.int 0))) (sAsg 4 (eIx (eVar 0) (eBin modD (eIx (eVar 3) (eC (.int 1))) (eBui lenF (aCons (eVar 0) aNil))))) sNext)
noncomputable def K__law_grown_4 : SEnv → Option Out :=
  (sAsg 5 (eTup (dCons (eTup (dCons (eC (.str "is")) (dCons (eIx (eVar 2) (eBin modD (eIx (eVar 3) (eC (.int 2))) (eBui lenF (aCons (eVar 2) aNil)))) dNil))) (dCons (eC (.int 1)) (dCons (eC (.int 1)) dNil)))))
noncomputable def K__law_grown_5 : SEnv → Option Out :=
  (sIf (tCmp2 eqD (eBin modD (eIx (eVar 3) (eC (.int 3))) (eC (.int 2))) (eC (.int 0))) (sAsg 5 (eIx (eVar 0) (eBin modD (eIx (eVar 3) (eC (.int 4))) (eBui lenF (aCons (eVar 0) aNil))))) sNext)
noncomputable def K__law_grown_6 : SEnv → Option Out :=
  (sAsg 6 (eIx (eLst (dCons (eC (.str "not")) (dCons (eC (.str "and")) (dCons (eC (.str "or")) (dCons (eC (.str "and")) (dCons (eC (.str "or")) (dCons (eC (.str "is")) dNil))))))) (eBin modD (eIx (eVar 3) (eC (.int 5))) (eC (.int 6)))))
noncomputable def K__law_grown_7 : SEnv → Option Out :=
  (sIf (tCmp2 eqD (eVar 6) (eC (.str "is"))) (sRet (eVar 5)) sNext)
noncomputable def K__law_grown_8 : SEnv → Option Out :=
  (sIf (tCmp2 eqD (eVar 6) (eC (.str "not"))) (sRet (eTup (dCons (eTup (dCons (eC (.str "not")) (dCons (eIx (eVar 4) (eC (.int 0))) dNil))) (dCons (eBin addD (eIx (eVar 4) (eC (.int 1))) (eC (.int 1))) (dCons (eBin addD (eIx (eVar 4) (eC (.int 2))) (eC (.int 1))) dNil))))) sNext)
noncomputable def K__law_grown_9 : SEnv → Option Out :=
  (sIf (tCmp2 eqD (eBin modD (eBin divD (eIx (eVar 3) (eC (.int 0))) (eC (.int 3))) (eC (.int 2))) (eC (.int 0))) (sPar 4 5 (eVar 5) (eVar 4)) sNext)
noncomputable def K__law_grown_10 : SEnv → Option Out :=
  (sRet (eTup (dCons (eTup (dCons (eVar 6) (dCons (eIx (eVar 4) (eC (.int 0))) (dCons (eIx (eVar 5) (eC (.int 0))) dNil)))) (dCons (eBin addD (eBin addD (eIx (eVar 4) (eC (.int 1))) (eIx (eVar 5) (eC (.int 1)))) (eC (.int 1))) (dCons (eBin addD (eBui max2F (aCons (eIx (eVar 4) (eC (.int 2))) (aCons (eIx (eVar 5) (eC (.int 2))) aNil))) (eC (.int 1))) dNil)))))
noncomputable def B__law_grown : SEnv → Option Out :=
  (sSeq K__law_grown_1
  (sSeq K__law_grown_2
  (sSeq K__law_grown_3
  (sSeq K__law_grown_4
  (sSeq K__law_grown_5
  (sSeq K__law_grown_6
  (sSeq K__law_grown_7
  (sSeq K__law_grown_8
  (sSeq K__law_grown_9
  K__law_grown_10)))))))))
abbrev ev__law_grown (pool_ : Sl := .un) (cell_ : Sl := .un) (names_ : Sl := .un) (drawn_ : Sl := .un) (one_ : Sl := .un) (other_ : Sl := .un) (kind_ : Sl := .un) : SEnv := [pool_, cell_, names_, drawn_, one_, other_, kind_]
theorem X__law_grown : ∃ f : Fn, f = fnD 7 3 B__law_grown := ⟨_, rfl⟩
noncomputable def F__law_grown : Fn := Classical.choose X__law_grown
theorem F__law_grown_eq : F__law_grown = fnD 7 3 B__law_grown := Classical.choose_spec X__law_grown
theorem F__law_grown_rt {a0 a1 a2 s : Sl} (h : B__law_grown (ev__law_grown a0 a1 a2) = some (.rt s)) : F__law_grown [a0, a1, a2] = some (.ret s) := by rw [F__law_grown_eq]; exact fnD_rt rfl h
theorem F__law_grown_nx {a0 a1 a2 : Sl} {ρ : SEnv} (h : B__law_grown (ev__law_grown a0 a1 a2) = some (.nx ρ)) : F__law_grown [a0, a1, a2] = some (.ret (.pl .none)) := by rw [F__law_grown_eq]; exact fnD_nx rfl h
noncomputable def B__law_same (Fr : Fn) : SEnv → Option Out :=
  (sSeq (sIf (tTru (eIsi "str" (eVar 1))) (sRet (eAnd (eIsi "str" (eVar 0)) (eB (tCmp2 eqD (eVar 0) (eVar 1))))) sNext)
  (sSeq (sIf (tOr2 (tNot1 (tTru (eIsi "tuple" (eVar 0)))) (tCmp2 neD (eBui lenF (aCons (eVar 0) aNil)) (eBui lenF (aCons (eVar 1) aNil)))) (sRet (eC (.bool false))) sNext)
  (sSeq (sFor (rg1 (aCons (eBui lenF (aCons (eVar 1) aNil)) aNil)) (gPut 2)
  (sWipeB [2] (sIf (tNot1 (tTru (eCall Fr (aCons (eIx (eVar 0) (eVar 2)) (aCons (eIx (eVar 1) (eVar 2)) aNil))))) (sRet (eC (.bool false))) sNext)))
  (sRet (eC (.bool true))))))
abbrev ev__law_same (found_ : Sl := .un) (due_ : Sl := .un) (k_ : Sl := .un) : SEnv := [found_, due_, k_]
theorem X__law_same : ∃ R : Nat → Fn, R 0 = fnD 3 2 sStk ∧ ∀ n, R (n + 1) = fnD 3 2 (B__law_same (R n)) := ⟨fun n => Nat.rec (fnD 3 2 sStk) (fun _ F => fnD 3 2 (B__law_same F)) n, rfl, fun _ => rfl⟩
noncomputable def R__law_same : Nat → Fn := Classical.choose X__law_same
theorem R__law_same_0 : R__law_same 0 = fnD 3 2 sStk := (Classical.choose_spec X__law_same).1
theorem R__law_same_s (n : Nat) : R__law_same (n + 1) = fnD 3 2 (B__law_same (R__law_same n)) := (Classical.choose_spec X__law_same).2 n
noncomputable def F__law_same : Fn := R__law_same 64
theorem R__law_same_rt {n : Nat} {a0 a1 s : Sl} (h : B__law_same (R__law_same n) (ev__law_same a0 a1) = some (.rt s)) : R__law_same (n + 1) [a0, a1] = some (.ret s) := by rw [R__law_same_s]; exact fnD_rt rfl h
noncomputable def K__law_read_again_1 : SEnv → Option Out :=
  (sIf (tCmp2 eqD (eBin modD (eVar 1) (eC (.int 2))) (eC (.int 0))) (sAsg 3 (eCall F_read_sentence (aDef [.pl (.int 0)] (aCons (eVar 0) aNil)))) (sAsg 3 (eCall F_read_sentence (aCons (eVar 0) (aCons (eVar 1) aNil)))))
noncomputable def K__law_read_again_2 : SEnv → Option Out :=
  (sRet (eCall F__law_same (aCons (eVar 3) (aCons (eVar 2) aNil))))
noncomputable def B__law_read_again : SEnv → Option Out :=
  (sSeq (sAsg 3 (eC .none))
  (sSeq K__law_read_again_1
  K__law_read_again_2))
abbrev ev__law_read_again (text_ : Sl := .un) (number_ : Sl := .un) (due_ : Sl := .un) (found_ : Sl := .un) : SEnv := [text_, number_, due_, found_]
theorem X__law_read_again : ∃ f : Fn, f = fnD 4 3 B__law_read_again := ⟨_, rfl⟩
noncomputable def F__law_read_again : Fn := Classical.choose X__law_read_again
theorem F__law_read_again_eq : F__law_read_again = fnD 4 3 B__law_read_again := Classical.choose_spec X__law_read_again
theorem F__law_read_again_rt {a0 a1 a2 s : Sl} (h : B__law_read_again (ev__law_read_again a0 a1 a2) = some (.rt s)) : F__law_read_again [a0, a1, a2] = some (.ret s) := by rw [F__law_read_again_eq]; exact fnD_rt rfl h
theorem F__law_read_again_nx {a0 a1 a2 : Sl} {ρ : SEnv} (h : B__law_read_again (ev__law_read_again a0 a1 a2) = some (.nx ρ)) : F__law_read_again [a0, a1, a2] = some (.ret (.pl .none)) := by rw [F__law_read_again_eq]; exact fnD_nx rfl h
noncomputable def K_law_1 : SEnv → Option Out :=
  (sAsg 5 (eCall F__law_text (aCons (eIx (eVar 4) (eC (.int 0))) (aCons (eC (.int 1)) aNil))))
noncomputable def K_law_2 : SEnv → Option Out :=
  (sAsg 6 (eCall F_shown_sentence (aCons (eIx (eVar 4) (eC (.int 0))) aNil)))
noncomputable def K_law_3 : SEnv → Option Out :=
  (sIf (tOr2 (tNot1 (tTru (eIsi "str" (eVar 6)))) (tCmp2 neD (eVar 6) (eVar 5))) (sRet (eC (.bool false))) sNext)
noncomputable def K_law_4 : SEnv → Option Out :=
  (sIf (tAnd2 (tCmp2 leD (eBui lenF (aCons (eVar 5) aNil)) (eC (.int 120))) (tNot1 (tTru (eCall F__law_read_again (aCons (eVar 5) (aCons (eBui lenF (aCons (eVar 2) aNil)) (aCons (eIx (eVar 4) (eC (.int 0))) aNil))))))) (sRet (eC (.bool false))) sNext)
noncomputable def K_law_5 : SEnv → Option Out :=
  (sAsg 4 (eCall F__law_grown (aCons (eVar 2) (aCons (eVar 3) (aCons (eVar 1) aNil)))))
noncomputable def K_law_6 : SEnv → Option Out :=
  (sWipeB [5, 6] (sIf (tAnd2 (tCmp2 leD (eIx (eVar 4) (eC (.int 1))) (eC (.int 120))) (tCmp2 leD (eIx (eVar 4) (eC (.int 2))) (eC (.int 40)))) (sSeq (sApp 2 (eVar 4))
  (sSeq K_law_1
  (sSeq K_law_2
  (sSeq K_law_3
  K_law_4)))) sNext))
noncomputable def L_law_1 : SEnv → Option Out :=
  (sWipeB [3, 4, 5, 6] (sSeq K_law_5
  K_law_6))
noncomputable def K_law_7 : SEnv → Option Out :=
  (sAsg 1 (eCall F__law_names (aCons (eCall F__law_cell_at (aCons (eVar 0) (aCons (eC (.int 0)) aNil))) (aCons (eC (.int 6)) aNil))))
noncomputable def K_law_8 : SEnv → Option Out :=
  (sAsg 2 (eLst (dCons (eTup (dCons (eTup (dCons (eC (.str "is")) (dCons (eIx (eVar 1) (eC (.int 0))) dNil))) (dCons (eC (.int 1)) (dCons (eC (.int 1)) dNil)))) dNil)))
noncomputable def K_law_9 : SEnv → Option Out :=
  (sFor (eSrc lsrc (eCat (eLst (dCons (eC (.int 0)) dNil)) (eSl (eVar 0) (oSome (eC (.int 1))) (oSome (eC (.int 41)))))) (gPut 3)
  L_law_1)
noncomputable def K_law_10 : SEnv → Option Out :=
  (sRet (eC (.bool true)))
noncomputable def B_law : SEnv → Option Out :=
  (sSeq K_law_7
  (sSeq K_law_8
  (sSeq K_law_9
  K_law_10)))
abbrev ev_law (script_ : Sl := .un) (names_ : Sl := .un) (pool_ : Sl := .un) (cell_ : Sl := .un) (new_ : Sl := .un) (text_ : Sl := .un) (shown_ : Sl := .un) : SEnv := [script_, names_, pool_, cell_, new_, text_, shown_]
theorem X_law : ∃ f : Fn, f = fnD 7 1 B_law := ⟨_, rfl⟩
noncomputable def F_law : Fn := Classical.choose X_law
theorem F_law_eq : F_law = fnD 7 1 B_law := Classical.choose_spec X_law
theorem F_law_rt {a0 s : Sl} (h : B_law (ev_law a0) = some (.rt s)) : F_law [a0] = some (.ret s) := by rw [F_law_eq]; exact fnD_rt rfl h
theorem F_law_nx {a0 : Sl} {ρ : SEnv} (h : B_law (ev_law a0) = some (.nx ρ)) : F_law [a0] = some (.ret (.pl .none)) := by rw [F_law_eq]; exact fnD_nx rfl h
theorem mapI_const {α : Type} : ∀ (xs : List α) (i : Nat), mapI (fun k (_ : α) => nD k) i xs = mapI (fun k (_ : Unit) => nD k) i (List.replicate xs.length ())
  | [], _ => rfl
  | x :: xs, i => by
    show nD i :: mapI _ (i + 1) xs = nD i :: mapI _ (i + 1) (List.replicate xs.length ())
    rw [mapI_const xs (i + 1)]
theorem mapI_rg {α : Type} (xs : List α) : mapI (fun k (_ : α) => nD k) 0 xs = (List.range xs.length).map nD := by
  rw [mapI_const, ← rgD0_nD]
  exact (rgD0_range _).symm
def minO : List Int → Option Int
  | [] => none
  | a :: l => some (minL a l)
theorem minO_ok (l : List Int) : IsLeast (fun x => x ∈ l) (minO l) := by
  cases l with
  | nil => exact fun x h => nomatch h
  | cons a l =>
    refine ⟨?_, fun y hy => ?_⟩
    · rcases minL_mem l a with e | e
      · rw [e]; exact List.mem_cons_self ..
      · exact List.mem_cons_of_mem _ e
    · rcases List.mem_cons.mp hy with e | e
      · rw [e]; exact (minL_le l a).1
      · exact (minL_le l a).2 y e
theorem least_uniq {P : Int → Prop} {a b : Option Int} (h : IsLeast P a) (h' : IsLeast P b) : a = b := by
  cases a with
  | none => cases b with
    | none => rfl
    | some y => exact absurd h'.1 (h y)
  | some x => cases b with
    | none => exact absurd h.1 (h' x)
    | some y =>
      have := h.2 y h'.1
      have := h'.2 x h.1
      congr 1
      omega
theorem mapI_enc {α : Type} (enc : α → D) : ∀ (xs : List α) (i : Nat), mapI (fun _ x => enc x) i xs = xs.map enc
  | [], _ => rfl
  | x :: xs, i => by
    show enc x :: mapI _ (i + 1) xs = enc x :: xs.map enc
    rw [mapI_enc enc xs (i + 1)]
theorem toD_own (ds : List D) : toD (.own ds) = some (.list ds) := rfl
theorem slD_own (ds : List D) (lo hi : Option Int) : slD (.own ds) lo hi = some (.own (DL.cutD ds lo hi)) := rfl
theorem sApp_own {j : Nat} {f : SEnv → Option Sl} {ρ : SEnv} {ds : List D} {s : Sl} {d : D} (h1 : get ρ j = .own ds) (h2 : f ρ = some s) (h3 : toD s = some d) (hl : ds.length < 100000) : sApp j f ρ = some (.nx (put ρ j (.own (ds ++ [d])))) := by
  unfold sApp
  rw [h1, h2, opt_bind_some, h3]
  simp only [if_pos hl]

--#
/-! plain texts -/
open TL
theorem lenF_str {s : Str} (h : s.length ≤ 16777216) : lenF [.pl (.str s)] = some (.pl (.int (s.length : Nat))) := if_pos h
def Pt (s : Str) (n : Nat) : Prop := s.length ≤ n ∧ ∀ c ∈ tl s, c < 128
theorem Pt.mono {s : Str} {m n : Nat} (h : Pt s m) (hn : m ≤ n) : Pt s n := ⟨Nat.le_trans h.1 hn, h.2⟩
theorem len_app (a b : Str) : (a ++ b).length = a.length + b.length := by rw [len_tl, tl_append, List.length_append, ← len_tl, ← len_tl]
theorem pt_app {a b : Str} {m n : Nat} (h : Pt a m) (h' : Pt b n) : Pt (a ++ b) (m + n) := by
  refine ⟨by rw [len_app]; have := h.1; have := h'.1; omega, fun c hc => ?_⟩
  rw [tl_append] at hc
  exact (List.mem_append.mp hc).elim (h.2 c) (h'.2 c)
theorem tl_cut (z : Str) (lo hi : Option Int) : tl (L2.cutS z lo hi) = ((tl z).drop (HT.sIx z.length 0 lo)).take (HT.sIx z.length z.length hi - HT.sIx z.length 0 lo) := rfl
theorem pt_cut {z : Str} {n : Nat} (h : Pt z n) (lo hi : Option Int) : Pt (L2.cutS z lo hi) n :=
  ⟨Nat.le_trans (cutS_length z lo hi) h.1, fun c hc => h.2 c (List.mem_of_mem_drop (List.mem_of_mem_take (by rw [tl_cut] at hc; exact hc)))⟩
theorem shD_pt {s : Str} {n : Nat} (h : Pt s n) : ShD 0 (.str s) := shD_str (by
  show (s.cps.all fun c => decide (c < 0x110000)) = true
  rw [← Array.all_toList, List.all_eq_true]
  exact fun c hc => decide_eq_true (Nat.lt_trans (h.2 c hc) (by decide)))
theorem eqv_str (a b : Str) : PyData.eqv (.str a) (.str b) = decide (a = b) := by
  show (a == b) = _
  by_cases c : a = b
  · rw [decide_eq_true c, c, beq_self_eq_true]
  · rw [decide_eq_false c]; exact beq_eq_false_iff_ne.mpr c
theorem eqD_strs {l m : List Str} {n : Nat} (hl : ∀ s ∈ l, Pt s n) (hm : ∀ s ∈ m, Pt s n) : eqD (.list (l.map .str)) (.list (m.map .str)) = some (decide (l = m)) := by
  rw [eqD_g rfl ((shD_list (n := 0) fun d hd => ?_).shaped (by decide)) ((shD_list (n := 0) fun d hd => ?_).shaped (by decide))]
  · show some (PyData.eqvAll _ _) = _
    rw [eqvAll_map _ eqv_str]
  · obtain ⟨i, hi, rfl⟩ := List.mem_map.mp hd; exact shD_pt (hl i hi)
  · obtain ⟨i, hi, rfl⟩ := List.mem_map.mp hd; exact shD_pt (hm i hi)
theorem neD_strs {l m : List Str} {n : Nat} (hl : ∀ s ∈ l, Pt s n) (hm : ∀ s ∈ m, Pt s n) : neD (.list (l.map .str)) (.list (m.map .str)) = some (!decide (l = m)) := by
  unfold neD
  rw [eqD_strs hl hm]
  rfl
def abcS : Str := "abcdefghijklmnopqrstuvwxyz"
theorem abc_len : abcS.length = 26 := by decide +kernel
theorem abc_pt : ∀ c ∈ tl abcS, c < 128 := by decide +kernel
/-- one letter -/
theorem letter {i : Int} (h0 : 0 ≤ i) (h1 : i < 26) : ∃ c : Str, c.length = 1 ∧ Pt c 1 ∧ (∃ n ∈ tl abcS, tl c = [n]) ∧ ixD (.pl (.str "abcdefghijklmnopqrstuvwxyz")) (.int i) = some (.str c) := by
  have hl : (tl abcS).length = 26 := by rw [← len_tl]; exact abc_len
  have hi : i.toNat < (tl abcS).length := by omega
  refine ⟨⟨#[(tl abcS)[i.toNat]]⟩, rfl, ⟨Nat.le_refl 1, fun c hc => ?_⟩, ⟨_, List.getElem_mem hi, rfl⟩, ?_⟩
  · rw [List.mem_singleton.mp (show c ∈ [(tl abcS)[i.toNat]] from hc)]
    exact abc_pt _ (List.getElem_mem hi)
  · show (if abcS.length ≤ 16777216 then (atI (tl abcS) i).map fun c => PyData.str ⟨#[c]⟩ else none) = _
    rw [if_pos (by rw [abc_len]; decide), atI_lt h0 (by omega), List.getElem?_eq_getElem hi]
    rfl
/-- a name in some list of texts -/
theorem inF_strs (neg : Bool) (d : Str) (l : List Str) : inFn neg (.str d) (l.map .str) = some (decide (d ∈ l) != neg) := by
  unfold inFn
  rw [if_pos ⟨rfl, by rw [List.all_eq_true]; intro x hx; obtain ⟨s, _, rfl⟩ := List.mem_map.mp hx; rfl⟩]
  have : ((l.map PyData.str).any fun y => eqF y (.str d)) = decide (d ∈ l) := by
    rw [List.any_map, Bool.eq_iff_iff, List.any_eq_true, decide_eq_true_iff]
    constructor
    · rintro ⟨x, hx, e⟩
      have e : (x == d) = true := e
      rw [← beq_iff_eq.mp e]; exact hx
    · exact fun h => ⟨d, h, show (d == d) = true from beq_self_eq_true d⟩
  rw [this]
theorem at_str (ns : List Str) {k : Nat} (h : k < ns.length) : atI (ns.map PyData.str) (k : Int) = some (.str (ns.getD k "")) := by
  rw [atI_map, atI_lt (by omega) (by omega), Int.toNat_natCast, List.getElem?_eq_getElem h]
  simp [List.getD, List.getElem?_eq_getElem h]
theorem mem_getD {ns : List Str} {k : Nat} (h : k < ns.length) : ns.getD k "" ∈ ns := by
  simp [List.getD, List.getElem?_eq_getElem h]
/-! one blank between -/
theorem joinL_one (S : List Nat) : ∀ ps : List (List Nat), ps ≠ [] → S ++ joinL S ps = (ps.map (S ++ ·)).flatten
  | [], h => absurd rfl h
  | [p], _ => by simp [joinL]
  | p :: q :: r, _ => by
    show S ++ (p ++ (S ++ joinL S (q :: r))) = _
    rw [joinL_one S (q :: r) (by simp)]
    simp
def trail (l : List Str) : Str := l.foldl (fun a n => a ++ " " ++ n) ""
theorem trail_app (l : List Str) (x : Str) : trail (l ++ [x]) = trail l ++ " " ++ x := by
  unfold trail
  rw [List.foldl_append]
  rfl
theorem tl_blank : tl (" " : Str) = [32] := by decide +kernel
theorem tl_trail (l : List Str) : tl (trail l) = (l.map fun n => [32] ++ tl n).flatten := by
  have : ∀ (l : List Str) (a : Str), tl (l.foldl (fun a n => a ++ " " ++ n) a) = tl a ++ (l.map fun n => [32] ++ tl n).flatten := by
    intro l
    induction l with
    | nil => intro a; simp
    | cons x l ih =>
      intro a
      rw [List.foldl_cons, ih, tl_append, tl_append, tl_blank]
      simp
  have h := this l ""
  rw [show tl ("" : Str) = [] from by decide +kernel, List.nil_append] at h
  exact h
theorem trail_cut (l : List Str) : L2.cutS (trail l) (some 1) none = Txt.join " " l := by
  refine ext_tl ?_
  rw [join_eq, tl_join, tl_blank, tl_cut]
  have e : HT.sIx (trail l).length 0 (some 1) = min 1 (trail l).length := HT.sIx_nat _ _ 1
  rw [e, HT.sIx_none, len_tl, List.take_of_length_le (by rw [List.length_drop]; omega)]
  cases l with
  | nil => decide +kernel
  | cons x l =>
    have e2 := joinL_one [32] ((x :: l).map tl) (by simp)
    rw [List.map_map] at e2
    have e3 : tl (trail (x :: l)) = [32] ++ joinL [32] ((x :: l).map tl) := by rw [e2, tl_trail]; rfl
    rw [e3]
    simp
theorem pt_blank : Pt (" " : Str) 1 := ⟨by decide +kernel, by rw [tl_blank]; decide⟩
theorem pt_fold {n : Nat} : ∀ {l : List Str} {a : Str} {m : Nat}, Pt a m → (∀ s ∈ l, Pt s n) → Pt (l.foldl (fun a n => a ++ " " ++ n) a) (m + l.length * (n + 1))
  | [], a, m, h, _ => h.mono (by simp)
  | x :: l, a, m, h, hl => by
    rw [List.foldl_cons]
    refine (pt_fold (pt_app (pt_app h pt_blank) (hl x (List.mem_cons_self ..))) fun s hs => hl s (List.mem_cons_of_mem _ hs)).mono ?_
    rw [List.length_cons, Nat.add_mul, Nat.one_mul]
    omega
theorem pt_trail {n : Nat} {l : List Str} (h : ∀ s ∈ l, Pt s n) : Pt (trail l) (l.length * (n + 1)) := by
  have := pt_fold (a := "") (m := 0) ⟨by decide +kernel, fun c hc => by rw [show tl ("" : Str) = [] from by decide +kernel] at hc; cases hc⟩ h
  exact this.mono (by omega)
theorem pt_join {n : Nat} {l : List Str} (h : ∀ s ∈ l, Pt s n) : Pt (Txt.join " " l) (l.length * (n + 1)) := by
  rw [← trail_cut]
  exact pt_cut (pt_trail h) _ _
theorem sum_len {n : Nat} : ∀ {l : List Str}, (∀ s ∈ l, Pt s n) → (l.map (·.length)).sum ≤ l.length * n
  | [], _ => by simp
  | x :: l, h => by
    have h1 := (h x (List.mem_cons_self ..)).1
    have h2 := sum_len fun s hs => h s (List.mem_cons_of_mem _ hs)
    rw [List.map_cons, List.sum_cons, List.length_cons, Nat.add_mul]
    omega

--#
/-! sentences as trees -/
inductive Sen where
  | is (s : Str)
  | not (a : Sen)
  | con (a b : Sen)
  | dis (a b : Sen)
def senD : Sen → D
  | .is s => .tuple [.str "is", .str s]
  | .not a => .tuple [.str "not", senD a]
  | .con a b => .tuple [.str "and", senD a, senD b]
  | .dis a b => .tuple [.str "or", senD a, senD b]
def Sen.names : Sen → List Str
  | .is s => [s]
  | .not a => a.names
  | .con a b => a.names ++ b.names
  | .dis a b => a.names ++ b.names
def Sen.size : Sen → Nat
  | .is _ => 1
  | .not a => 1 + a.size
  | .con a b => 1 + a.size + b.size
  | .dis a b => 1 + a.size + b.size
def addK (ks : List Str) (s : Str) : List Str := if s ∈ ks then ks else ks ++ [s]
theorem mem_addK {ks : List Str} {s x : Str} : x ∈ addK ks s ↔ x ∈ ks ∨ x = s := by
  unfold addK
  split
  · rename_i h
    exact ⟨.inl, fun z => z.elim id fun e => e ▸ h⟩
  · rw [List.mem_append, List.mem_singleton]
theorem nodup_addK {ks : List Str} (h : ks.Nodup) (s : Str) : (addK ks s).Nodup := by
  unfold addK
  split
  · exact h
  · rename_i c
    rw [List.nodup_append]
    exact ⟨h, by simp, fun a ha b hb => by rw [List.mem_singleton.mp hb]; exact fun e => c (e ▸ ha)⟩
theorem len_addK (ks : List Str) (s : Str) : (addK ks s).length ≤ ks.length + 1 := by
  unfold addK
  split
  · omega
  · simp
theorem nodup_len {α : Type} : ∀ {l m : List α}, l.Nodup → (∀ a ∈ l, a ∈ m) → l.length ≤ m.length
  | [], _, _, _ => Nat.zero_le _
  | x :: l, m, h, hs => by
    obtain ⟨h1, h2⟩ := List.nodup_cons.mp h
    obtain ⟨m1, m2, rfl⟩ := List.append_of_mem (hs x (List.mem_cons_self ..))
    have := nodup_len (m := m1 ++ m2) h2 fun a ha => by
      have := hs a (List.mem_cons_of_mem _ ha)
      rw [List.mem_append, List.mem_cons] at this
      rw [List.mem_append]
      rcases this with z | z | z
      · exact .inl z
      · exact absurd (z ▸ ha) h1
      · exact .inr z
    simp only [List.length_append, List.length_cons] at this ⊢
    omega
theorem nodup_perm {α : Type} : ∀ {l m : List α}, l.Nodup → m.Nodup → (∀ a, a ∈ l ↔ a ∈ m) → l.Perm m
  | [], m, _, _, h => by
    cases m with
    | nil => exact .nil
    | cons x m => exact absurd ((h x).mpr (List.mem_cons_self ..)) (by simp)
  | x :: l, m, h, hm, hs => by
    obtain ⟨h1, h2⟩ := List.nodup_cons.mp h
    obtain ⟨m1, m2, rfl⟩ := List.append_of_mem ((hs x).mp (List.mem_cons_self ..))
    have pm : (m1 ++ x :: m2).Perm (x :: (m1 ++ m2)) := List.perm_middle
    have hm' := pm.nodup_iff.mp hm
    obtain ⟨h3, h4⟩ := List.nodup_cons.mp hm'
    refine (List.Perm.cons x (nodup_perm h2 h4 fun a => ?_)).trans pm.symm
    have e := hs a
    rw [pm.mem_iff, List.mem_cons, List.mem_cons] at e
    constructor
    · intro ha
      rcases e.mp (.inr ha) with z | z
      · exact absurd (z ▸ ha) h1
      · exact z
    · intro ha
      rcases e.mpr (.inr ha) with z | z
      · exact absurd (z ▸ ha) h3
      · exact z
def kvD (ks : List Str) : List (Key × D) := ks.map fun s => (Sum.inr s, PyData.bool true)
theorem put_kv (ks : List Str) (s : Str) : putD (kvD ks) (.inr s) (.bool true) = kvD (addK ks s) := by
  have any : ((kvD ks).any fun kv => decide (kv.1 = (Sum.inr s : Key))) = decide (s ∈ ks) := by
    unfold kvD
    rw [List.any_map, Bool.eq_iff_iff, List.any_eq_true, decide_eq_true_iff]
    constructor
    · rintro ⟨x, hx, e⟩
      have := Sum.inr.inj (of_decide_eq_true e)
      exact this ▸ hx
    · exact fun h => ⟨s, h, decide_eq_true rfl⟩
  unfold putD addK
  rw [any]
  by_cases c : s ∈ ks
  · rw [decide_eq_true c, if_pos rfl, if_pos c]
    unfold kvD
    rw [List.map_map]
    refine List.map_congr_left fun x _ => ?_
    show (if (Sum.inr x : Key) = Sum.inr s then _ else _) = _
    split <;> rfl
  · rw [decide_eq_false c, if_neg (by decide), if_neg c]
    unfold kvD
    rw [List.map_append]
    rfl
def szL (l : List Sen) : Nat := (l.map Sen.size).sum
theorem szL_app (l m : List Sen) : szL (l ++ m) = szL l + szL m := by unfold szL; rw [List.map_append, List.sum_append]
theorem size_pos (t : Sen) : 1 ≤ t.size := by cases t <;> simp only [Sen.size] <;> omega
theorem szL_len (l : List Sen) : l.length ≤ szL l := by
  induction l with
  | nil => exact Nat.le_refl 0
  | cons x l ih => have := size_pos x; unfold szL at ih ⊢; rw [List.map_cons, List.sum_cons, List.length_cons]; omega
theorem sortS_uniq_pw {l m : List Str} (h1 : m.Pairwise fun a b => leS a b = true) (h : m.Perm l) : m = sortS l := srt_uniq (le := fun a b => leS a b = true) (fun _ _ => leS_anti) h1 (sortS_srt l) (h.trans (sortS_perm l).symm)

def Sen.depth : Sen → Nat
  | .is _ => 1
  | .not a => 1 + a.depth
  | .con a b => 1 + max a.depth b.depth
  | .dis a b => 1 + max a.depth b.depth
theorem depth_pos (t : Sen) : 1 ≤ t.depth := by cases t <;> simp only [Sen.depth] <;> omega
/-- whether a sentence holds in a world -/
def Sen.ev (nm : List Str) (w : Int) : Sen → Bool
  | .is s => match nm.findIdx? (fun y => y == s) with
    | some j => bt w j
    | none => false
  | .not a => !a.ev nm w
  | .con a b => a.ev nm w && b.ev nm w
  | .dis a b => a.ev nm w || b.ev nm w
theorem find_mem {nm : List Str} {s : Str} (h : s ∈ nm) : ∃ j, nm.findIdx? (fun y => y == s) = some j ∧ j < nm.length ∧ nm.getD j "" = s := by
  cases q : nm.findIdx? (fun y => y == s) with
  | none =>
    have := List.findIdx?_eq_none_iff.mp q s h
    rw [beq_self_eq_true] at this
    cases this
  | some j =>
    obtain ⟨hj, hp, _⟩ := List.findIdx?_eq_some_iff_getElem.mp q
    exact ⟨j, rfl, hj, by rw [List.getD_eq_getElem?_getD, List.getElem?_eq_getElem hj]; exact beq_iff_eq.mp hp⟩
theorem at2s (a b : D) : atI [a, b] 0 = some a ∧ atI [a, b] 1 = some b := ⟨rfl, rfl⟩
theorem at3s (a b c : D) : atI [a, b, c] 0 = some a ∧ atI [a, b, c] 1 = some b ∧ atI [a, b, c] 2 = some c := ⟨rfl, rfl, rfl⟩
theorem wis : (("is" : Str) == "is") = true ∧ (("not" : Str) == "is") = false ∧ (("and" : Str) == "is") = false ∧ (("or" : Str) == "is") = false := by decide +kernel
theorem wnot : (("not" : Str) == "not") = true ∧ (("and" : Str) == "not") = false ∧ (("or" : Str) == "not") = false := by decide +kernel
theorem wand : (("and" : Str) == "and") = true ∧ (("or" : Str) == "and") = false := by decide +kernel

--#
/-! the parser, without texts: deeds that wait, sentences made; both from the top -/
inductive Dd where
  | par
  | nt
  | an
  | dj
  deriving DecidableEq
abbrev PSt := List Dd × List Sen
def topDd : Dd → List Sen → Option (List Sen)
  | .nt, x :: m => some (.not x :: m)
  | .an, x :: y :: m => some (.con y x :: m)
  | .dj, x :: y :: m => some (.dis y x :: m)
  | _, _ => none
def jw (p : Dd → Bool) : List Dd → List Sen → Option PSt
  | [], m => some ([], m)
  | d :: w, m => if p d then (topDd d m).bind (jw p w) else some (d :: w, m)
def pNt : Dd → Bool := fun d => decide (d = .nt)
def pAn : Dd → Bool := fun d => decide (d = .an)
def pAO : Dd → Bool := fun d => decide (d = .an ∨ d = .dj)
def close1 (s : PSt) : Option PSt := (jw pAO s.1 s.2).bind fun t => match t.1 with
  | [] => none
  | _ :: w => jw pNt w t.2
def closes : Nat → PSt → Option PSt
  | 0, s => some s
  | n + 1, s => (close1 s).bind (closes n)
inductive Pc where
  | nm (a : Nat) (s : Str) (b : Nat)
  | nt (a : Nat)
  | an
  | dj
def pars (a : Nat) (w : List Dd) : List Dd := List.replicate a .par ++ w
def tk : Bool → Pc → PSt → Option (Bool × PSt)
  | false, .an, s => (jw pAn s.1 s.2).map fun t => (true, .an :: t.1, t.2)
  | false, .dj, s => (jw pAO s.1 s.2).map fun t => (true, .dj :: t.1, t.2)
  | true, .nm a x b, s => ((jw pNt (pars a s.1) (.is x :: s.2)).bind (closes b)).map fun t => (false, t)
  | true, .nt a, s => some (true, .nt :: pars a s.1, s.2)
  | _, _, _ => none
def run : List Pc → Bool × PSt → Option (Bool × PSt)
  | [], s => some s
  | p :: r, s => (tk s.1 p s.2).bind (run r)
theorem run_app : ∀ (l m : List Pc) (s : Bool × PSt), run (l ++ m) s = (run l s).bind (run m)
  | [], m, s => rfl
  | p :: l, m, s => by
    show (tk s.1 p s.2).bind (run (l ++ m)) = ((tk s.1 p s.2).bind (run l)).bind (run m)
    cases tk s.1 p s.2 with
    | none => rfl
    | some t => exact run_app l m t
def more (c : Prop) [Decidable c] (n : Nat) : Nat := if c then n + 1 else n
def pcs : Sen → Nat → Nat → Nat → List Pc
  | .is s, _, a, b => [.nm a s b]
  | .not x, _, a, b => .nt a :: pcs x 3 0 b
  | .con x y, u, a, b => pcs x 2 (more (2 < u) a) 0 ++ .an :: pcs y 3 0 (more (2 < u) b)
  | .dis x y, u, a, b => pcs x 1 (more (1 < u) a) 0 ++ .dj :: pcs y 2 0 (more (1 < u) b)
/-- the state behind a sentence -/
def Eo : Sen → Nat → List Dd → List Sen → Option PSt
  | .con a b, u, w, m => if 2 < u then jw pNt w (.con a b :: m) else some (.an :: w, b :: a :: m)
  | .dis a b, u, w, m => if 1 < u then jw pNt w (.dis a b :: m) else match b with
    | .con b1 b2 => some (.an :: .dj :: w, b2 :: b1 :: a :: m)
    | _ => some (.dj :: w, b :: a :: m)
  | t, _, w, m => jw pNt w (t :: m)
def okTop (u : Nat) (w : List Dd) : Prop := ∀ d r, w = d :: r → (u = 1 → d = .par) ∧ (u = 2 → d = .par ∨ d = .dj)
theorem okTop_pars {u a : Nat} {w : List Dd} (h : a = 0 → okTop u w) : okTop u (pars a w) := by
  cases a with
  | zero => exact h rfl
  | succ a => intro d r e; cases e; exact ⟨fun _ => rfl, fun _ => .inl rfl⟩
theorem okTop_12 {w : List Dd} (h : okTop 1 w) : okTop 2 w := fun d r e => ⟨fun z => absurd z (by decide), fun _ => .inl ((h d r e).1 rfl)⟩
theorem jw_stop {p : Dd → Bool} {w : List Dd} {m : List Sen} (h : ∀ d r, w = d :: r → p d = false) : jw p w m = some (w, m) := by
  cases w with
  | nil => rfl
  | cons d r => unfold jw; rw [h d r rfl]; rfl
theorem jw_stop1 {p : Dd → Bool} {d : Dd} {w : List Dd} {m : List Sen} (h : p d = false) : jw p (d :: w) m = some (d :: w, m) := jw_stop fun _ _ e => by cases e; exact h
theorem jw_go {p : Dd → Bool} {d : Dd} {w : List Dd} {m m' : List Sen} (h : p d = true) (ht : topDd d m = some m') : jw p (d :: w) m = jw p w m' := by
  show (if p d then (topDd d m).bind (jw p w) else some (d :: w, m)) = _
  rw [h, if_pos rfl, ht]
  rfl
theorem Eo3 (t : Sen) (w : List Dd) (m : List Sen) : Eo t 3 w m = jw pNt w (t :: m) := by
  cases t <;> rfl
theorem nt_stop {w : List Dd} {m : List Sen} (h : okTop 2 w) : jw pNt w m = some (w, m) := jw_stop fun d r e => by
  rcases (h d r e).2 rfl with z | z <;> rw [z] <;> rfl
theorem E_and (t : Sen) {w : List Dd} (m : List Sen) (h : okTop 2 w) : ∃ s, Eo t 2 w m = some s ∧ jw pAn s.1 s.2 = some (w, t :: m) := by
  have st : ∀ m, jw pAn w m = some (w, m) := fun m => jw_stop fun d r e => by
    rcases (h d r e).2 rfl with z | z <;> rw [z] <;> rfl
  cases t with
  | is s => exact ⟨_, nt_stop h, st _⟩
  | not x => exact ⟨_, nt_stop h, st _⟩
  | con a b => exact ⟨(.an :: w, b :: a :: m), rfl, (jw_go rfl rfl).trans (st _)⟩
  | dis a b => exact ⟨_, nt_stop h, st _⟩
theorem ao_stop {w : List Dd} {m : List Sen} (h : okTop 1 w) : jw pAO w m = some (w, m) := jw_stop fun d r e => by rw [(h d r e).1 rfl]; rfl
theorem Eo_dis {a b : Sen} {w : List Dd} {m : List Sen} {u : Nat} (hu : ¬ 1 < u) : ∃ s, Eo (.dis a b) u w m = some s ∧ Eo b 2 (.dj :: w) (a :: m) = some s ∧ (.par ∈ s.1 → .par ∈ w) ∧ ∀ {r : Option PSt}, (∀ m', jw pAO w m' = some (w, m')) → jw pAO s.1 s.2 = some (w, .dis a b :: m) := by
  have ok : okTop 2 (.dj :: w) := fun d r e => by cases e; exact ⟨fun z => absurd z (by decide), fun _ => .inr rfl⟩
  cases b with
  | con b1 b2 => exact ⟨(.an :: .dj :: w, b2 :: b1 :: a :: m), if_neg hu, rfl, fun z => by simpa using z, fun st => (jw_go rfl rfl).trans ((jw_go rfl rfl).trans (st _))⟩
  | is s => exact ⟨(.dj :: w, .is s :: a :: m), if_neg hu, nt_stop ok, fun z => by simpa using z, fun st => (jw_go rfl rfl).trans (st _)⟩
  | not s => exact ⟨(.dj :: w, .not s :: a :: m), if_neg hu, nt_stop ok, fun z => by simpa using z, fun st => (jw_go rfl rfl).trans (st _)⟩
  | dis b1 b2 => exact ⟨(.dj :: w, .dis b1 b2 :: a :: m), if_neg hu, nt_stop ok, fun z => by simpa using z, fun st => (jw_go rfl rfl).trans (st _)⟩
theorem E_or (t : Sen) {w : List Dd} (m : List Sen) (h : okTop 1 w) : ∃ s, Eo t 1 w m = some s ∧ jw pAO s.1 s.2 = some (w, t :: m) ∧ (.par ∈ s.1 → .par ∈ w) := by
  cases t with
  | is s => exact ⟨_, nt_stop (okTop_12 h), ao_stop h, id⟩
  | not x => exact ⟨_, nt_stop (okTop_12 h), ao_stop h, id⟩
  | con a b => exact ⟨(.an :: w, b :: a :: m), rfl, (jw_go rfl rfl).trans (ao_stop h), fun z => by simpa using z⟩
  | dis a b =>
    obtain ⟨s, h1, _, h3, h4⟩ := Eo_dis (a := a) (b := b) (w := w) (m := m) (u := 1) (by decide)
    exact ⟨s, h1, h4 (r := none) fun _ => ao_stop h, h3⟩
theorem run_pcs : ∀ (t : Sen) (u a b : Nat) (w : List Dd) (m : List Sen), 1 ≤ u → u ≤ 3 → (a = 0 → okTop u w) → run (pcs t u a b) (true, w, m) = ((Eo t u (pars a w) m).bind (closes b)).map fun s => (false, s) := by
  intro t
  induction t with
  | is s =>
    intro u a b w m _ _ _
    show ((tk true (.nm a s b) (w, m)).bind (run [])) = _
    rw [show Eo (.is s) u (pars a w) m = jw pNt (pars a w) (.is s :: m) from rfl]
    show ((((jw pNt (pars a w) (.is s :: m)).bind (closes b)).map fun t => (false, t)).bind fun s => some s) = _
    cases (jw pNt (pars a w) (.is s :: m)).bind (closes b) <;> rfl
  | not x ih =>
    intro u a b w m _ _ _
    show run (pcs x 3 0 b) (true, .nt :: pars a w, m) = _
    rw [ih 3 0 b (.nt :: pars a w) m (by decide) (by decide) (fun _ d r e => ⟨fun z => absurd z (by decide), fun z => absurd z (by decide)⟩), Eo3, show pars 0 (Dd.nt :: pars a w) = .nt :: pars a w from rfl, jw_go (d := .nt) (m' := .not x :: m) rfl rfl]
    rfl
  | con x y ihx ihy =>
    intro u a b w m h1 h3 hc
    have key : ∀ (a' b' : Nat) (w1 : List Dd), pars a' w = w1 → okTop 2 w1 → (a' = 0 → okTop 2 w) → run (pcs x 2 a' 0 ++ .an :: pcs y 3 0 b') (true, w, m) = (closes b' (.an :: w1, y :: x :: m)).map fun s => (false, s) := by
      intro a' b' w1 e ok oka
      obtain ⟨s, e1, e2⟩ := E_and x m ok
      rw [run_app, ihx 2 a' 0 w m (by decide) (by decide) oka, e, e1]
      show ((jw pAn s.1 s.2).map fun t => (true, Dd.an :: t.1, t.2)).bind (run (pcs y 3 0 b')) = _
      rw [e2]
      show run (pcs y 3 0 b') (true, .an :: w1, x :: m) = _
      rw [ihy 3 0 b' (.an :: w1) (x :: m) (by decide) (by decide) (fun _ d r e => ⟨fun z => absurd z (by decide), fun z => absurd z (by decide)⟩), Eo3, show pars 0 (Dd.an :: w1) = .an :: w1 from rfl, jw_stop1 (d := .an) rfl]
      rfl
    by_cases c : 2 < u
    · have : u = 3 := by omega
      subst this
      show run (pcs x 2 (more (2 < 3) a) 0 ++ .an :: pcs y 3 0 (more (2 < 3) b)) (true, w, m) = _
      rw [show more (2 < 3) a = a + 1 from rfl, show more (2 < 3) b = b + 1 from rfl, key (a + 1) (b + 1) (pars (a + 1) w) rfl (okTop_pars fun z => absurd z (by omega)) (fun z => absurd z (by omega)), Eo3]
      show (((close1 (.an :: .par :: pars a w, y :: x :: m)).bind (closes b)).map fun s => (false, s)) = _
      unfold close1
      rw [jw_go (d := .an) (m' := .con x y :: m) rfl rfl, jw_stop1 (d := .par) rfl]
      rfl
    · have ok : okTop 2 (pars a w) := by
        have : u = 1 ∨ u = 2 := by omega
        rcases this with e | e
        · subst e; exact okTop_12 (okTop_pars hc)
        · subst e; exact okTop_pars hc
      show run (pcs x 2 (more (2 < u) a) 0 ++ .an :: pcs y 3 0 (more (2 < u) b)) (true, w, m) = _
      unfold more
      rw [if_neg c, if_neg c, key a b (pars a w) rfl ok (fun z => by subst z; exact ok)]
      rw [show Eo (.con x y) u (pars a w) m = some (.an :: pars a w, y :: x :: m) from if_neg c]
      rfl
  | dis x y ihx ihy =>
    intro u a b w m h1 h3 hc
    have key : ∀ (a' b' : Nat) (w1 : List Dd), pars a' w = w1 → okTop 1 w1 → (a' = 0 → okTop 1 w) → run (pcs x 1 a' 0 ++ .dj :: pcs y 2 0 b') (true, w, m) = ((Eo y 2 (.dj :: w1) (x :: m)).bind (closes b')).map fun s => (false, s) := by
      intro a' b' w1 e ok oka
      obtain ⟨s, e1, e2, _⟩ := E_or x m ok
      rw [run_app, ihx 1 a' 0 w m (by decide) (by decide) oka, e, e1]
      show ((jw pAO s.1 s.2).map fun t => (true, Dd.dj :: t.1, t.2)).bind (run (pcs y 2 0 b')) = _
      rw [e2]
      show run (pcs y 2 0 b') (true, .dj :: w1, x :: m) = _
      rw [ihy 2 0 b' (.dj :: w1) (x :: m) (by decide) (by decide) (fun _ d r e => by cases e; exact ⟨fun z => absurd z (by decide), fun _ => .inr rfl⟩)]
      rfl
    by_cases c : 1 < u
    · show run (pcs x 1 (more (1 < u) a) 0 ++ .dj :: pcs y 2 0 (more (1 < u) b)) (true, w, m) = _
      have ok : okTop 1 (pars (a + 1) w) := okTop_pars fun z => absurd z (by omega)
      unfold more
      rw [if_pos c, if_pos c, key (a + 1) (b + 1) (pars (a + 1) w) rfl ok (fun z => absurd z (by omega))]
      obtain ⟨s, e1, e2, _, e4⟩ := Eo_dis (a := x) (b := y) (w := pars (a + 1) w) (m := m) (u := 1) (by decide)
      rw [e2]
      show (((close1 s).bind (closes b)).map fun s => (false, s)) = _
      unfold close1
      rw [e4 (r := none) fun _ => ao_stop ok]
      rw [show Eo (.dis x y) u (pars a w) m = jw pNt (pars a w) (.dis x y :: m) from if_pos c]
      rfl
    · have : u = 1 := by omega
      subst this
      show run (pcs x 1 (more (1 < 1) a) 0 ++ .dj :: pcs y 2 0 (more (1 < 1) b)) (true, w, m) = _
      unfold more
      rw [if_neg c, if_neg c, key a b (pars a w) rfl (okTop_pars hc) hc]
      obtain ⟨s, e1, e2, _⟩ := Eo_dis (a := x) (b := y) (w := pars a w) (m := m) (u := 1) (by decide)
      rw [e2, e1]
theorem run_sen (t : Sen) : ∃ s, run (pcs t 1 0 0) (true, [], []) = some (false, s) ∧ jw pAO s.1 s.2 = some ([], [t]) ∧ .par ∉ s.1 := by
  have ok : okTop 1 [] := fun d r e => by cases e
  obtain ⟨s, e1, e2, e3⟩ := E_or t [] ok
  refine ⟨s, ?_, e2, fun z => nomatch e3 z⟩
  rw [run_pcs t 1 0 0 [] [] (by decide) (by decide) (fun _ => ok), show pars 0 [] = [] from rfl, e1]
  rfl

--#
open TL
def mkS (l : List Nat) : Str := ⟨l.toArray⟩
theorem tl_mkS (l : List Nat) : tl (mkS l) = l := rfl
theorem par_cps : ("(" : Str).cps = #[40] ∧ (")" : Str).cps = #[41] := by decide +kernel
theorem takeW {p : Nat → Bool} {n c : Nat} {r : List Nat} (hc : p c = true) (hr : ∀ x, r.head? = some x → p x = false) : (List.replicate n c ++ r).takeWhile p = List.replicate n c := by
  induction n with
  | zero =>
    cases r with
    | nil => rfl
    | cons x r => show (x :: r).takeWhile p = []; rw [List.takeWhile_cons_of_neg (by rw [hr x rfl]; simp)]
  | succ n ih => rw [List.replicate_succ, List.cons_append, List.takeWhile_cons_of_pos hc, ih]
theorem lstrip_pc (a : Nat) {r : List Nat} (hr : ∀ x, r.head? = some x → x ≠ 40) : Txt.lstripChars (mkS (List.replicate a 40 ++ r)) "(" = mkS r := by
  refine ext_tl ?_
  rw [Txt.lstripChars, stripBy_eq]
  have g : ∀ c, ("(" : Str).cps.contains c = (c == 40) := fun c => by rw [par_cps.1, Bool.eq_iff_iff]; simp
  have tw : ((mkS (List.replicate a 40 ++ r)).cps.toList.takeWhile ("(" : Str).cps.contains).length = a := by
    show ((List.replicate a 40 ++ r).takeWhile _).length = a
    rw [takeW (by rw [g]; rfl) fun x hx => by rw [g]; exact beq_eq_false_iff_ne.mpr (hr x hx), List.length_replicate]
  show tl (Builtin.Str.strSub (mkS (List.replicate a 40 ++ r)) ((mkS (List.replicate a 40 ++ r)).cps.toList.takeWhile ("(" : Str).cps.contains).length (mkS (List.replicate a 40 ++ r)).length) = r
  rw [tw, tl_strSub_end, tl_mkS, List.drop_append_of_le_length (by rw [List.length_replicate]; omega), List.drop_of_length_le (by rw [List.length_replicate]; omega)]
  rfl
theorem rstrip_pc (b : Nat) {r : List Nat} (hr : ∀ x, r.getLast? = some x → x ≠ 41) : Txt.rstripChars (mkS (r ++ List.replicate b 41)) ")" = mkS r := by
  refine ext_tl ?_
  rw [Txt.rstripChars, stripBy_eq]
  have g : ∀ c, (")" : Str).cps.contains c = (c == 41) := fun c => by rw [par_cps.2, Bool.eq_iff_iff]; simp
  have rv : (r ++ List.replicate b 41).reverse = List.replicate b 41 ++ r.reverse := by rw [List.reverse_append, List.reverse_replicate]
  have tw : (((mkS (r ++ List.replicate b 41)).cps.toList.drop 0).reverse.takeWhile (")" : Str).cps.contains).length = b := by
    show ((((r ++ List.replicate b 41).drop 0)).reverse.takeWhile _).length = b
    rw [List.drop_zero, rv, takeW (by rw [g]; rfl) fun x hx => by rw [g]; rw [List.head?_reverse] at hx; exact beq_eq_false_iff_ne.mpr (hr x hx), List.length_replicate]
  show tl (Builtin.Str.strSub (mkS (r ++ List.replicate b 41)) 0 ((mkS (r ++ List.replicate b 41)).length - (((mkS (r ++ List.replicate b 41)).cps.toList.drop 0).reverse.takeWhile (")" : Str).cps.contains).length)) = r
  rw [tw, tl_strSub, tl_mkS, len_tl, tl_mkS, List.drop_zero, Nat.sub_zero, List.length_append, List.length_replicate, Nat.add_sub_cancel, List.take_append_of_le_length (Nat.le_refl _), List.take_of_length_le (Nat.le_refl _)]
def keptL : List Str := ["always", "where", "usually", "not", "and", "or"]
/-- a good name -/
def Gn (s : Str) : Prop := (1 ≤ s.length ∧ s.length ≤ 12) ∧ (∀ c ∈ tl s, 97 ≤ c ∧ c ≤ 122) ∧ s ∉ keptL
def ptx : Pc → Str
  | .nm a s b => mkS (List.replicate a 40 ++ (tl s ++ List.replicate b 41))
  | .nt a => mkS (List.replicate a 40 ++ tl "not")
  | .an => "and"
  | .dj => "or"
def stx : Sen → Nat → Str
  | .is s, _ => s
  | .not x, _ => "not " ++ stx x 3
  | .con x y, u => if 2 < u then "(" ++ (stx x 2 ++ " and " ++ stx y 3) ++ ")" else stx x 2 ++ " and " ++ stx y 3
  | .dis x y, u => if 1 < u then "(" ++ (stx x 1 ++ " or " ++ stx y 2) ++ ")" else stx x 1 ++ " or " ++ stx y 2
theorem pcs_ne (t : Sen) (u a b : Nat) : pcs t u a b ≠ [] := by
  cases t <;> simp [pcs]
theorem joinL_app (S : List Nat) : ∀ {l m : List (List Nat)}, l ≠ [] → m ≠ [] → joinL S (l ++ m) = joinL S l ++ (S ++ joinL S m)
  | [], _, h, _ => absurd rfl h
  | [p], m, _, hm => by
    cases m with
    | nil => exact absurd rfl hm
    | cons q r => rfl
  | p :: q :: r, m, _, hm => by
    show p ++ (S ++ joinL S (q :: r ++ m)) = (p ++ (S ++ joinL S (q :: r))) ++ (S ++ joinL S m)
    rw [joinL_app S (by simp) hm]
    simp only [List.append_assoc]
theorem joinL_cons (S : List Nat) (p : List Nat) {m : List (List Nat)} (hm : m ≠ []) : joinL S (p :: m) = p ++ (S ++ joinL S m) := joinL_app S (l := [p]) (by simp) hm
theorem tlits : tl ("not " : Str) = [110, 111, 116, 32] ∧ tl (" and " : Str) = [32, 97, 110, 100, 32] ∧ tl (" or " : Str) = [32, 111, 114, 32] ∧ tl ("(" : Str) = [40] ∧ tl (")" : Str) = [41] ∧ tl ("not" : Str) = [110, 111, 116] ∧ tl ("and" : Str) = [97, 110, 100] ∧ tl ("or" : Str) = [111, 114] := by decide +kernel
theorem join_pcs : ∀ (t : Sen) (u a b : Nat), joinL [32] ((pcs t u a b).map fun p => tl (ptx p)) = List.replicate a 40 ++ (tl (stx t u) ++ List.replicate b 41) := by
  have me : ∀ {f : Pc → List Nat} (t : Sen) (u a b : Nat), (pcs t u a b).map f ≠ [] := fun t u a b e => pcs_ne t u a b (List.map_eq_nil_iff.mp e)
  have rs : ∀ (n c : Nat) (l : List Nat), List.replicate (n + 1) c ++ l = List.replicate n c ++ (c :: l) := fun n c l => by rw [List.replicate_succ']; simp
  intro t
  induction t with
  | is s => intro u a b; rfl
  | not x ih =>
    intro u a b
    show joinL [32] (tl (ptx (.nt a)) :: (pcs x 3 0 b).map fun p => tl (ptx p)) = _
    rw [joinL_cons _ _ (me x 3 0 b), ih]
    show (List.replicate a 40 ++ tl "not") ++ ([32] ++ (List.replicate 0 40 ++ (tl (stx x 3) ++ List.replicate b 41))) = List.replicate a 40 ++ (tl ("not " ++ stx x 3) ++ List.replicate b 41)
    rw [tl_append, tlits.1, tlits.2.2.2.2.2.1]
    simp
  | con x y ihx ihy =>
    intro u a b
    have key : ∀ a' b', joinL [32] ((pcs x 2 a' 0 ++ .an :: pcs y 3 0 b').map fun p => tl (ptx p)) = List.replicate a' 40 ++ (tl (stx x 2 ++ " and " ++ stx y 3) ++ List.replicate b' 41) := fun a' b' => by
      rw [List.map_append, List.map_cons, joinL_app _ (me x 2 a' 0) (by simp), joinL_cons _ _ (me y 3 0 b'), ihx, ihy, tl_append, tl_append, tlits.2.1, show tl (ptx .an) = [97, 110, 100] from tlits.2.2.2.2.2.2.1]
      simp
    show joinL [32] ((pcs x 2 (more (2 < u) a) 0 ++ .an :: pcs y 3 0 (more (2 < u) b)).map fun p => tl (ptx p)) = _
    rw [key]
    unfold more
    by_cases c : 2 < u
    · rw [if_pos c, if_pos c, show stx (.con x y) u = "(" ++ (stx x 2 ++ " and " ++ stx y 3) ++ ")" from if_pos c, tl_append ("(" ++ _), tl_append "(", tlits.2.2.2.1, tlits.2.2.2.2.1, rs, List.replicate_succ]
      simp
    · rw [if_neg c, if_neg c, show stx (.con x y) u = stx x 2 ++ " and " ++ stx y 3 from if_neg c]
  | dis x y ihx ihy =>
    intro u a b
    have key : ∀ a' b', joinL [32] ((pcs x 1 a' 0 ++ .dj :: pcs y 2 0 b').map fun p => tl (ptx p)) = List.replicate a' 40 ++ (tl (stx x 1 ++ " or " ++ stx y 2) ++ List.replicate b' 41) := fun a' b' => by
      rw [List.map_append, List.map_cons, joinL_app _ (me x 1 a' 0) (by simp), joinL_cons _ _ (me y 2 0 b'), ihx, ihy, tl_append, tl_append, tlits.2.2.1, show tl (ptx .dj) = [111, 114] from tlits.2.2.2.2.2.2.2]
      simp
    show joinL [32] ((pcs x 1 (more (1 < u) a) 0 ++ .dj :: pcs y 2 0 (more (1 < u) b)).map fun p => tl (ptx p)) = _
    rw [key]
    unfold more
    by_cases c : 1 < u
    · rw [if_pos c, if_pos c, show stx (.dis x y) u = "(" ++ (stx x 1 ++ " or " ++ stx y 2) ++ ")" from if_pos c, tl_append ("(" ++ _), tl_append "(", tlits.2.2.2.1, tlits.2.2.2.2.1, rs, List.replicate_succ]
      simp
    · rw [if_neg c, if_neg c, show stx (.dis x y) u = stx x 1 ++ " or " ++ stx y 2 from if_neg c]
/-- the pieces' names are good -/
def PcG : Pc → Prop
  | .nm _ s _ => Gn s
  | _ => True
theorem pcs_good : ∀ {t : Sen}, (∀ s ∈ t.names, Gn s) → ∀ (u a b : Nat), ∀ p ∈ pcs t u a b, PcG p := by
  intro t
  induction t with
  | is s => intro h u a b p hp; rw [List.mem_singleton.mp hp]; exact h s (List.mem_singleton.mpr rfl)
  | not x ih =>
    intro h u a b p hp
    rcases List.mem_cons.mp hp with e | e
    · rw [e]; exact trivial
    · exact ih h _ _ _ p e
  | con x y ihx ihy =>
    intro h u a b p hp
    rcases List.mem_append.mp hp with e | e
    · exact ihx (fun s hs => h s (List.mem_append_left _ hs)) _ _ _ p e
    · rcases List.mem_cons.mp e with e | e
      · rw [e]; exact trivial
      · exact ihy (fun s hs => h s (List.mem_append_right _ hs)) _ _ _ p e
  | dis x y ihx ihy =>
    intro h u a b p hp
    rcases List.mem_append.mp hp with e | e
    · exact ihx (fun s hs => h s (List.mem_append_left _ hs)) _ _ _ p e
    · rcases List.mem_cons.mp e with e | e
      · rw [e]; exact trivial
      · exact ihy (fun s hs => h s (List.mem_append_right _ hs)) _ _ _ p e
theorem no_blank {p : Pc} (h : PcG p) : 32 ∉ tl (ptx p) := by
  cases p with
  | nm a s b =>
    intro z
    rcases List.mem_append.mp (show 32 ∈ List.replicate a 40 ++ (tl s ++ List.replicate b 41) from z) with e | e
    · cases (List.mem_replicate.mp e).2
    · rcases List.mem_append.mp e with e | e
      · have := (h.2.1 32 e).1; omega
      · cases (List.mem_replicate.mp e).2
  | nt a =>
    intro z
    rcases List.mem_append.mp (show 32 ∈ List.replicate a 40 ++ tl "not" from z) with e | e
    · cases (List.mem_replicate.mp e).2
    · rw [tlits.2.2.2.2.2.1] at e; simp at e
  | an => intro z; rw [show tl (ptx .an) = [97, 110, 100] from tlits.2.2.2.2.2.2.1] at z; simp at z
  | dj => intro z; rw [show tl (ptx .dj) = [111, 114] from tlits.2.2.2.2.2.2.2] at z; simp at z
theorem stx_split {t : Sen} (h : ∀ s ∈ t.names, Gn s) : Txt.split (stx t 1) " " = (pcs t 1 0 0).map ptx := by
  have e : stx t 1 = Txt.join " " ((pcs t 1 0 0).map ptx) := by
    refine ext_tl ?_
    rw [join_eq, tl_join, tl_blank, List.map_map]
    have := join_pcs t 1 0 0
    rw [show ((pcs t 1 0 0).map (tl ∘ ptx)) = (pcs t 1 0 0).map fun p => tl (ptx p) from rfl, this]
    simp
  rw [e]
  refine split_join (s := 32) (S := []) tl_blank (by decide +kernel) (fun z => pcs_ne t 1 0 0 (List.map_eq_nil_iff.mp z)) fun q hq => ?_
  obtain ⟨p, hp, rfl⟩ := List.mem_map.mp hq
  exact no_blank (pcs_good h 1 0 0 p hp)

--#
open TL
theorem lits_len : ("not " : Str).length = 4 ∧ (" and " : Str).length = 5 ∧ (" or " : Str).length = 4 ∧ ("(" : Str).length = 1 ∧ (")" : Str).length = 1 ∧ (" " : Str).length = 1 ∧ ("and" : Str).length = 3 ∧ ("or" : Str).length = 2 := by decide +kernel
theorem stx_len : ∀ (t : Sen) (u : Nat), (∀ s ∈ t.names, Gn s) → (stx t u).length ≤ 20 * t.size
  | .is s, u, h => by
    have := (h s (List.mem_singleton.mpr rfl)).1.2
    show s.length ≤ 20 * 1
    omega
  | .not x, u, h => by
    have := stx_len x 3 h
    show ("not " ++ stx x 3).length ≤ 20 * (1 + x.size)
    rw [len_app, lits_len.1]
    omega
  | .con x y, u, h => by
    have h1 := stx_len x 2 fun s hs => h s (List.mem_append_left _ hs)
    have h2 := stx_len y 3 fun s hs => h s (List.mem_append_right _ hs)
    have e : (stx x 2 ++ " and " ++ stx y 3).length = (stx x 2).length + 5 + (stx y 3).length := by rw [len_app, len_app, lits_len.2.1]
    show (if 2 < u then "(" ++ (stx x 2 ++ " and " ++ stx y 3) ++ ")" else stx x 2 ++ " and " ++ stx y 3).length ≤ 20 * (1 + x.size + y.size)
    split
    · rw [len_app, len_app, e, lits_len.2.2.2.1, lits_len.2.2.2.2.1]; omega
    · rw [e]; omega
  | .dis x y, u, h => by
    have h1 := stx_len x 1 fun s hs => h s (List.mem_append_left _ hs)
    have h2 := stx_len y 2 fun s hs => h s (List.mem_append_right _ hs)
    have e : (stx x 1 ++ " or " ++ stx y 2).length = (stx x 1).length + 4 + (stx y 2).length := by rw [len_app, len_app, lits_len.2.2.1]
    show (if 1 < u then "(" ++ (stx x 1 ++ " or " ++ stx y 2) ++ ")" else stx x 1 ++ " or " ++ stx y 2).length ≤ 20 * (1 + x.size + y.size)
    split
    · rw [len_app, len_app, e, lits_len.2.2.2.1, lits_len.2.2.2.2.1]; omega
    · rw [e]; omega
theorem law_text_eq : ∀ (t : Sen) (n u : Nat), t.depth ≤ n → t.size ≤ 1000 → (∀ s ∈ t.names, Gn s) → R__law_text n [.pl (senD t), .pl (.int (u : Nat))] = some (.ret (.pl (.str (stx t u)))) := by
  intro t
  induction t with
  | is s =>
    intro n u h _ _
    obtain ⟨n, rfl⟩ : ∃ m, n = m + 1 := ⟨n - 1, by simp only [Sen.depth] at h; omega⟩
    refine R__law_text_rt ?_
    unfold B__law_text
    simp -implicitDefEqProofs (disch := omega) only [fnD_def, eBin_def, eUn_def, eVar_def, eC_def, tCmp2_def, eB_def, sSeq_def, sAsg_def, sRet_def, sNext_def, sIf_def, eCall_def, eBui_def, aCons_def, aNil_def, dCons_def, dNil_def, eTup_def, eLst_def, eIx_def, tAnd2_def, tOr2_def, tNot1_def, tTru_def, eAnd_def, eOr_def, eIsi_def, sWipeB_def, wipeO_nx, wipeO_rt, wipeO_bk, wipeO_ct, gPut_def, gTupF_tup, gsCons_cons, gsNil_nil, opt_map_some, get_zero, get_succ, put_zero, put_succ, borq_pl, borq_own, borq_brw, borq_tk, bor_tk, eUnk_def, unkS_tk, borq_dic, borq_bdc, bor_pl, bor_own, bor_brw, bor_dic, bor_bdc, sto_pl, sto_own, sto_dic, sl2_pl, sl1_pl, modD_p, addD_int, iF0_int, mulD_l, mulD_r, divD_p, powD_p, shlD_p, shrD_p, uF_int, vw2_pl, cF_int, eqD_int, neD_int, isnF_none, notnF_none, isNoneD_none, isNoneD_int, wipe1_nil, wipe1_cons, truD_bool, toD_pl, List.length_cons, List.length_nil, Nat.reduceAdd, Nat.reduceSub, if_true, List.replicate, List.cons_append, List.nil_append, Nat.zero_add, Bool.not_true, Bool.not_false, decide_true, decide_false, Nat.reduceLeDiff, Int.reduceSub, Int.reduceAdd, notD_bool, isi_int_int, isi_int_bool, opt_bind_some, sFor_def, eLc_def, csrc_def, vsrc_def, rg1_def, eSrc_def, enT_def, sFrz_def, sRetVar_def, sMov_def, ev__law_text, senD, ixD_tuple, at2s, eqD_str, wis]
    rfl
  | not x ih =>
    intro n u h hs hn
    obtain ⟨n, rfl⟩ : ∃ m, n = m + 1 := ⟨n - 1, by simp only [Sen.depth] at h; omega⟩
    have e := ih n 3 (by simp only [Sen.depth] at h; omega) (by simp only [Sen.size] at hs; omega) hn
    have hl := stx_len x 3 hn
    have ad : addD (.str "not ") (.str (stx x 3)) = some (.str (stx (.not x) u)) := addD_str (by rw [lits_len.1]; simp only [Sen.size] at hs; omega)
    have e : R__law_text n [.pl (senD x), .pl (.int 3)] = some (.ret (.pl (.str (stx x 3)))) := e
    refine R__law_text_rt ?_
    unfold B__law_text
    simp -implicitDefEqProofs (disch := omega) only [fnD_def, eBin_def, eUn_def, eVar_def, eC_def, tCmp2_def, eB_def, sSeq_def, sAsg_def, sRet_def, sNext_def, sIf_def, eCall_def, eBui_def, aCons_def, aNil_def, dCons_def, dNil_def, eTup_def, eLst_def, eIx_def, tAnd2_def, tOr2_def, tNot1_def, tTru_def, eAnd_def, eOr_def, eIsi_def, sWipeB_def, wipeO_nx, wipeO_rt, wipeO_bk, wipeO_ct, gPut_def, gTupF_tup, gsCons_cons, gsNil_nil, opt_map_some, get_zero, get_succ, put_zero, put_succ, borq_pl, borq_own, borq_brw, borq_tk, bor_tk, eUnk_def, unkS_tk, borq_dic, borq_bdc, bor_pl, bor_own, bor_brw, bor_dic, bor_bdc, sto_pl, sto_own, sto_dic, sl2_pl, sl1_pl, modD_p, addD_int, iF0_int, mulD_l, mulD_r, divD_p, powD_p, shlD_p, shrD_p, uF_int, vw2_pl, cF_int, eqD_int, neD_int, isnF_none, notnF_none, isNoneD_none, isNoneD_int, wipe1_nil, wipe1_cons, truD_bool, toD_pl, List.length_cons, List.length_nil, Nat.reduceAdd, Nat.reduceSub, if_true, List.replicate, List.cons_append, List.nil_append, Nat.zero_add, Bool.not_true, Bool.not_false, decide_true, decide_false, Nat.reduceLeDiff, Int.reduceSub, Int.reduceAdd, notD_bool, isi_int_int, isi_int_bool, opt_bind_some, sFor_def, eLc_def, csrc_def, vsrc_def, rg1_def, eSrc_def, enT_def, sFrz_def, sRetVar_def, sMov_def, ev__law_text, senD, ixD_tuple, at2s, eqD_str, wis, wnot, e, ad]
  | con x y ihx ihy =>
    intro n u h hs hn
    obtain ⟨n, rfl⟩ : ∃ m, n = m + 1 := ⟨n - 1, by simp only [Sen.depth] at h; omega⟩
    simp only [Sen.depth] at h
    simp only [Sen.size] at hs
    have nx : ∀ s ∈ x.names, Gn s := fun s hs => hn s (List.mem_append_left _ hs)
    have ny : ∀ s ∈ y.names, Gn s := fun s hs => hn s (List.mem_append_right _ hs)
    have ex : R__law_text n [.pl (senD x), .pl (.int 2)] = some (.ret (.pl (.str (stx x 2)))) := ihx n 2 (by omega) (by omega) nx
    have ey : R__law_text n [.pl (senD y), .pl (.int 3)] = some (.ret (.pl (.str (stx y 3)))) := ihy n 3 (by omega) (by omega) ny
    have hx := stx_len x 2 nx
    have hy := stx_len y 3 ny
    have l1 := lits_len.2.1
    have l2 := lits_len.2.2.2.1
    have l3 := lits_len.2.2.2.2.1
    have a1 : addD (.str (stx x 2)) (.str " and ") = some (.str (stx x 2 ++ " and ")) := addD_str (by omega)
    have a2 : addD (.str (stx x 2 ++ " and ")) (.str (stx y 3)) = some (.str (stx x 2 ++ " and " ++ stx y 3)) := addD_str (by rw [len_app]; omega)
    have b1 : addD (.str "(") (.str (stx x 2 ++ " and " ++ stx y 3)) = some (.str ("(" ++ (stx x 2 ++ " and " ++ stx y 3))) := addD_str (by rw [len_app, len_app]; omega)
    have b2 : addD (.str ("(" ++ (stx x 2 ++ " and " ++ stx y 3))) (.str ")") = some (.str ("(" ++ (stx x 2 ++ " and " ++ stx y 3) ++ ")")) := addD_str (by rw [len_app, len_app, len_app]; omega)
    refine R__law_text_rt ?_
    unfold B__law_text
    by_cases c : 2 < u
    · have ci : ((2 : Int) < (u : Int)) = True := eq_true (by omega)
      simp -implicitDefEqProofs (disch := omega) only [fnD_def, eBin_def, eUn_def, eVar_def, eC_def, tCmp2_def, eB_def, sSeq_def, sAsg_def, sRet_def, sNext_def, sIf_def, eCall_def, eBui_def, aCons_def, aNil_def, dCons_def, dNil_def, eTup_def, eLst_def, eIx_def, tAnd2_def, tOr2_def, tNot1_def, tTru_def, eAnd_def, eOr_def, eIsi_def, sWipeB_def, wipeO_nx, wipeO_rt, wipeO_bk, wipeO_ct, gPut_def, gTupF_tup, gsCons_cons, gsNil_nil, opt_map_some, get_zero, get_succ, put_zero, put_succ, borq_pl, borq_own, borq_brw, borq_tk, bor_tk, eUnk_def, unkS_tk, borq_dic, borq_bdc, bor_pl, bor_own, bor_brw, bor_dic, bor_bdc, sto_pl, sto_own, sto_dic, sl2_pl, sl1_pl, modD_p, addD_int, iF0_int, mulD_l, mulD_r, divD_p, powD_p, shlD_p, shrD_p, uF_int, vw2_pl, cF_int, eqD_int, neD_int, isnF_none, notnF_none, isNoneD_none, isNoneD_int, wipe1_nil, wipe1_cons, truD_bool, toD_pl, List.length_cons, List.length_nil, Nat.reduceAdd, Nat.reduceSub, if_true, List.replicate, List.cons_append, List.nil_append, Nat.zero_add, Bool.not_true, Bool.not_false, decide_true, decide_false, Nat.reduceLeDiff, Int.reduceSub, Int.reduceAdd, notD_bool, isi_int_int, isi_int_bool, opt_bind_some, sFor_def, eLc_def, csrc_def, vsrc_def, rg1_def, eSrc_def, enT_def, sFrz_def, sRetVar_def, sMov_def, ev__law_text, senD, ixD_tuple, at3s, eqD_str, wis, wnot, wand, ex, ey, a1, a2, b1, b2, ci]
      rw [show stx (.con x y) u = "(" ++ (stx x 2 ++ " and " ++ stx y 3) ++ ")" from if_pos c]
    · have ci : ((2 : Int) < (u : Int)) = False := eq_false (by omega)
      simp -implicitDefEqProofs (disch := omega) only [fnD_def, eBin_def, eUn_def, eVar_def, eC_def, tCmp2_def, eB_def, sSeq_def, sAsg_def, sRet_def, sNext_def, sIf_def, eCall_def, eBui_def, aCons_def, aNil_def, dCons_def, dNil_def, eTup_def, eLst_def, eIx_def, tAnd2_def, tOr2_def, tNot1_def, tTru_def, eAnd_def, eOr_def, eIsi_def, sWipeB_def, wipeO_nx, wipeO_rt, wipeO_bk, wipeO_ct, gPut_def, gTupF_tup, gsCons_cons, gsNil_nil, opt_map_some, get_zero, get_succ, put_zero, put_succ, borq_pl, borq_own, borq_brw, borq_tk, bor_tk, eUnk_def, unkS_tk, borq_dic, borq_bdc, bor_pl, bor_own, bor_brw, bor_dic, bor_bdc, sto_pl, sto_own, sto_dic, sl2_pl, sl1_pl, modD_p, addD_int, iF0_int, mulD_l, mulD_r, divD_p, powD_p, shlD_p, shrD_p, uF_int, vw2_pl, cF_int, eqD_int, neD_int, isnF_none, notnF_none, isNoneD_none, isNoneD_int, wipe1_nil, wipe1_cons, truD_bool, toD_pl, List.length_cons, List.length_nil, Nat.reduceAdd, Nat.reduceSub, if_true, List.replicate, List.cons_append, List.nil_append, Nat.zero_add, Bool.not_true, Bool.not_false, decide_true, decide_false, Nat.reduceLeDiff, Int.reduceSub, Int.reduceAdd, notD_bool, isi_int_int, isi_int_bool, opt_bind_some, sFor_def, eLc_def, csrc_def, vsrc_def, rg1_def, eSrc_def, enT_def, sFrz_def, sRetVar_def, sMov_def, ev__law_text, senD, ixD_tuple, at3s, eqD_str, wis, wnot, wand, ex, ey, a1, a2, b1, b2, ci]
      rw [show stx (.con x y) u = stx x 2 ++ " and " ++ stx y 3 from if_neg c]
  | dis x y ihx ihy =>
    intro n u h hs hn
    obtain ⟨n, rfl⟩ : ∃ m, n = m + 1 := ⟨n - 1, by simp only [Sen.depth] at h; omega⟩
    simp only [Sen.depth] at h
    simp only [Sen.size] at hs
    have nx : ∀ s ∈ x.names, Gn s := fun s hs => hn s (List.mem_append_left _ hs)
    have ny : ∀ s ∈ y.names, Gn s := fun s hs => hn s (List.mem_append_right _ hs)
    have ex : R__law_text n [.pl (senD x), .pl (.int 1)] = some (.ret (.pl (.str (stx x 1)))) := ihx n 1 (by omega) (by omega) nx
    have ey : R__law_text n [.pl (senD y), .pl (.int 2)] = some (.ret (.pl (.str (stx y 2)))) := ihy n 2 (by omega) (by omega) ny
    have hx := stx_len x 1 nx
    have hy := stx_len y 2 ny
    have l1 := lits_len.2.2.1
    have l2 := lits_len.2.2.2.1
    have l3 := lits_len.2.2.2.2.1
    have a1 : addD (.str (stx x 1)) (.str " or ") = some (.str (stx x 1 ++ " or ")) := addD_str (by omega)
    have a2 : addD (.str (stx x 1 ++ " or ")) (.str (stx y 2)) = some (.str (stx x 1 ++ " or " ++ stx y 2)) := addD_str (by rw [len_app]; omega)
    have b1 : addD (.str "(") (.str (stx x 1 ++ " or " ++ stx y 2)) = some (.str ("(" ++ (stx x 1 ++ " or " ++ stx y 2))) := addD_str (by rw [len_app, len_app]; omega)
    have b2 : addD (.str ("(" ++ (stx x 1 ++ " or " ++ stx y 2))) (.str ")") = some (.str ("(" ++ (stx x 1 ++ " or " ++ stx y 2) ++ ")")) := addD_str (by rw [len_app, len_app, len_app]; omega)
    refine R__law_text_rt ?_
    unfold B__law_text
    by_cases c : 1 < u
    · have ci : ((1 : Int) < (u : Int)) = True := eq_true (by omega)
      simp -implicitDefEqProofs (disch := omega) only [fnD_def, eBin_def, eUn_def, eVar_def, eC_def, tCmp2_def, eB_def, sSeq_def, sAsg_def, sRet_def, sNext_def, sIf_def, eCall_def, eBui_def, aCons_def, aNil_def, dCons_def, dNil_def, eTup_def, eLst_def, eIx_def, tAnd2_def, tOr2_def, tNot1_def, tTru_def, eAnd_def, eOr_def, eIsi_def, sWipeB_def, wipeO_nx, wipeO_rt, wipeO_bk, wipeO_ct, gPut_def, gTupF_tup, gsCons_cons, gsNil_nil, opt_map_some, get_zero, get_succ, put_zero, put_succ, borq_pl, borq_own, borq_brw, borq_tk, bor_tk, eUnk_def, unkS_tk, borq_dic, borq_bdc, bor_pl, bor_own, bor_brw, bor_dic, bor_bdc, sto_pl, sto_own, sto_dic, sl2_pl, sl1_pl, modD_p, addD_int, iF0_int, mulD_l, mulD_r, divD_p, powD_p, shlD_p, shrD_p, uF_int, vw2_pl, cF_int, eqD_int, neD_int, isnF_none, notnF_none, isNoneD_none, isNoneD_int, wipe1_nil, wipe1_cons, truD_bool, toD_pl, List.length_cons, List.length_nil, Nat.reduceAdd, Nat.reduceSub, if_true, List.replicate, List.cons_append, List.nil_append, Nat.zero_add, Bool.not_true, Bool.not_false, decide_true, decide_false, Nat.reduceLeDiff, Int.reduceSub, Int.reduceAdd, notD_bool, isi_int_int, isi_int_bool, opt_bind_some, sFor_def, eLc_def, csrc_def, vsrc_def, rg1_def, eSrc_def, enT_def, sFrz_def, sRetVar_def, sMov_def, ev__law_text, senD, ixD_tuple, at3s, eqD_str, wis, wnot, wand, ex, ey, a1, a2, b1, b2, ci]
      rw [show stx (.dis x y) u = "(" ++ (stx x 1 ++ " or " ++ stx y 2) ++ ")" from if_pos c]
    · have ci : ((1 : Int) < (u : Int)) = False := eq_false (by omega)
      simp -implicitDefEqProofs (disch := omega) only [fnD_def, eBin_def, eUn_def, eVar_def, eC_def, tCmp2_def, eB_def, sSeq_def, sAsg_def, sRet_def, sNext_def, sIf_def, eCall_def, eBui_def, aCons_def, aNil_def, dCons_def, dNil_def, eTup_def, eLst_def, eIx_def, tAnd2_def, tOr2_def, tNot1_def, tTru_def, eAnd_def, eOr_def, eIsi_def, sWipeB_def, wipeO_nx, wipeO_rt, wipeO_bk, wipeO_ct, gPut_def, gTupF_tup, gsCons_cons, gsNil_nil, opt_map_some, get_zero, get_succ, put_zero, put_succ, borq_pl, borq_own, borq_brw, borq_tk, bor_tk, eUnk_def, unkS_tk, borq_dic, borq_bdc, bor_pl, bor_own, bor_brw, bor_dic, bor_bdc, sto_pl, sto_own, sto_dic, sl2_pl, sl1_pl, modD_p, addD_int, iF0_int, mulD_l, mulD_r, divD_p, powD_p, shlD_p, shrD_p, uF_int, vw2_pl, cF_int, eqD_int, neD_int, isnF_none, notnF_none, isNoneD_none, isNoneD_int, wipe1_nil, wipe1_cons, truD_bool, toD_pl, List.length_cons, List.length_nil, Nat.reduceAdd, Nat.reduceSub, if_true, List.replicate, List.cons_append, List.nil_append, Nat.zero_add, Bool.not_true, Bool.not_false, decide_true, decide_false, Nat.reduceLeDiff, Int.reduceSub, Int.reduceAdd, notD_bool, isi_int_int, isi_int_bool, opt_bind_some, sFor_def, eLc_def, csrc_def, vsrc_def, rg1_def, eSrc_def, enT_def, sFrz_def, sRetVar_def, sMov_def, ev__law_text, senD, ixD_tuple, at3s, eqD_str, wis, wnot, wand, ex, ey, a1, a2, b1, b2, ci]
      rw [show stx (.dis x y) u = stx x 1 ++ " or " ++ stx y 2 from if_neg c]
def kindS : Sen → Str
  | .is _ => "is"
  | .not _ => "not"
  | .con _ _ => "and"
  | .dis _ _ => "or"
theorem kind_at (t : Sen) : ∃ ds, senD t = .tuple ds ∧ atI ds 0 = some (.str (kindS t)) := by cases t <;> exact ⟨_, rfl, rfl⟩
/-- whether it stands bare at a level -/
def bareL (t : Sen) (u : Nat) : Bool := match t with
  | .con _ _ => decide (u ≤ 2)
  | .dis _ _ => decide (u ≤ 1)
  | _ => true
theorem stx_lev (t : Sen) (u : Nat) : stx t u = if bareL t u then stx t 1 else "(" ++ stx t 1 ++ ")" := by
  cases t with
  | is s => rfl
  | not x => rfl
  | con x y =>
    have e1 : stx (.con x y) 1 = stx x 2 ++ " and " ++ stx y 3 := if_neg (by decide)
    by_cases c : 2 < u
    · rw [show stx (.con x y) u = "(" ++ (stx x 2 ++ " and " ++ stx y 3) ++ ")" from if_pos c, e1, show bareL (.con x y) u = false from decide_eq_false (by omega)]; rfl
    · rw [show stx (.con x y) u = stx x 2 ++ " and " ++ stx y 3 from if_neg c, e1, show bareL (.con x y) u = true from decide_eq_true (by omega)]; rfl
  | dis x y =>
    have e1 : stx (.dis x y) 1 = stx x 1 ++ " or " ++ stx y 2 := if_neg (by decide)
    by_cases c : 1 < u
    · rw [show stx (.dis x y) u = "(" ++ (stx x 1 ++ " or " ++ stx y 2) ++ ")" from if_pos c, e1, show bareL (.dis x y) u = false from decide_eq_false (by omega)]; rfl
    · rw [show stx (.dis x y) u = stx x 1 ++ " or " ++ stx y 2 from if_neg c, e1, show bareL (.dis x y) u = true from decide_eq_true (by omega)]; rfl
theorem part_of {Fr : Fn} {t : Sen} {u : Nat} {b : Bool} (hb : b = bareL t u) (h : Fr [.pl (senD t)] = some (.ret (.pl (.str (stx t 1))))) (hl : (stx t 1).length ≤ 100000) : G_as_part Fr [.pl (senD t), .pl (.bool b)] = some (.ret (.pl (.str (stx t u)))) := by
  have l2 := lits_len.2.2.2.1
  have l3 := lits_len.2.2.2.2.1
  have b1 : addD (.str "(") (.str (stx t 1)) = some (.str ("(" ++ stx t 1)) := addD_str (by omega)
  have b2 : addD (.str ("(" ++ stx t 1)) (.str ")") = some (.str ("(" ++ stx t 1 ++ ")")) := addD_str (by rw [len_app]; omega)
  refine G_as_part_rt ?_
  unfold B_as_part
  rw [stx_lev t u, ← hb]
  cases b with
  | true =>
    simp -implicitDefEqProofs (disch := omega) only [fnD_def, eBin_def, eUn_def, eVar_def, eC_def, tCmp2_def, eB_def, sSeq_def, sAsg_def, sRet_def, sNext_def, sIf_def, eCall_def, eBui_def, aCons_def, aNil_def, dCons_def, dNil_def, eTup_def, eLst_def, eIx_def, tAnd2_def, tOr2_def, tNot1_def, tTru_def, eAnd_def, eOr_def, eIsi_def, sWipeB_def, wipeO_nx, wipeO_rt, wipeO_bk, wipeO_ct, gPut_def, gTupF_tup, gsCons_cons, gsNil_nil, opt_map_some, get_zero, get_succ, put_zero, put_succ, borq_pl, borq_own, borq_brw, borq_tk, bor_tk, eUnk_def, unkS_tk, borq_dic, borq_bdc, bor_pl, bor_own, bor_brw, bor_dic, bor_bdc, sto_pl, sto_own, sto_dic, sl2_pl, sl1_pl, modD_p, addD_int, iF0_int, mulD_l, mulD_r, divD_p, powD_p, shlD_p, shrD_p, uF_int, vw2_pl, cF_int, eqD_int, neD_int, isnF_none, notnF_none, isNoneD_none, isNoneD_int, wipe1_nil, wipe1_cons, truD_bool, toD_pl, List.length_cons, List.length_nil, Nat.reduceAdd, Nat.reduceSub, if_true, List.replicate, List.cons_append, List.nil_append, Nat.zero_add, Bool.not_true, Bool.not_false, decide_true, decide_false, Nat.reduceLeDiff, Int.reduceSub, Int.reduceAdd, notD_bool, isi_int_int, isi_int_bool, opt_bind_some, sFor_def, eLc_def, csrc_def, vsrc_def, rg1_def, eSrc_def, enT_def, sFrz_def, sRetVar_def, sMov_def, ev_as_part, h]
  | false =>
    simp -implicitDefEqProofs (disch := omega) only [fnD_def, eBin_def, eUn_def, eVar_def, eC_def, tCmp2_def, eB_def, sSeq_def, sAsg_def, sRet_def, sNext_def, sIf_def, eCall_def, eBui_def, aCons_def, aNil_def, dCons_def, dNil_def, eTup_def, eLst_def, eIx_def, tAnd2_def, tOr2_def, tNot1_def, tTru_def, eAnd_def, eOr_def, eIsi_def, sWipeB_def, wipeO_nx, wipeO_rt, wipeO_bk, wipeO_ct, gPut_def, gTupF_tup, gsCons_cons, gsNil_nil, opt_map_some, get_zero, get_succ, put_zero, put_succ, borq_pl, borq_own, borq_brw, borq_tk, bor_tk, eUnk_def, unkS_tk, borq_dic, borq_bdc, bor_pl, bor_own, bor_brw, bor_dic, bor_bdc, sto_pl, sto_own, sto_dic, sl2_pl, sl1_pl, modD_p, addD_int, iF0_int, mulD_l, mulD_r, divD_p, powD_p, shlD_p, shrD_p, uF_int, vw2_pl, cF_int, eqD_int, neD_int, isnF_none, notnF_none, isNoneD_none, isNoneD_int, wipe1_nil, wipe1_cons, truD_bool, toD_pl, List.length_cons, List.length_nil, Nat.reduceAdd, Nat.reduceSub, if_true, List.replicate, List.cons_append, List.nil_append, Nat.zero_add, Bool.not_true, Bool.not_false, decide_true, decide_false, Nat.reduceLeDiff, Int.reduceSub, Int.reduceAdd, notD_bool, isi_int_int, isi_int_bool, opt_bind_some, sFor_def, eLc_def, csrc_def, vsrc_def, rg1_def, eSrc_def, enT_def, sFrz_def, sRetVar_def, sMov_def, ev_as_part, h, b1, b2]
    rfl
theorem wneq : (("is" : Str) == "or") = false ∧ (("not" : Str) == "or") = false ∧ (("and" : Str) == "or") = false ∧ (("or" : Str) == "or") = true ∧ (("is" : Str) == "and") = false ∧ (("not" : Str) == "and") = false ∧ (("or" : Str) == "and") = false := by decide +kernel
def isn : Sen → Bool
  | .is _ => true
  | .not _ => true
  | _ => false
theorem kind_ino (t : Sen) : inFn false (.str (kindS t)) [.str "is", .str "not"] = some (isn t) := by
  have := inF_strs false (kindS t) ["is", "not"]
  rw [show (["is", "not"] : List Str).map PyData.str = [.str "is", .str "not"] from rfl] at this
  rw [this]
  have d : decide (("is" : Str) ∈ (["is", "not"] : List Str)) = true ∧ decide (("not" : Str) ∈ (["is", "not"] : List Str)) = true ∧ decide (("and" : Str) ∈ (["is", "not"] : List Str)) = false ∧ decide (("or" : Str) ∈ (["is", "not"] : List Str)) = false := by decide +kernel
  cases t
  · show some (decide (("is" : Str) ∈ (["is", "not"] : List Str)) != false) = _; rw [d.1]; rfl
  · show some (decide (("not" : Str) ∈ (["is", "not"] : List Str)) != false) = _; rw [d.2.1]; rfl
  · show some (decide (("and" : Str) ∈ (["is", "not"] : List Str)) != false) = _; rw [d.2.2.1]; rfl
  · show some (decide (("or" : Str) ∈ (["is", "not"] : List Str)) != false) = _; rw [d.2.2.2]; rfl
theorem kind_ix {ρ : SEnv} {t : Sen} {f : SEnv → Option Sl} (hf : f ρ = some (.pl (senD t))) : eIx f (eC (.int 0)) ρ = some (.pl (.str (kindS t))) := by
  obtain ⟨ds, e, h0⟩ := kind_at t
  rw [eIx_def, hf, e]
  show (ixD (.pl (.tuple ds)) (.int 0)).map Sl.pl = _
  rw [ixD_tuple, h0]
  rfl
theorem isn_at {ρ : SEnv} {t : Sen} {f : SEnv → Option Sl} (hf : f ρ = some (.pl (senD t))) : eB (tInS false (eIx f (eC (.int 0))) (eTup (dCons (eC (.str "is")) (dCons (eC (.str "not")) dNil)))) ρ = some (.pl (.bool (isn t))) := by
  have tp : eTup (dCons (eC (.str "is")) (dCons (eC (.str "not")) dNil)) ρ = some (.pl (.tuple [.str "is", .str "not"])) := rfl
  have : tInS false (eIx f (eC (.int 0))) (eTup (dCons (eC (.str "is")) (dCons (eC (.str "not")) dNil))) ρ = some (isn t) := by
    unfold tInS
    rw [kind_ix hf, tp]
    exact kind_ino t
  rw [eB_def, this]
  rfl
theorem keq_at {ρ : SEnv} {t : Sen} {f : SEnv → Option Sl} (hf : f ρ = some (.pl (senD t))) (k : Str) : eB (tCmp2 eqD (eIx f (eC (.int 0))) (eC (.str k))) ρ = some (.pl (.bool (kindS t == k))) := by
  rw [eB_def, tCmp2_def, kind_ix hf]
  rfl
theorem kne_at {ρ : SEnv} {t : Sen} {f : SEnv → Option Sl} (hf : f ρ = some (.pl (senD t))) (k : Str) : eB (tCmp2 neD (eIx f (eC (.int 0))) (eC (.str k))) ρ = some (.pl (.bool (!(kindS t == k)))) := by
  rw [eB_def, tCmp2_def, kind_ix hf]
  rfl
theorem shown_eq : ∀ (t : Sen) (n : Nat), t.depth ≤ n → t.size ≤ 1000 → (∀ s ∈ t.names, Gn s) → R_shown_sentence n [.pl (senD t)] = some (.ret (.pl (.str (stx t 1)))) := by
  intro t
  induction t with
  | is s =>
    intro n h _ _
    obtain ⟨n, rfl⟩ : ∃ m, n = m + 1 := ⟨n - 1, by simp only [Sen.depth] at h; omega⟩
    refine R_shown_sentence_rt ?_
    unfold B_shown_sentence
    simp -implicitDefEqProofs (disch := omega) only [fnD_def, eBin_def, eUn_def, eVar_def, eC_def, tCmp2_def, eB_def, sSeq_def, sAsg_def, sRet_def, sNext_def, sIf_def, eCall_def, eBui_def, aCons_def, aNil_def, dCons_def, dNil_def, eTup_def, eLst_def, eIx_def, tAnd2_def, tOr2_def, tNot1_def, tTru_def, eAnd_def, eOr_def, eIsi_def, sWipeB_def, wipeO_nx, wipeO_rt, wipeO_bk, wipeO_ct, gPut_def, gTupF_tup, gsCons_cons, gsNil_nil, opt_map_some, get_zero, get_succ, put_zero, put_succ, borq_pl, borq_own, borq_brw, borq_tk, bor_tk, eUnk_def, unkS_tk, borq_dic, borq_bdc, bor_pl, bor_own, bor_brw, bor_dic, bor_bdc, sto_pl, sto_own, sto_dic, sl2_pl, sl1_pl, modD_p, addD_int, iF0_int, mulD_l, mulD_r, divD_p, powD_p, shlD_p, shrD_p, uF_int, vw2_pl, cF_int, eqD_int, neD_int, isnF_none, notnF_none, isNoneD_none, isNoneD_int, wipe1_nil, wipe1_cons, truD_bool, toD_pl, List.length_cons, List.length_nil, Nat.reduceAdd, Nat.reduceSub, if_true, List.replicate, List.cons_append, List.nil_append, Nat.zero_add, Bool.not_true, Bool.not_false, decide_true, decide_false, Nat.reduceLeDiff, Int.reduceSub, Int.reduceAdd, notD_bool, isi_int_int, isi_int_bool, opt_bind_some, sFor_def, eLc_def, csrc_def, vsrc_def, rg1_def, eSrc_def, enT_def, sFrz_def, sRetVar_def, sMov_def, ev_shown_sentence, senD, ixD_tuple, at2s, eqD_str, wis]
    rfl
  | not x ih =>
    intro n h hs hn
    obtain ⟨n, rfl⟩ : ∃ m, n = m + 1 := ⟨n - 1, by simp only [Sen.depth] at h; omega⟩
    have e := ih n (by simp only [Sen.depth] at h; omega) (by simp only [Sen.size] at hs; omega) hn
    have hl1 := stx_len x 1 hn
    have hl := stx_len x 3 hn
    simp only [Sen.size] at hs
    have ad : addD (.str "not ") (.str (stx x 3)) = some (.str (stx (.not x) 1)) := addD_str (by rw [lits_len.1]; omega)
    let ρ1 : SEnv := ev_shown_sentence (.pl (senD (.not x))) (.pl (.str "not"))
    have i1 : eIx (eVar 0) (eC (.int 1)) ρ1 = some (.pl (senD x)) := rfl
    have pt := part_of (Fr := R_shown_sentence n) (t := x) (u := 3) (b := isn x) (by cases x <;> rfl) e (by omega)
    have cl : eCall (G_as_part (R_shown_sentence n)) (aCons (eIx (eVar 0) (eC (.int 1))) (aCons (eB (tInS false (eIx (eIx (eVar 0) (eC (.int 1))) (eC (.int 0))) (eTup (dCons (eC (.str "is")) (dCons (eC (.str "not")) dNil))))) aNil)) ρ1 = some (.pl (.str (stx x 3))) := by
      rw [eCall_def, aCons_def, aCons_def, i1, isn_at i1]
      show (match G_as_part (R_shown_sentence n) [.pl (senD x), .pl (.bool (isn x))] with | some (.ret s) => some s | _ => none) = _
      rw [pt]
    refine R_shown_sentence_rt ?_
    unfold B_shown_sentence
    refine (sSeq_nx (ρ' := ρ1) rfl).trans ((sSeq_nx (ρ' := ρ1) ?_).trans (sSeq_rt ?_))
    · rw [sIf_def, show tCmp2 eqD (eVar 1) (eC (.str "is")) ρ1 = some false from congrArg some wis.2.1]; rfl
    · rw [sIf_def, show tCmp2 eqD (eVar 1) (eC (.str "not")) ρ1 = some true from congrArg some wnot.1]
      dsimp only
      rw [sRet_def, eBin_def, cl]
      show Option.map _ ((addD (.str "not ") (.str (stx x 3))).map Sl.pl) = _
      rw [ad]
      rfl
  | con x y ihx ihy =>
    intro n h hs hn
    obtain ⟨n, rfl⟩ : ∃ m, n = m + 1 := ⟨n - 1, by simp only [Sen.depth] at h; omega⟩
    simp only [Sen.depth] at h
    simp only [Sen.size] at hs
    have nx : ∀ s ∈ x.names, Gn s := fun s hs => hn s (List.mem_append_left _ hs)
    have ny : ∀ s ∈ y.names, Gn s := fun s hs => hn s (List.mem_append_right _ hs)
    have ex := ihx n (by omega) (by omega) nx
    have ey := ihy n (by omega) (by omega) ny
    have hx1 := stx_len x 1 nx
    have hy1 := stx_len y 1 ny
    have hx := stx_len x 2 nx
    have hy := stx_len y 3 ny
    let T : Sl := .pl (senD (.con x y))
    let Kd : Sl := .pl (.str "and")
    let ρ1 : SEnv := ev_shown_sentence T Kd
    let ρ2 : SEnv := ev_shown_sentence T Kd (.pl (.str (stx x 2)))
    let ρ3 : SEnv := ev_shown_sentence T Kd (.pl (.str (stx x 2))) (.pl (.str (stx y 3)))
    have i1 : eIx (eVar 0) (eC (.int 1)) ρ1 = some (.pl (senD x)) := rfl
    have i2 : eIx (eVar 0) (eC (.int 2)) ρ2 = some (.pl (senD y)) := rfl
    have px := part_of (Fr := R_shown_sentence n) (t := x) (u := 2) (b := !(kindS x == "or")) (by cases x <;> simp only [kindS, bareL, wneq] <;> rfl) ex (by omega)
    have py := part_of (Fr := R_shown_sentence n) (t := y) (u := 3) (b := isn y) (by cases y <;> rfl) ey (by omega)
    have cx : eCall (G_as_part (R_shown_sentence n)) (aCons (eIx (eVar 0) (eC (.int 1))) (aCons (eOr (eB (tCmp2 eqD (eVar 1) (eC (.str "or")))) (eB (tCmp2 neD (eIx (eIx (eVar 0) (eC (.int 1))) (eC (.int 0))) (eC (.str "or"))))) aNil)) ρ1 = some (.pl (.str (stx x 2))) := by
      have bo : eOr (eB (tCmp2 eqD (eVar 1) (eC (.str "or")))) (eB (tCmp2 neD (eIx (eIx (eVar 0) (eC (.int 1))) (eC (.int 0))) (eC (.str "or")))) ρ1 = some (.pl (.bool (!(kindS x == "or")))) := by
        rw [eOr_def, show eB (tCmp2 eqD (eVar 1) (eC (.str "or"))) ρ1 = some (.pl (.bool false)) from congrArg (fun b => some (Sl.pl (.bool b))) wneq.2.2.1]
        exact kne_at i1 "or"
      rw [eCall_def, aCons_def, aCons_def, i1, bo]
      show (match G_as_part (R_shown_sentence n) [.pl (senD x), .pl (.bool (!(kindS x == "or")))] with | some (.ret s) => some s | _ => none) = _
      rw [px]
    have cy : eCall (G_as_part (R_shown_sentence n)) (aCons (eIx (eVar 0) (eC (.int 2))) (aCons (eOr (eB (tInS false (eIx (eIx (eVar 0) (eC (.int 2))) (eC (.int 0))) (eTup (dCons (eC (.str "is")) (dCons (eC (.str "not")) dNil))))) (eAnd (eB (tCmp2 eqD (eVar 1) (eC (.str "or")))) (eB (tCmp2 eqD (eIx (eIx (eVar 0) (eC (.int 2))) (eC (.int 0))) (eC (.str "and")))))) aNil)) ρ2 = some (.pl (.str (stx y 3))) := by
      have bo : eOr (eB (tInS false (eIx (eIx (eVar 0) (eC (.int 2))) (eC (.int 0))) (eTup (dCons (eC (.str "is")) (dCons (eC (.str "not")) dNil))))) (eAnd (eB (tCmp2 eqD (eVar 1) (eC (.str "or")))) (eB (tCmp2 eqD (eIx (eIx (eVar 0) (eC (.int 2))) (eC (.int 0))) (eC (.str "and"))))) ρ2 = some (.pl (.bool (isn y))) := by
        rw [eOr_def, isn_at i2, eAnd_def, show eB (tCmp2 eqD (eVar 1) (eC (.str "or"))) ρ2 = some (.pl (.bool false)) from congrArg (fun b => some (Sl.pl (.bool b))) wneq.2.2.1]
        cases isn y <;> rfl
      rw [eCall_def, aCons_def, aCons_def, i2, bo]
      show (match G_as_part (R_shown_sentence n) [.pl (senD y), .pl (.bool (isn y))] with | some (.ret s) => some s | _ => none) = _
      rw [py]
    have l1 := lits_len.2.2.2.2.2.1
    have l2 := lits_len.2.2.2.2.2.2.1
    have a1 : addD (.str (stx x 2)) (.str " ") = some (.str (stx x 2 ++ " ")) := addD_str (by omega)
    have a2 : addD (.str (stx x 2 ++ " ")) (.str "and") = some (.str (stx x 2 ++ " " ++ "and")) := addD_str (by rw [len_app]; omega)
    have a3 : addD (.str (stx x 2 ++ " " ++ "and")) (.str " ") = some (.str (stx x 2 ++ " " ++ "and" ++ " ")) := addD_str (by rw [len_app, len_app]; omega)
    have a4 : addD (.str (stx x 2 ++ " " ++ "and" ++ " ")) (.str (stx y 3)) = some (.str (stx x 2 ++ " " ++ "and" ++ " " ++ stx y 3)) := addD_str (by rw [len_app, len_app, len_app]; omega)
    have fin : stx x 2 ++ " " ++ "and" ++ " " ++ stx y 3 = stx (.con x y) 1 := by
      rw [show stx (.con x y) 1 = stx x 2 ++ " and " ++ stx y 3 from if_neg (by decide)]
      refine ext_tl ?_
      simp only [tl_append, tl_blank, tlits.2.1, tlits.2.2.2.2.2.2.1, List.append_assoc]
      rfl
    refine R_shown_sentence_rt ?_
    unfold B_shown_sentence
    refine (sSeq_nx (ρ' := ρ1) rfl).trans ((sSeq_nx (ρ' := ρ1) ?_).trans ((sSeq_nx (ρ' := ρ1) ?_).trans ((sSeq_nx (ρ' := ρ2) ?_).trans ((sSeq_nx (ρ' := ρ3) ?_).trans ?_))))
    · rw [sIf_def, show tCmp2 eqD (eVar 1) (eC (.str "is")) ρ1 = some false from congrArg some wis.2.2.1]; rfl
    · rw [sIf_def, show tCmp2 eqD (eVar 1) (eC (.str "not")) ρ1 = some false from congrArg some wnot.2.1]; rfl
    · rw [sAsg_def, cx]; rfl
    · rw [sAsg_def, cy]; rfl
    · rw [← fin]
      simp -implicitDefEqProofs (disch := omega) only [fnD_def, eBin_def, eUn_def, eVar_def, eC_def, tCmp2_def, eB_def, sSeq_def, sAsg_def, sRet_def, sNext_def, sIf_def, eCall_def, eBui_def, aCons_def, aNil_def, dCons_def, dNil_def, eTup_def, eLst_def, eIx_def, tAnd2_def, tOr2_def, tNot1_def, tTru_def, eAnd_def, eOr_def, eIsi_def, sWipeB_def, wipeO_nx, wipeO_rt, wipeO_bk, wipeO_ct, gPut_def, gTupF_tup, gsCons_cons, gsNil_nil, opt_map_some, get_zero, get_succ, put_zero, put_succ, borq_pl, borq_own, borq_brw, borq_tk, bor_tk, eUnk_def, unkS_tk, borq_dic, borq_bdc, bor_pl, bor_own, bor_brw, bor_dic, bor_bdc, sto_pl, sto_own, sto_dic, sl2_pl, sl1_pl, modD_p, addD_int, iF0_int, mulD_l, mulD_r, divD_p, powD_p, shlD_p, shrD_p, uF_int, vw2_pl, cF_int, eqD_int, neD_int, isnF_none, notnF_none, isNoneD_none, isNoneD_int, wipe1_nil, wipe1_cons, truD_bool, toD_pl, List.length_cons, List.length_nil, Nat.reduceAdd, Nat.reduceSub, if_true, List.replicate, List.cons_append, List.nil_append, Nat.zero_add, Bool.not_true, Bool.not_false, decide_true, decide_false, Nat.reduceLeDiff, Int.reduceSub, Int.reduceAdd, notD_bool, isi_int_int, isi_int_bool, opt_bind_some, sFor_def, eLc_def, csrc_def, vsrc_def, rg1_def, eSrc_def, enT_def, sFrz_def, sRetVar_def, sMov_def, ρ3, ev_shown_sentence, Kd, a1, a2, a3, a4]
  | dis x y ihx ihy =>
    intro n h hs hn
    obtain ⟨n, rfl⟩ : ∃ m, n = m + 1 := ⟨n - 1, by simp only [Sen.depth] at h; omega⟩
    simp only [Sen.depth] at h
    simp only [Sen.size] at hs
    have nx : ∀ s ∈ x.names, Gn s := fun s hs => hn s (List.mem_append_left _ hs)
    have ny : ∀ s ∈ y.names, Gn s := fun s hs => hn s (List.mem_append_right _ hs)
    have ex := ihx n (by omega) (by omega) nx
    have ey := ihy n (by omega) (by omega) ny
    have hx := stx_len x 1 nx
    have hy1 := stx_len y 1 ny
    have hy := stx_len y 2 ny
    let T : Sl := .pl (senD (.dis x y))
    let Kd : Sl := .pl (.str "or")
    let ρ1 : SEnv := ev_shown_sentence T Kd
    let ρ2 : SEnv := ev_shown_sentence T Kd (.pl (.str (stx x 1)))
    let ρ3 : SEnv := ev_shown_sentence T Kd (.pl (.str (stx x 1))) (.pl (.str (stx y 2)))
    have i1 : eIx (eVar 0) (eC (.int 1)) ρ1 = some (.pl (senD x)) := rfl
    have i2 : eIx (eVar 0) (eC (.int 2)) ρ2 = some (.pl (senD y)) := rfl
    have px := part_of (Fr := R_shown_sentence n) (t := x) (u := 1) (b := true) (by cases x <;> rfl) ex (by omega)
    have py := part_of (Fr := R_shown_sentence n) (t := y) (u := 2) (b := isn y || (kindS y == "and")) (by cases y <;> simp only [kindS, bareL, isn, wneq, wand] <;> rfl) ey (by omega)
    have cx : eCall (G_as_part (R_shown_sentence n)) (aCons (eIx (eVar 0) (eC (.int 1))) (aCons (eOr (eB (tCmp2 eqD (eVar 1) (eC (.str "or")))) (eB (tCmp2 neD (eIx (eIx (eVar 0) (eC (.int 1))) (eC (.int 0))) (eC (.str "or"))))) aNil)) ρ1 = some (.pl (.str (stx x 1))) := by
      have bo : eOr (eB (tCmp2 eqD (eVar 1) (eC (.str "or")))) (eB (tCmp2 neD (eIx (eIx (eVar 0) (eC (.int 1))) (eC (.int 0))) (eC (.str "or")))) ρ1 = some (.pl (.bool true)) := by
        rw [eOr_def, show eB (tCmp2 eqD (eVar 1) (eC (.str "or"))) ρ1 = some (.pl (.bool true)) from congrArg (fun b => some (Sl.pl (.bool b))) wneq.2.2.2.1]
      rw [eCall_def, aCons_def, aCons_def, i1, bo]
      show (match G_as_part (R_shown_sentence n) [.pl (senD x), .pl (.bool true)] with | some (.ret s) => some s | _ => none) = _
      rw [px]
    have cy : eCall (G_as_part (R_shown_sentence n)) (aCons (eIx (eVar 0) (eC (.int 2))) (aCons (eOr (eB (tInS false (eIx (eIx (eVar 0) (eC (.int 2))) (eC (.int 0))) (eTup (dCons (eC (.str "is")) (dCons (eC (.str "not")) dNil))))) (eAnd (eB (tCmp2 eqD (eVar 1) (eC (.str "or")))) (eB (tCmp2 eqD (eIx (eIx (eVar 0) (eC (.int 2))) (eC (.int 0))) (eC (.str "and")))))) aNil)) ρ2 = some (.pl (.str (stx y 2))) := by
      have bo : eOr (eB (tInS false (eIx (eIx (eVar 0) (eC (.int 2))) (eC (.int 0))) (eTup (dCons (eC (.str "is")) (dCons (eC (.str "not")) dNil))))) (eAnd (eB (tCmp2 eqD (eVar 1) (eC (.str "or")))) (eB (tCmp2 eqD (eIx (eIx (eVar 0) (eC (.int 2))) (eC (.int 0))) (eC (.str "and"))))) ρ2 = some (.pl (.bool (isn y || (kindS y == "and")))) := by
        rw [eOr_def, isn_at i2, eAnd_def, show eB (tCmp2 eqD (eVar 1) (eC (.str "or"))) ρ2 = some (.pl (.bool true)) from congrArg (fun b => some (Sl.pl (.bool b))) wneq.2.2.2.1]
        cases isn y with
        | true => rfl
        | false => exact keq_at i2 "and"
      rw [eCall_def, aCons_def, aCons_def, i2, bo]
      show (match G_as_part (R_shown_sentence n) [.pl (senD y), .pl (.bool (isn y || (kindS y == "and")))] with | some (.ret s) => some s | _ => none) = _
      rw [py]
    have l1 := lits_len.2.2.2.2.2.1
    have l2 := lits_len.2.2.2.2.2.2.2
    have a1 : addD (.str (stx x 1)) (.str " ") = some (.str (stx x 1 ++ " ")) := addD_str (by omega)
    have a2 : addD (.str (stx x 1 ++ " ")) (.str "or") = some (.str (stx x 1 ++ " " ++ "or")) := addD_str (by rw [len_app]; omega)
    have a3 : addD (.str (stx x 1 ++ " " ++ "or")) (.str " ") = some (.str (stx x 1 ++ " " ++ "or" ++ " ")) := addD_str (by rw [len_app, len_app]; omega)
    have a4 : addD (.str (stx x 1 ++ " " ++ "or" ++ " ")) (.str (stx y 2)) = some (.str (stx x 1 ++ " " ++ "or" ++ " " ++ stx y 2)) := addD_str (by rw [len_app, len_app, len_app]; omega)
    have fin : stx x 1 ++ " " ++ "or" ++ " " ++ stx y 2 = stx (.dis x y) 1 := by
      rw [show stx (.dis x y) 1 = stx x 1 ++ " or " ++ stx y 2 from if_neg (by decide)]
      refine ext_tl ?_
      simp only [tl_append, tl_blank, tlits.2.2.1, tlits.2.2.2.2.2.2.2, List.append_assoc]
      rfl
    refine R_shown_sentence_rt ?_
    unfold B_shown_sentence
    refine (sSeq_nx (ρ' := ρ1) rfl).trans ((sSeq_nx (ρ' := ρ1) ?_).trans ((sSeq_nx (ρ' := ρ1) ?_).trans ((sSeq_nx (ρ' := ρ2) ?_).trans ((sSeq_nx (ρ' := ρ3) ?_).trans ?_))))
    · rw [sIf_def, show tCmp2 eqD (eVar 1) (eC (.str "is")) ρ1 = some false from congrArg some wis.2.2.2]; rfl
    · rw [sIf_def, show tCmp2 eqD (eVar 1) (eC (.str "not")) ρ1 = some false from congrArg some wnot.2.2]; rfl
    · rw [sAsg_def, cx]; rfl
    · rw [sAsg_def, cy]; rfl
    · rw [← fin]
      simp -implicitDefEqProofs (disch := omega) only [fnD_def, eBin_def, eUn_def, eVar_def, eC_def, tCmp2_def, eB_def, sSeq_def, sAsg_def, sRet_def, sNext_def, sIf_def, eCall_def, eBui_def, aCons_def, aNil_def, dCons_def, dNil_def, eTup_def, eLst_def, eIx_def, tAnd2_def, tOr2_def, tNot1_def, tTru_def, eAnd_def, eOr_def, eIsi_def, sWipeB_def, wipeO_nx, wipeO_rt, wipeO_bk, wipeO_ct, gPut_def, gTupF_tup, gsCons_cons, gsNil_nil, opt_map_some, get_zero, get_succ, put_zero, put_succ, borq_pl, borq_own, borq_brw, borq_tk, bor_tk, eUnk_def, unkS_tk, borq_dic, borq_bdc, bor_pl, bor_own, bor_brw, bor_dic, bor_bdc, sto_pl, sto_own, sto_dic, sl2_pl, sl1_pl, modD_p, addD_int, iF0_int, mulD_l, mulD_r, divD_p, powD_p, shlD_p, shrD_p, uF_int, vw2_pl, cF_int, eqD_int, neD_int, isnF_none, notnF_none, isNoneD_none, isNoneD_int, wipe1_nil, wipe1_cons, truD_bool, toD_pl, List.length_cons, List.length_nil, Nat.reduceAdd, Nat.reduceSub, if_true, List.replicate, List.cons_append, List.nil_append, Nat.zero_add, Bool.not_true, Bool.not_false, decide_true, decide_false, Nat.reduceLeDiff, Int.reduceSub, Int.reduceAdd, notD_bool, isi_int_int, isi_int_bool, opt_bind_some, sFor_def, eLc_def, csrc_def, vsrc_def, rg1_def, eSrc_def, enT_def, sFrz_def, sRetVar_def, sMov_def, ρ3, ev_shown_sentence, Kd, a1, a2, a3, a4]

--#
/-! reckoning with handed lists -/
theorem eCallC_of {F : FnC} {as : List ArgC} {ρ ρ' : SEnv} {ss ss' : List Sl} {s : Sl} (ha : argsC as ρ = some ss) (hF : F ss = some (.ret s, ss')) (hb : backA as ss' ρ = some ρ') : eCallC F as ρ = some (s, ρ') := by
  unfold eCallC
  rw [ha]
  simp only [hF, hb, Option.map]
theorem sExpC_of {f : SEnv → Option (Sl × SEnv)} {ρ ρ' : SEnv} {s : Sl} (h : f ρ = some (s, ρ')) : sExpC f ρ = some (.nx ρ') := by
  unfold sExpC
  rw [h]
theorem sAsgC_of {i : Nat} {f : SEnv → Option (Sl × SEnv)} {ρ ρ' : SEnv} {s t : Sl} (h : f ρ = some (s, ρ')) (hs : sto s = some t) : sAsgC i f ρ = some (.nx (put ρ' i t)) := by
  unfold sAsgC
  rw [h]
  simp only [hs, Option.map]
theorem sPopToL_lno {i j : Nat} {ρ : SEnv} {a : Addr} {l : List D} {x : D} (h : get ρ j = .lno a (l ++ [x])) : sPopToL i j ρ = some (.nx (put (put ρ j (.lno a l)) i (.pl x))) := by
  unfold sPopToL
  rw [h]
  simp [lstS, setS]
theorem sPopL_lno {j : Nat} {ρ : SEnv} {a : Addr} {l : List D} {x : D} (h : get ρ j = .lno a (l ++ [x])) : sPopL j ρ = some (.nx (put ρ j (.lno a l))) := by
  unfold sPopL
  rw [h]
  simp [lstS, setS]
theorem sAppL_lno {i : Nat} {ρ : SEnv} {a : Addr} {l : List D} {f : SEnv → Option Sl} {s : Sl} {d : D} (h : get ρ i = .lno a l) (hf : f ρ = some s) (hd : toD s = some d) (hl : l.length < 100000) : sAppL i f ρ = some (.nx (put ρ i (.lno a (l ++ [d])))) := by
  unfold sAppL
  rw [h, hf, opt_bind_some, hd]
  show (if l.length < 100000 then _ else none) = _
  rw [if_pos hl]
  rfl
theorem sExtL_lno {i : Nat} {ρ : SEnv} {a : Addr} {l es : List D} {f : SEnv → Option Sl} {s : Sl} (h : get ρ i = .lno a l) (hf : f ρ = some s) (hd : ditems s = some es) (hl : l.length + es.length ≤ 100000) : sExtL i f ρ = some (.nx (put ρ i (.lno a (l ++ es)))) := by
  unfold sExtL
  rw [h, hf, opt_bind_some, hd]
  show (if l.length + es.length ≤ 100000 then _ else none) = _
  rw [if_pos hl]
  rfl
theorem sAppPop_lno {i : Nat} {ρ : SEnv} {a : Addr} {l : List D} {x d c : D} {fa fc : SEnv → Option Sl} (h : get ρ i = .lno a (l ++ [x])) (ha : fa ρ = some (.pl d)) (hc : fc (put ρ i (.lno a l)) = some (.pl c)) (hl : l.length < 90000) : sAppPop i fa fc ρ = some (.nx (put ρ i (.lno a (l ++ [.tuple [d, x, c]])))) := by
  have e : (l ++ [x]).length < 100000 := by rw [List.length_append, List.length_singleton]; omega
  unfold sAppPop
  rw [h, ha]
  show (match (l ++ [x]).getLast?, (fc (put ρ i (.lno a (l ++ [x]).dropLast))).bind toD with | some d', some c => _ | _, _ => none) = _
  rw [List.dropLast_concat, hc, List.getLast?_concat]
  show (if (l ++ [x]).length < 100000 then _ else none) = _
  rw [if_pos e]
  rfl
theorem sSeq_rm {f g : SEnv → Option Out} {ρ ρ' : SEnv} {s : Sl} (h : f ρ = some (.rm s ρ')) : sSeq f g ρ = some (.rm s ρ') := by unfold sSeq; rw [h]
theorem rep_flat {α : Type} (x : α) : ∀ n : Nat, (List.replicate n [x]).flatten = List.replicate n x
  | 0 => rfl
  | n + 1 => by rw [List.replicate_succ, List.flatten_cons, List.replicate_succ, rep_flat x n]; rfl

open TL
def dS : Dd → Str
  | .par => "("
  | .nt => "not"
  | .an => "and"
  | .dj => "or"
def wD (w : List Dd) : List D := w.reverse.map fun d => .str (dS d)
def mD (m : List Sen) : List D := m.reverse.map senD
theorem wD_cons (d : Dd) (w : List Dd) : wD (d :: w) = wD w ++ [.str (dS d)] := by unfold wD; rw [List.reverse_cons, List.map_append]; rfl
theorem mD_cons (t : Sen) (m : List Sen) : mD (t :: m) = mD m ++ [senD t] := by unfold mD; rw [List.reverse_cons, List.map_append]; rfl
theorem wD_len (w : List Dd) : (wD w).length = w.length := by unfold wD; rw [List.length_map, List.length_reverse]
theorem mD_len (m : List Sen) : (mD m).length = m.length := by unfold mD; rw [List.length_map, List.length_reverse]
theorem dS_eq : (("not" : Str) == "not") = true ∧ (("and" : Str) == "not") = false ∧ (("or" : Str) == "not") = false := by decide +kernel
theorem join_top_eq {d : Dd} {w : List Dd} {m m' : List Sen} (h : topDd d m = some m') (hm : m.length ≤ 1000) : F_join_top [.own (wD (d :: w)), .own (mD m)] = some (.ret (.pl .none), [.own (wD w), .own (mD m')]) := by
  refine F_join_top_nx fun a b => ?_
  rw [wD_cons]
  cases m with
  | nil => cases d <;> cases h
  | cons x m =>
    rw [List.length_cons] at hm
    have lm := mD_len m
    let ρ0 : SEnv := ev_join_top (.lno a (wD w ++ [.str (dS d)])) (.lno b (mD (x :: m)))
    let ρ2 : SEnv := ev_join_top (.lno a (wD w)) (.lno b (mD m)) (.pl (.str (dS d))) (.pl (senD x))
    have p1 : sPopToL 2 0 ρ0 = some (.nx (ev_join_top (.lno a (wD w)) (.lno b (mD (x :: m))) (.pl (.str (dS d))))) := sPopToL_lno rfl
    have p2 : sPopToL 3 1 (ev_join_top (.lno a (wD w)) (.lno b (mD (x :: m))) (.pl (.str (dS d)))) = some (.nx ρ2) := by rw [mD_cons]; exact sPopToL_lno rfl
    suffices K_join_top_1 ρ2 = some (.nx (ev_join_top (.lno a (wD w)) (.lno b (mD m')) (.pl (.str (dS d))) (.pl (senD x)))) from ⟨_, _, by
      unfold B_join_top
      exact (sSeq_nx p1).trans ((sSeq_nx p2).trans this)⟩
    unfold K_join_top_1
    cases d with
    | par => cases h
    | nt =>
      cases h
      rw [sIf_def, show tCmp2 eqD (eVar 2) (eC (.str "not")) ρ2 = some true from congrArg some dS_eq.1]
      dsimp only
      rw [sAppL_lno (a := b) (l := mD m) (s := .pl (senD (.not x))) (d := senD (.not x)) rfl rfl rfl (by omega), mD_cons]
      rfl
    | an =>
      cases m with
      | nil => cases h
      | cons y m =>
        cases h
        rw [sIf_def, show tCmp2 eqD (eVar 2) (eC (.str "not")) ρ2 = some false from congrArg some dS_eq.2.1]
        dsimp only
        have e : get ρ2 1 = .lno b (mD m ++ [senD y]) := by show Sl.lno b (mD (y :: m)) = _; rw [mD_cons]
        have lm2 := mD_len m
        rw [List.length_cons] at hm
        rw [sAppPop_lno (a := b) (d := .str "and") (c := senD x) e rfl rfl (by omega), mD_cons]
        rfl
    | dj =>
      cases m with
      | nil => cases h
      | cons y m =>
        cases h
        rw [sIf_def, show tCmp2 eqD (eVar 2) (eC (.str "not")) ρ2 = some false from congrArg some dS_eq.2.2]
        dsimp only
        have e : get ρ2 1 = .lno b (mD m ++ [senD y]) := by show Sl.lno b (mD (y :: m)) = _; rw [mD_cons]
        have lm2 := mD_len m
        rw [List.length_cons] at hm
        rw [sAppPop_lno (a := b) (d := .str "or") (c := senD x) e rfl rfl (by omega), mD_cons]
        rfl
theorem topDd_len {d : Dd} {m m' : List Sen} (h : topDd d m = some m') : m'.length ≤ m.length := by
  cases d <;> cases m <;> try cases h
  all_goals first | (simp; done) | skip
  all_goals (rename_i x m; cases m <;> try cases h)
  all_goals simp
theorem jw_len {p : Dd → Bool} : ∀ {w : List Dd} {m : List Sen} {s : PSt}, jw p w m = some s → s.1.length ≤ w.length ∧ s.2.length ≤ m.length
  | [], m, s, h => by cases h; exact ⟨Nat.le_refl _, Nat.le_refl _⟩
  | d :: w, m, s, h => by
    change (if p d then (topDd d m).bind (jw p w) else some (d :: w, m)) = some s at h
    split at h
    · cases q : topDd d m with
      | none => rw [q] at h; cases h
      | some m' =>
        rw [q] at h
        have := jw_len (w := w) (m := m') h
        have := topDd_len q
        simp only [List.length_cons]
        omega
    · cases h; exact ⟨Nat.le_refl _, Nat.le_refl _⟩
theorem last_wD (d : Dd) (w : List Dd) : atI (wD (d :: w)) (-1) = some (.str (dS d)) := by
  rw [wD_cons]
  unfold atI
  have e : ixN (wD w ++ [PyData.str (dS d)]).length (-1) = some (wD w).length := by
    unfold ixN
    rw [if_neg (by decide), if_pos (by rw [List.length_append]; simp; omega)]
    rw [List.length_append, List.length_singleton]
    congr 1
    omega
  rw [e]
  simp
theorem jw_while {p : Dd → Bool} {L : List Str} (hp : ∀ d, p d = decide (dS d ∈ L)) (a b : Addr) : ∀ (w : List Dd) (m : List Sen) (F : Nat) (s : PSt), w.length < F → m.length ≤ 1000 → jw p w m = some s →
    whileD T_join_while_1 L_join_while_1 F (ev_join_while (.lno a (wD w)) (.lno b (mD m)) (.pl (.tuple (L.map .str)))) = some (.nx (ev_join_while (.lno a (wD s.1)) (.lno b (mD s.2)) (.pl (.tuple (L.map .str)))))
  | [], m, F, s, hF, hm, h => by
    cases h
    obtain ⟨F, rfl⟩ : ∃ G, F = G + 1 := ⟨F - 1, by simp at hF; omega⟩
    refine whileD_stop ?_
    rfl
  | d :: w, m, F, s, hF, hm, h => by
    obtain ⟨F, rfl⟩ : ∃ G, F = G + 1 := ⟨F - 1, by omega⟩
    rw [List.length_cons] at hF
    let ρ : SEnv := ev_join_while (.lno a (wD (d :: w))) (.lno b (mD m)) (.pl (.tuple (L.map .str)))
    have tt : T_join_while_1 ρ = some (p d) := by
      have t1 : tCmp2 gtD (eBui lenF (aCons (eVar 0) aNil)) (eC (.int 0)) ρ = some true := by
        have : lenF [.brw (wD (d :: w))] = some (.pl (.int ((w.length + 1 : Nat) : Int))) := by rw [lenF_brw, wD_len]; rfl
        rw [tCmp2_def, show eBui lenF (aCons (eVar 0) aNil) ρ = some (.pl (.int ((w.length + 1 : Nat) : Int))) from this]
        show some (decide ((0 : Int) < ((w.length + 1 : Nat) : Int))) = _
        rw [decide_eq_true (by omega)]
      have t2 : eIx (eVar 0) (eUn (uF fun i => -i) (eC (.int 1))) ρ = some (.pl (.str (dS d))) := by
        show (ixD (.brw (wD (d :: w))) (.int (-1))).map Sl.pl = _
        rw [ixD_brw, last_wD]
        rfl
      have t3 : tInS false (eIx (eVar 0) (eUn (uF fun i => -i) (eC (.int 1)))) (eVar 2) ρ = some (p d) := by
        unfold tInS
        rw [t2]
        show inFn false (.str (dS d)) (L.map .str) = _
        rw [inF_strs, hp]
        simp
      unfold T_join_while_1
      rw [tAnd2_def, t1]
      exact t3
    change (if p d then (topDd d m).bind (jw p w) else some (d :: w, m)) = some s at h
    cases q : p d with
    | true =>
      rw [q] at h tt
      cases qt : topDd d m with
      | none => rw [qt] at h; cases h
      | some m' =>
        rw [qt] at h
        have := topDd_len qt
        rw [whileD_go tt (ρ2 := ev_join_while (.lno a (wD w)) (.lno b (mD m')) (.pl (.tuple (L.map .str)))) ?_]
        · exact jw_while hp a b w m' F s (by omega) (by omega) h
        · unfold L_join_while_1
          exact sExpC_of (eCallC_of (ss := [.own (wD (d :: w)), .own (mD m)]) rfl (join_top_eq qt hm) rfl)
    | false =>
      rw [q] at h tt
      cases h
      exact whileD_stop tt
theorem join_while_eq {p : Dd → Bool} {L : List Str} (hp : ∀ d, p d = decide (dS d ∈ L)) {w : List Dd} {m : List Sen} {s : PSt} (hw : w.length ≤ 900) (hm : m.length ≤ 1000) (h : jw p w m = some s) :
    F_join_while [.own (wD w), .own (mD m), .pl (.tuple (L.map .str))] = some (.ret (.pl .none), [.own (wD s.1), .own (mD s.2), .un]) := by
  refine F_join_while_nx fun a b => ⟨.pl (.tuple (L.map .str)), ?_⟩
  unfold B_join_while
  exact jw_while hp a b w m 1000 s (by omega) hm h
theorem pAO_ok : ∀ d, pAO d = decide (dS d ∈ (["and", "or"] : List Str)) := by intro d; cases d <;> decide +kernel
theorem pAn_ok : ∀ d, pAn d = decide (dS d ∈ (["and"] : List Str)) := by intro d; cases d <;> decide +kernel
theorem pNt_ok : ∀ d, pNt d = decide (dS d ∈ (["not"] : List Str)) := by intro d; cases d <;> decide +kernel
theorem close1_len {s t : PSt} (h : close1 s = some t) : t.1.length ≤ s.1.length ∧ t.2.length ≤ s.2.length := by
  unfold close1 at h
  cases q : jw pAO s.1 s.2 with
  | none => rw [q] at h; cases h
  | some u =>
    rw [q] at h
    obtain ⟨l1, l2⟩ := jw_len q
    obtain ⟨w, m⟩ := u
    cases w with
    | nil => cases h
    | cons d w =>
      obtain ⟨l3, l4⟩ := jw_len (show jw pNt w m = some t from h)
      simp only [List.length_cons] at l1 l2
      omega
theorem closes_len : ∀ {n : Nat} {s t : PSt}, closes n s = some t → t.1.length ≤ s.1.length ∧ t.2.length ≤ s.2.length
  | 0, s, t, h => by cases h; exact ⟨Nat.le_refl _, Nat.le_refl _⟩
  | n + 1, s, t, h => by
    change (close1 s).bind (closes n) = some t at h
    cases q : close1 s with
    | none => rw [q] at h; cases h
    | some u =>
      rw [q] at h
      have a := close1_len q
      have b := closes_len (n := n) h
      omega
theorem closed_step {s t : PSt} {a b : Addr} {C : Sl} {d : D} (hw : s.1.length ≤ 900) (hm : s.2.length ≤ 1000) (h : close1 s = some t) : L_closed_1 (ev_closed (.lno a (wD s.1)) (.lno b (mD s.2)) C (.pl d)) = some (.nx (ev_closed (.lno a (wD t.1)) (.lno b (mD t.2)) C)) := by
  unfold close1 at h
  cases q : jw pAO s.1 s.2 with
  | none => rw [q] at h; cases h
  | some u =>
    rw [q] at h
    obtain ⟨l1, l2⟩ := jw_len q
    obtain ⟨w, m⟩ := u
    cases w with
    | nil => cases h
    | cons e w =>
      have h : jw pNt w m = some t := h
      simp only [List.length_cons] at l1 l2
      let G : List Dd → List Sen → SEnv := fun w m => ev_closed (.lno a (wD w)) (.lno b (mD m)) C (.pl d)
      have k1 : K_closed_1 (G s.1 s.2) = some (.nx (G (e :: w) m)) := by
        unfold K_closed_1
        exact sExpC_of (eCallC_of (ss := [.own (wD s.1), .own (mD s.2), .pl (.tuple ((["and", "or"] : List Str).map .str))]) rfl (join_while_eq pAO_ok hw hm q) rfl)
      have k2 : K_closed_2 (G (e :: w) m) = some (.nx (G (e :: w) m)) := by
        have : lenF [.brw (wD (e :: w))] = some (.pl (.int ((w.length + 1 : Nat) : Int))) := by rw [lenF_brw, wD_len]; rfl
        unfold K_closed_2
        rw [sIf_def, tCmp2_def, show eBui lenF (aCons (eVar 0) aNil) (G (e :: w) m) = some (.pl (.int ((w.length + 1 : Nat) : Int))) from this]
        rw [show vw2 eqD (some (.pl (.int ((w.length + 1 : Nat) : Int)))) (eC (.int 0) (G (e :: w) m)) = some false from congrArg some (beq_eq_false_iff_ne.mpr (by omega))]
        rfl
      have k3 : sPopL 0 (G (e :: w) m) = some (.nx (G w m)) := by
        have : get (G (e :: w) m) 0 = .lno a (wD w ++ [.str (dS e)]) := by show Sl.lno a (wD (e :: w)) = _; rw [wD_cons]
        rw [sPopL_lno this]
        rfl
      have k4 : K_closed_3 (G w m) = some (.nx (G t.1 t.2)) := by
        unfold K_closed_3
        exact sExpC_of (eCallC_of (ss := [.own (wD w), .own (mD m), .pl (.tuple ((["not"] : List Str).map .str))]) rfl (join_while_eq pNt_ok (by omega) (by omega) h) rfl)
      unfold L_closed_1
      rw [sWipeB_def, sSeq_nx k1, sSeq_nx k2, sSeq_nx k3, k4]
      rfl
theorem closed_eq {n : Nat} {s t : PSt} (hw : s.1.length ≤ 900) (hm : s.2.length ≤ 1000) (hn : n ≤ 1000) (h : closes n s = some t) : F_closed [.own (wD s.1), .own (mD s.2), .pl (.int (n : Nat))] = some (.ret (.pl (.bool true)), [.own (wD t.1), .own (mD t.2), .un]) := by
  have loop : ∀ (a b : Addr) (C : Sl) (ds : List D) (s t : PSt), s.1.length ≤ 900 → s.2.length ≤ 1000 → closes ds.length s = some t → forD (gPut 3) L_closed_1 ds (ev_closed (.lno a (wD s.1)) (.lno b (mD s.2)) C) = some (.nx (ev_closed (.lno a (wD t.1)) (.lno b (mD t.2)) C)) := by
    intro a b C ds
    induction ds with
    | nil => intro s t _ _ h; cases h; rfl
    | cons d ds ih =>
      intro s t hw hm h
      change (close1 s).bind (closes ds.length) = some t at h
      cases q : close1 s with
      | none => rw [q] at h; cases h
      | some u =>
        rw [q] at h
        obtain ⟨l1, l2⟩ := close1_len q
        rw [forD_nx (ρ1 := ev_closed (.lno a (wD s.1)) (.lno b (mD s.2)) C (.pl d)) rfl (closed_step hw hm q)]
        exact ih u t (by omega) (by omega) h
  refine F_closed_rm fun a b => ⟨.pl (.int (n : Nat)), .un, ?_⟩
  have src : rg1 (aCons (eVar 2) aNil) (ev_closed (.lno a (wD s.1)) (.lno b (mD s.2)) (.pl (.int (n : Nat)))) = some (rgD 0 n) := by
    unfold rg1
    show (if _ then _ else _) = _
    rw [if_pos ⟨by omega, by omega⟩, Int.toNat_natCast]
  have hl : (rgD 0 n).length = n := by rw [rgD0_nD, List.length_map, List.length_range]
  unfold B_closed
  refine (sSeq_nx (ρ' := ev_closed (.lno a (wD t.1)) (.lno b (mD t.2)) (.pl (.int (n : Nat)))) ?_).trans rfl
  unfold K_closed_4
  rw [sFor_def, src]
  exact loop a b _ (rgD 0 n) s t hw hm (by rw [hl]; exact h)

--#
open TL
theorem gn_head {s : Str} (h : Gn s) : (∀ x, (tl s).head? = some x → x ≠ 40) ∧ (∀ x, (tl s).getLast? = some x → x ≠ 41) ∧ tl s ≠ [] := by
  refine ⟨fun x hx => ?_, fun x hx => ?_, fun e => ?_⟩
  · have := h.2.1 x (List.mem_of_mem_head? hx); omega
  · have := h.2.1 x (List.mem_of_getLast? hx); omega
  · have := h.1.1; rw [len_tl, e] at this; simp at this
theorem parted_eq (a b : Nat) {s : Str} (h1 : ∀ x, (tl s).head? = some x → x ≠ 40) (h2 : ∀ x, (tl s).getLast? = some x → x ≠ 41) (h3 : tl s ≠ []) (hl : a + (s.length + b) ≤ 100000) : F_parted [.pl (.str (mkS (List.replicate a 40 ++ (tl s ++ List.replicate b 41))))] = some (.ret (.pl (.tuple [.int (a : Nat), .str s, .int (b : Nat)]))) := by
  let P : Str := mkS (List.replicate a 40 ++ (tl s ++ List.replicate b 41))
  let W : Str := mkS (tl s ++ List.replicate b 41)
  have e1 : Txt.lstripChars P "(" = W := lstrip_pc a fun x hx => by
    cases q : tl s with
    | nil => exact absurd q h3
    | cons y r => rw [q] at hx; exact h1 x (by rw [q]; exact hx)
  have e2 : Txt.rstripChars W ")" = s := by
    have := rstrip_pc b (r := tl s) h2
    rw [show mkS (tl s) = s from mk_tl s] at this
    exact this
  have lP : P.length = a + (s.length + b) := by rw [len_tl, tl_mkS, List.length_append, List.length_append, List.length_replicate, List.length_replicate, ← len_tl]
  have lW : W.length = s.length + b := by rw [len_tl, tl_mkS, List.length_append, List.length_replicate, ← len_tl]
  let ρ0 : SEnv := ev_parted (.pl (.str P))
  let ρ1 : SEnv := ev_parted (.pl (.str P)) (.pl (.str W))
  let ρ2 : SEnv := ev_parted (.pl (.str P)) (.pl (.str W)) (.pl (.str s))
  have s1 : K_parted_1 ρ0 = some (.nx ρ1) := by
    unfold K_parted_1
    rw [sAsg_def, eM1_of (x := P) (y := "(") rfl rfl (show P.length ≤ 16777216 by omega), e1]
    rfl
  have s2 : K_parted_2 ρ1 = some (.nx ρ2) := by
    unfold K_parted_2
    rw [sAsg_def, eM1_of (x := W) (y := ")") rfl rfl (show W.length ≤ 16777216 by omega), e2]
    rfl
  have g0 : eBui lenF (aCons (eVar 0) aNil) ρ2 = some (.pl (.int ((a + (s.length + b) : Nat) : Int))) := by rw [← lP]; exact lenF_str (by omega)
  have g1 : eBui lenF (aCons (eVar 1) aNil) ρ2 = some (.pl (.int ((s.length + b : Nat) : Int))) := by rw [← lW]; exact lenF_str (by omega)
  have g2 : eBui lenF (aCons (eVar 2) aNil) ρ2 = some (.pl (.int ((s.length : Nat) : Int))) := lenF_str (by omega)
  refine F_parted_rt ?_
  unfold B_parted
  refine (sSeq_nx s1).trans ((sSeq_nx s2).trans ?_)
  unfold K_parted_3
  rw [sRet_def, eTup_def, dCons_def, dCons_def, dCons_def, eBin_def, eBin_def, g0, g1, g2]
  show some (Out.rt (Sl.pl (.tuple [.int (((a + (s.length + b) : Nat) : Int) - ((s.length + b : Nat) : Int)), .str s, .int (((s.length + b : Nat) : Int) - ((s.length : Nat) : Int))]))) = _
  rw [show ((a + (s.length + b) : Nat) : Int) - ((s.length + b : Nat) : Int) = (a : Nat) by omega, show ((s.length + b : Nat) : Int) - ((s.length : Nat) : Int) = (b : Nat) by omega]
theorem abc_mem {c : Nat} (h0 : 97 ≤ c) (h1 : c ≤ 122) : c ∈ ("abcdefghijklmnopqrstuvwxyz" : Str).cps.toList := by
  have : ∀ i, i < 26 → (97 + i) ∈ ("abcdefghijklmnopqrstuvwxyz" : Str).cps.toList := by decide +kernel
  have := this (c - 97) (by omega)
  rwa [show 97 + (c - 97) = c by omega] at this
theorem is_name_eq {s : Str} (h : Gn s) : F_is_name [.pl (.str s)] = some (.ret (.pl (.bool true))) := by
  let ρ : SEnv := ev_is_name (.pl (.str s))
  have hl := h.1
  have ln : eBui lenF (aCons (eVar 0) aNil) ρ = some (.pl (.int (s.length : Nat))) := lenF_str (by omega)
  have s1 : K_is_name_1 ρ = some (.nx ρ) := by
    have i1 : tInS false (eVar 0) (eC k_KEPT) ρ = some false := by
      show inFn false (.str s) (keptL.map .str) = _
      rw [inF_strs, decide_eq_false h.2.2]
      rfl
    have i2 : tCmp2 ltD (eBui lenF (aCons (eVar 0) aNil)) (eC (.int 1)) ρ = some false := by
      rw [tCmp2_def, ln]
      show some (decide (((s.length : Nat) : Int) < 1)) = _
      rw [decide_eq_false (by omega)]
    have i3 : tCmp2 gtD (eBui lenF (aCons (eVar 0) aNil)) (eC (.int 12)) ρ = some false := by
      rw [tCmp2_def, ln]
      show some (decide ((12 : Int) < ((s.length : Nat) : Int))) = _
      rw [decide_eq_false (by omega)]
    unfold K_is_name_1
    rw [sIf_def, tOr2_def, tOr2_def, i1, i2, i3]
    rfl
  have s2 : K_is_name_2 ρ = some (.nx ρ) := by
    have key := forD_map (g := gPut 1) (b := L_is_name_1) (fun c : Nat => PyData.str ⟨#[c]⟩) (fun _ : Unit => ρ) (fun _ u => u) (tl s) () fun c _ hc => ⟨_, rfl, .inl (by
      have hb := h.2.1 c hc
      show L_is_name_1 (ev_is_name (.pl (.str s)) (.pl (.str ⟨#[c]⟩))) = _
      have tt : tCmp2 (inSign true) (eVar 1) (eC k_SMALL) (ev_is_name (.pl (.str s)) (.pl (.str ⟨#[c]⟩))) = some false := by
        show some (decide (c ∈ ("abcdefghijklmnopqrstuvwxyz" : Str).cps.toList) != true) = _
        rw [decide_eq_true (abc_mem hb.1 hb.2)]
        rfl
      unfold L_is_name_1
      rw [sWipeB_def, sIf_def, tt]
      rfl)⟩
    unfold K_is_name_2
    rw [sFor_def, show eSrc ssrc (eVar 0) ρ = some ((tl s).map fun c => .str ⟨#[c]⟩) from rfl]
    exact key
  refine F_is_name_rt ?_
  unfold B_is_name
  exact (sSeq_nx s1).trans ((sSeq_nx s2).trans rfl)
theorem pars_D (a : Nat) (w : List Dd) : wD (pars a w) = wD w ++ List.replicate a (.str "(") := by
  unfold wD pars
  rw [List.reverse_append, List.reverse_replicate, List.map_append, List.map_replicate]
  rfl
theorem andor : (("and" : Str) == "and") = true ∧ (("or" : Str) == "and") = false ∧ (("or" : Str) == "or") = true := by decide +kernel
def costP : Pc → Nat
  | .nm a _ _ => a
  | .nt a => a + 1
  | _ => 1
theorem pars_len (a : Nat) (w : List Dd) : (pars a w).length = a + w.length := by unfold pars; rw [List.length_append, List.length_replicate]
theorem tk_len {b b' : Bool} {p : Pc} {s t : PSt} (h : tk b p s = some (b', t)) : t.1.length ≤ s.1.length + costP p ∧ t.2.length ≤ s.2.length + 1 := by
  cases b with
  | false => cases p with
    | an =>
      change (jw pAn s.1 s.2).map (fun t => (true, (.an :: t.1, t.2))) = some (b', t) at h
      cases q : jw pAn s.1 s.2 with
      | none => rw [q] at h; cases h
      | some u => rw [q] at h; cases h; have := jw_len q; simp only [List.length_cons, costP]; omega
    | dj =>
      change (jw pAO s.1 s.2).map (fun t => (true, (.dj :: t.1, t.2))) = some (b', t) at h
      cases q : jw pAO s.1 s.2 with
      | none => rw [q] at h; cases h
      | some u => rw [q] at h; cases h; have := jw_len q; simp only [List.length_cons, costP]; omega
    | nm a x c => cases h
    | nt a => cases h
  | true => cases p with
    | an => cases h
    | dj => cases h
    | nt a => cases h; simp only [List.length_cons, pars_len, costP]; omega
    | nm a x c =>
      change (((jw pNt (pars a s.1) (.is x :: s.2)).bind (closes c)).map fun t => (false, t)) = some (b', t) at h
      cases q : jw pNt (pars a s.1) (.is x :: s.2) with
      | none => rw [q] at h; cases h
      | some u =>
        rw [q] at h
        cases q2 : closes c u with
        | none => rw [show (some u).bind (closes c) = closes c u from rfl, q2] at h; cases h
        | some v =>
          rw [show (some u).bind (closes c) = closes c u from rfl, q2] at h
          cases h
          have a1 := jw_len q
          have a2 := closes_len q2
          rw [pars_len, List.length_cons] at a1
          simp only [costP]
          omega
theorem taken_eq {b b' : Bool} {p : Pc} {s t : PSt} (hp : PcG p) (hl : (ptx p).length ≤ 200) (hw : s.1.length + costP p ≤ 900) (hm : s.2.length ≤ 900) (h : tk b p s = some (b', t)) : F_taken [.pl (.str (ptx p)), .pl (.bool b), .own (wD s.1), .own (mD s.2)] = some (.ret (.pl (.bool b')), [.un, .un, .own (wD t.1), .own (mD t.2)]) := by
  have lw := wD_len s.1
  have lm := mD_len s.2
  cases b with
  | false =>
    cases p with
    | an =>
      change (jw pAn s.1 s.2).map (fun t => (true, (.an :: t.1, t.2))) = some (b', t) at h
      cases q : jw pAn s.1 s.2 with
      | none => rw [q] at h; cases h
      | some u =>
        rw [q] at h
        cases h
        have ul := jw_len q
        have lu := wD_len u.1
        refine F_taken_rm fun x y => ⟨.pl (.str (ptx .an)), .pl (.bool false), .un, .un, .un, ?_⟩
        let G : List Dd → List Sen → SEnv := fun w m => ev_taken (.pl (.str (ptx .an))) (.pl (.bool false)) (.lno x (wD w)) (.lno y (mD m))
        have k1 : K_taken_1 (G s.1 s.2) = some (.nx (G u.1 u.2)) := by
          unfold K_taken_1
          rw [sIf_def, show tCmp2 eqD (eVar 0) (eC (.str "and")) (G s.1 s.2) = some true from congrArg some andor.1]
          dsimp only
          exact sExpC_of (eCallC_of (ss := [.own (wD s.1), .own (mD s.2), .pl (.tuple ((["and"] : List Str).map .str))]) rfl (join_while_eq pAn_ok (by omega) (by omega) q) rfl)
        have k2 : sAppL 2 (eVar 0) (G u.1 u.2) = some (.nx (G (.an :: u.1) u.2)) := by
          rw [sAppL_lno (a := x) (l := wD u.1) (s := .pl (.str "and")) (d := .str "and") rfl rfl rfl (by omega)]
          show some (Out.nx (ev_taken _ _ (.lno x (wD u.1 ++ [.str (dS .an)])) _)) = _
          rw [← wD_cons]
        unfold B_taken
        refine sSeq_rm ?_
        unfold K_taken_4
        rw [sIf_def, show tNot1 (tTru (eVar 1)) (G s.1 s.2) = some true from rfl]
        dsimp only
        exact (sSeq_nx k1).trans ((sSeq_nx k2).trans rfl)
    | dj =>
      change (jw pAO s.1 s.2).map (fun t => (true, (.dj :: t.1, t.2))) = some (b', t) at h
      cases q : jw pAO s.1 s.2 with
      | none => rw [q] at h; cases h
      | some u =>
        rw [q] at h
        cases h
        have ul := jw_len q
        have lu := wD_len u.1
        refine F_taken_rm fun x y => ⟨.pl (.str (ptx .dj)), .pl (.bool false), .un, .un, .un, ?_⟩
        let G : List Dd → List Sen → SEnv := fun w m => ev_taken (.pl (.str (ptx .dj))) (.pl (.bool false)) (.lno x (wD w)) (.lno y (mD m))
        have k1 : K_taken_1 (G s.1 s.2) = some (.nx (G u.1 u.2)) := by
          unfold K_taken_1
          rw [sIf_def, show tCmp2 eqD (eVar 0) (eC (.str "and")) (G s.1 s.2) = some false from congrArg some andor.2.1]
          dsimp only
          rw [sIf_def, show tCmp2 eqD (eVar 0) (eC (.str "or")) (G s.1 s.2) = some true from congrArg some andor.2.2]
          dsimp only
          exact sExpC_of (eCallC_of (ss := [.own (wD s.1), .own (mD s.2), .pl (.tuple ((["and", "or"] : List Str).map .str))]) rfl (join_while_eq pAO_ok (by omega) (by omega) q) rfl)
        have k2 : sAppL 2 (eVar 0) (G u.1 u.2) = some (.nx (G (.dj :: u.1) u.2)) := by
          rw [sAppL_lno (a := x) (l := wD u.1) (s := .pl (.str "or")) (d := .str "or") rfl rfl rfl (by omega)]
          show some (Out.nx (ev_taken _ _ (.lno x (wD u.1 ++ [.str (dS .dj)])) _)) = _
          rw [← wD_cons]
        unfold B_taken
        refine sSeq_rm ?_
        unfold K_taken_4
        rw [sIf_def, show tNot1 (tTru (eVar 1)) (G s.1 s.2) = some true from rfl]
        dsimp only
        exact (sSeq_nx k1).trans ((sSeq_nx k2).trans rfl)
    | nm a x c => cases h
    | nt a => cases h
  | true =>
    -- the parts, then the brackets ahead
    have head : ∀ (a c : Nat) (z : Str) (x y : Addr), ptx p = mkS (List.replicate a 40 ++ (tl z ++ List.replicate c 41)) → (∀ x, (tl z).head? = some x → x ≠ 40) → (∀ x, (tl z).getLast? = some x → x ≠ 41) → tl z ≠ [] → a ≤ 900 → a + (z.length + c) ≤ 100000 →
        let E : List Dd → SEnv := fun w => ev_taken (.pl (.str (ptx p))) (.pl (.bool true)) (.lno x (wD w)) (.lno y (mD s.2)) (.pl (.int (a : Nat))) (.pl (.str z)) (.pl (.int (c : Nat)))
        B_taken (ev_taken (.pl (.str (ptx p))) (.pl (.bool true)) (.lno x (wD s.1)) (.lno y (mD s.2))) = (sSeq K_taken_7 (sSeq K_taken_8 (sSeq K_taken_9 (sSeq K_taken_10 (sSeq K_taken_11 K_taken_12))))) (E (pars a s.1)) := by
      intro a c z x y e h1 h2 h3 ha hz E
      let ρ : SEnv := ev_taken (.pl (.str (ptx p))) (.pl (.bool true)) (.lno x (wD s.1)) (.lno y (mD s.2))
      have k4 : K_taken_4 ρ = some (.nx ρ) := by
        unfold K_taken_4
        rw [sIf_def, show tNot1 (tTru (eVar 1)) ρ = some false from rfl]
        rfl
      have k5 : K_taken_5 ρ = some (.nx (E s.1)) := by
        have pt := parted_eq a c h1 h2 h3 hz
        rw [← e] at pt
        have cl : eCall F_parted (aCons (eVar 0) aNil) ρ = some (.pl (.tuple [.int (a : Nat), .str z, .int (c : Nat)])) := by
          show (match F_parted [.pl (.str (ptx p))] with | some (.ret s) => some s | _ => none) = _
          rw [pt]
        unfold K_taken_5 sAsgT
        rw [cl]
        rfl
      have k6 : K_taken_6 (E s.1) = some (.nx (E (pars a s.1))) := by
        have rp : eRep (eLst (dCons (eC (.str "(")) dNil)) (eVar 4) (E s.1) = some (.own (List.replicate a (.str "("))) := by
          have l1 : eLst (dCons (eC (.str "(")) dNil) (E s.1) = some (.own [.str "("]) := rfl
          unfold eRep
          rw [l1]
          show (if (-(2 ^ 63) ≤ (a : Int) ∧ (a : Int) < 2 ^ 63) ∧ [PyData.str "("].length * (a : Int).toNat ≤ 100000 then some (Sl.own (List.replicate (a : Int).toNat [PyData.str "("]).flatten) else none) = _
          rw [if_pos ⟨⟨by omega, by omega⟩, by simp; omega⟩, Int.toNat_natCast]
          rw [rep_flat]
        unfold K_taken_6
        rw [sExtL_lno (a := x) (l := wD s.1) rfl rp rfl (by rw [List.length_replicate]; omega), ← pars_D]
        rfl
      unfold B_taken
      exact (sSeq_nx k4).trans ((sSeq_nx k5).trans (sSeq_nx k6))
    cases p with
    | an => cases h
    | dj => cases h
    | nt a =>
      cases h
      simp only [costP] at hw
      refine F_taken_rm fun x y => ⟨.pl (.str (ptx (.nt a))), .pl (.bool true), .pl (.int (a : Nat)), .pl (.str "not"), .pl (.int (0 : Nat)), ?_⟩
      have lp := wD_len (pars a s.1)
      rw [pars_len] at lp
      rw [head a 0 "not" x y (by show mkS (List.replicate a 40 ++ tl "not") = mkS (List.replicate a 40 ++ (tl "not" ++ [])); rw [List.append_nil]) (by rw [tlits.2.2.2.2.2.1]; intro x hx; cases hx; decide) (by rw [tlits.2.2.2.2.2.1]; intro x hx; cases hx; decide) (by rw [tlits.2.2.2.2.2.1]; simp) (by omega) (by rw [show ("not" : Str).length = 3 from by decide +kernel]; omega)]
      refine sSeq_rm ?_
      let E : List Dd → SEnv := fun w => ev_taken (.pl (.str (ptx (.nt a)))) (.pl (.bool true)) (.lno x (wD w)) (.lno y (mD s.2)) (.pl (.int (a : Nat))) (.pl (.str "not")) (.pl (.int (0 : Nat)))
      have tt : tAnd2 (tCmp2 eqD (eVar 5) (eC (.str "not"))) (tCmp2 eqD (eVar 6) (eC (.int 0))) (E (pars a s.1)) = some true := by
        rw [tAnd2_def, show tCmp2 eqD (eVar 5) (eC (.str "not")) (E (pars a s.1)) = some true from congrArg some dS_eq.1]
        rfl
      unfold K_taken_7
      rw [sIf_def, tt]
      dsimp only
      refine (sSeq_nx (ρ' := E (.nt :: pars a s.1)) ?_).trans rfl
      unfold K_taken_3
      rw [sAppL_lno (a := x) (l := wD (pars a s.1)) (s := .pl (.str "not")) (d := .str "not") rfl rfl rfl (by omega)]
      show some (Out.nx (ev_taken _ _ (.lno x (wD (pars a s.1) ++ [.str (dS .nt)])) _ _ _ _)) = _
      rw [← wD_cons]
    | nm a z c =>
      simp only [costP] at hw
      change (((jw pNt (pars a s.1) (.is z :: s.2)).bind (closes c)).map fun t => (false, t)) = some (b', t) at h
      cases q : jw pNt (pars a s.1) (.is z :: s.2) with
      | none => rw [q] at h; cases h
      | some u =>
        rw [q] at h
        cases q2 : closes c u with
        | none => rw [show (some u).bind (closes c) = closes c u from rfl, q2] at h; cases h
        | some v =>
          rw [show (some u).bind (closes c) = closes c u from rfl, q2] at h
          cases h
          have a1 := jw_len q
          rw [pars_len, List.length_cons] at a1
          obtain ⟨g1, g2, g3⟩ := gn_head hp
          have lz : a + (z.length + c) ≤ 200 := by
            have : (ptx (.nm a z c)).length = a + (z.length + c) := by
              show (mkS (List.replicate a 40 ++ (tl z ++ List.replicate c 41))).length = _
              rw [len_tl, tl_mkS, List.length_append, List.length_append, List.length_replicate, List.length_replicate, ← len_tl]
            omega
          refine F_taken_rm fun x y => ⟨.pl (.str (ptx (.nm a z c))), .pl (.bool true), .pl (.int (a : Nat)), .pl (.str z), .pl (.int (c : Nat)), ?_⟩
          rw [head a c z x y rfl g1 g2 g3 (by omega) (by omega)]
          let E : List Dd → List Sen → SEnv := fun w m => ev_taken (.pl (.str (ptx (.nm a z c)))) (.pl (.bool true)) (.lno x (wD w)) (.lno y (mD m)) (.pl (.int (a : Nat))) (.pl (.str z)) (.pl (.int (c : Nat)))
          have zn : (z == "not") = false := beq_eq_false_iff_ne.mpr fun e => hp.2.2 (by rw [e]; decide +kernel)
          have k7 : K_taken_7 (E (pars a s.1) s.2) = some (.nx (E (pars a s.1) s.2)) := by
            unfold K_taken_7
            rw [sIf_def, tAnd2_def, show tCmp2 eqD (eVar 5) (eC (.str "not")) (E (pars a s.1) s.2) = some false from congrArg some zn]
            rfl
          have k8 : K_taken_8 (E (pars a s.1) s.2) = some (.nx (E (pars a s.1) s.2)) := by
            have tt : tTru (eCall F_is_name (aCons (eVar 5) aNil)) (E (pars a s.1) s.2) = some true := by
              show (match (match F_is_name [.pl (.str z)] with | some (.ret s) => some s | _ => none) with | some s => truD s | none => none) = _
              rw [is_name_eq hp]
              rfl
            unfold K_taken_8
            rw [sIf_def, tNot1_def, tt]
            rfl
          have k9 : K_taken_9 (E (pars a s.1) s.2) = some (.nx (E (pars a s.1) (.is z :: s.2))) := by
            unfold K_taken_9
            rw [sAppL_lno (a := y) (l := mD s.2) (s := .pl (senD (.is z))) (d := senD (.is z)) rfl rfl rfl (by omega)]
            show some (Out.nx (ev_taken _ _ _ (.lno y (mD s.2 ++ [senD (.is z)])) _ _ _)) = _
            rw [← mD_cons]
          have k10 : K_taken_10 (E (pars a s.1) (.is z :: s.2)) = some (.nx (E u.1 u.2)) := by
            unfold K_taken_10
            exact sExpC_of (eCallC_of (ss := [.own (wD (pars a s.1)), .own (mD (.is z :: s.2)), .pl (.tuple ((["not"] : List Str).map .str))]) rfl (join_while_eq pNt_ok (by rw [pars_len]; omega) (by rw [List.length_cons]; omega) q) rfl)
          have k11 : K_taken_11 (E u.1 u.2) = some (.nx (E t.1 t.2)) := by
            have cl : eCallC F_closed [.hd 2, .hd 3, .ex (eVar 6)] (E u.1 u.2) = some (.pl (.bool true), E t.1 t.2) := eCallC_of (ss := [.own (wD u.1), .own (mD u.2), .pl (.int (c : Nat))]) rfl (closed_eq (by omega) (by omega) (by omega) q2) rfl
            unfold K_taken_11 sIfC tNotC tTruC
            rw [cl]
            rfl
          exact (sSeq_nx k7).trans ((sSeq_nx k8).trans ((sSeq_nx k9).trans ((sSeq_nx k10).trans ((sSeq_nx k11).trans rfl))))

--#
open TL
def costs (ps : List Pc) : Nat := (ps.map costP).sum
theorem read_loop (T R : Sl) : ∀ (ps : List Pc) (b : Bool) (s : PSt) (b' : Bool) (s' : PSt), run ps (b, s) = some (b', s') → (∀ p ∈ ps, PcG p ∧ (ptx p).length ≤ 200) → s.1.length + costs ps ≤ 900 → s.2.length + ps.length ≤ 900 →
    forD (gPut 5) L_read_sentence_1 (ps.map fun p => .str (ptx p)) (ev_read_sentence T R (.own (wD s.1)) (.own (mD s.2)) (.pl (.bool b))) = some (.nx (ev_read_sentence T R (.own (wD s'.1)) (.own (mD s'.2)) (.pl (.bool b'))))
  | [], b, s, b', s', h, _, _, _ => by cases h; rfl
  | p :: ps, b, s, b', s', h, hp, hc, hm => by
    change (tk b p s).bind (run ps) = some (b', s') at h
    cases q : tk b p s with
    | none => rw [q] at h; cases h
    | some u =>
      obtain ⟨b1, t⟩ := u
      rw [q] at h
      have h : run ps (b1, t) = some (b', s') := h
      obtain ⟨l1, l2⟩ := tk_len q
      have hc' : s.1.length + (costP p + costs ps) ≤ 900 := hc
      rw [List.length_cons] at hm
      obtain ⟨g1, g2⟩ := hp p (List.mem_cons_self ..)
      have st : L_read_sentence_1 (ev_read_sentence T R (.own (wD s.1)) (.own (mD s.2)) (.pl (.bool b)) (.pl (.str (ptx p)))) = some (.nx (ev_read_sentence T R (.own (wD t.1)) (.own (mD t.2)) (.pl (.bool b1)))) := by
        have k1 : K_read_sentence_1 (ev_read_sentence T R (.own (wD s.1)) (.own (mD s.2)) (.pl (.bool b)) (.pl (.str (ptx p)))) = some (.nx (ev_read_sentence T R (.own (wD t.1)) (.own (mD t.2)) (.pl (.bool b1)) (.pl (.str (ptx p))))) := by
          unfold K_read_sentence_1
          exact sAsgC_of (ρ' := ev_read_sentence T R (.own (wD t.1)) (.own (mD t.2)) (.pl (.bool b)) (.pl (.str (ptx p)))) (eCallC_of (ss := [.pl (.str (ptx p)), .pl (.bool b), .own (wD s.1), .own (mD s.2)]) rfl (taken_eq g1 g2 (by omega) (by omega) q) rfl) rfl
        unfold L_read_sentence_1
        rw [sWipeB_def, sSeq_nx k1]
        rfl
      show forD (gPut 5) L_read_sentence_1 (.str (ptx p) :: ps.map fun p => .str (ptx p)) _ = _
      rw [forD_nx (ρ1 := ev_read_sentence T R (.own (wD s.1)) (.own (mD s.2)) (.pl (.bool b)) (.pl (.str (ptx p)))) rfl st]
      exact read_loop T R ps b1 t b' s' h (fun p hp' => hp p (List.mem_cons_of_mem _ hp')) (by omega) (by omega)
theorem run_len : ∀ (ps : List Pc) (b : Bool) (s : PSt) (b' : Bool) (s' : PSt), run ps (b, s) = some (b', s') → s'.1.length ≤ s.1.length + costs ps ∧ s'.2.length ≤ s.2.length + ps.length
  | [], b, s, b', s', h => by cases h; exact ⟨Nat.le_refl _, Nat.le_refl _⟩
  | p :: ps, b, s, b', s', h => by
    change (tk b p s).bind (run ps) = some (b', s') at h
    cases q : tk b p s with
    | none => rw [q] at h; cases h
    | some u =>
      obtain ⟨b1, t⟩ := u
      rw [q] at h
      have a := run_len ps b1 t b' s' h
      have b := tk_len q
      show s'.1.length ≤ s.1.length + (costP p + costs ps) ∧ s'.2.length ≤ s.2.length + (ps.length + 1)
      omega
theorem joinL_len (S : List Nat) : ∀ ls : List (List Nat), (ls.map List.length).sum ≤ (joinL S ls).length
  | [] => Nat.le_refl _
  | [p] => by show p.length + 0 ≤ p.length; omega
  | p :: q :: r => by
    have := joinL_len S (q :: r)
    show p.length + ((q :: r).map List.length).sum ≤ (p ++ (S ++ joinL S (q :: r))).length
    rw [List.length_append, List.length_append]
    omega
theorem cost_ptx (p : Pc) (h : PcG p) : costP p ≤ (ptx p).length ∧ 1 ≤ (ptx p).length := by
  have l3 : ("not" : Str).length = 3 := by decide +kernel
  cases p with
  | nm a s b =>
    have : (ptx (.nm a s b)).length = a + (s.length + b) := by
      show (mkS (List.replicate a 40 ++ (tl s ++ List.replicate b 41))).length = _
      rw [len_tl, tl_mkS, List.length_append, List.length_append, List.length_replicate, List.length_replicate, ← len_tl]
    have := h.1.1
    simp only [costP]
    omega
  | nt a =>
    have : (ptx (.nt a)).length = a + 3 := by
      show (mkS (List.replicate a 40 ++ tl "not")).length = _
      rw [len_tl, tl_mkS, List.length_append, List.length_replicate, ← len_tl, l3]
    simp only [costP]
    omega
  | an => exact ⟨by rw [show (ptx .an).length = 3 from lits_len.2.2.2.2.2.2.1]; decide, by rw [show (ptx .an).length = 3 from lits_len.2.2.2.2.2.2.1]; decide⟩
  | dj => exact ⟨by rw [show (ptx .dj).length = 2 from lits_len.2.2.2.2.2.2.2]; decide, by rw [show (ptx .dj).length = 2 from lits_len.2.2.2.2.2.2.2]; decide⟩
theorem sums_ptx : ∀ ps : List Pc, (∀ p ∈ ps, PcG p) → costs ps ≤ (ps.map fun p => (ptx p).length).sum ∧ ps.length ≤ (ps.map fun p => (ptx p).length).sum ∧ ∀ p ∈ ps, (ptx p).length ≤ (ps.map fun p => (ptx p).length).sum
  | [], _ => ⟨Nat.le_refl _, Nat.le_refl _, fun _ h => nomatch h⟩
  | p :: ps, h => by
    obtain ⟨a1, a2, a3⟩ := sums_ptx ps fun q hq => h q (List.mem_cons_of_mem _ hq)
    obtain ⟨b1, b2⟩ := cost_ptx p (h p (List.mem_cons_self ..))
    refine ⟨?_, ?_, fun q hq => ?_⟩
    · show costP p + costs ps ≤ (ptx p).length + (ps.map fun p => (ptx p).length).sum
      omega
    · show ps.length + 1 ≤ (ptx p).length + (ps.map fun p => (ptx p).length).sum
      omega
    · show (ptx q).length ≤ (ptx p).length + (ps.map fun p => (ptx p).length).sum
      rcases List.mem_cons.mp hq with e | e
      · rw [e]; omega
      · have := a3 q e; omega
theorem read_eq {t : Sen} (hg : ∀ s ∈ t.names, Gn s) (hl : (stx t 1).length ≤ 120) (R : Sl) : F_read_sentence [.pl (.str (stx t 1)), R] = some (.ret (.pl (senD t))) := by
  let ps := pcs t 1 0 0
  have gp : ∀ p ∈ ps, PcG p := pcs_good hg 1 0 0
  have tot : (ps.map fun p => (ptx p).length).sum ≤ 120 := by
    have e := joinL_len [32] (ps.map fun p => tl (ptx p))
    rw [join_pcs t 1 0 0, List.map_map] at e
    have e2 : (List.length ∘ fun p => tl (ptx p)) = fun p => (ptx p).length := by funext p; exact (len_tl _).symm
    rw [e2] at e
    have e3 : (List.replicate 0 40 ++ (tl (stx t 1) ++ List.replicate 0 41)).length = (stx t 1).length := by rw [len_tl]; simp
    rw [e3] at e
    omega
  obtain ⟨c1, c2, c3⟩ := sums_ptx ps gp
  obtain ⟨s, r1, r2, r3⟩ := run_sen t
  let T : Sl := .pl (.str (stx t 1))
  let E : List Dd → List Sen → Sl → SEnv := fun w m b => ev_read_sentence T R (.own (wD w)) (.own (mD m)) b
  have k3 : K_read_sentence_3 (ev_read_sentence T R) = some (.nx (ev_read_sentence T R)) := by
    have ln : eBui lenF (aCons (eVar 0) aNil) (ev_read_sentence T R) = some (.pl (.int ((stx t 1).length : Nat))) := lenF_str (by omega)
    unfold K_read_sentence_3
    rw [sIf_def, tCmp2_def, ln]
    rw [show vw2 gtD (some (.pl (.int ((stx t 1).length : Nat)))) (eC k_MOST_SIGNS (ev_read_sentence T R)) = some false from congrArg some (decide_eq_false (by omega))]
    rfl
  have k5 : K_read_sentence_5 (E [] [] (.pl (.bool true))) = some (.nx (E s.1 s.2 (.pl (.bool false)))) := by
    have src : eSrc lsrc (eSplit (eVar 0) (eC (.str " "))) (E [] [] (.pl (.bool true))) = some (ps.map fun p => .str (ptx p)) := by
      unfold eSrc
      rw [eSplit_of (x := stx t 1) (y := " ") rfl rfl (by decide +kernel) (by omega), stx_split hg, List.map_map]
      rfl
    unfold K_read_sentence_5
    rw [sFor_def, src]
    exact read_loop T R ps true ([], []) false s r1 (fun p hp => ⟨gp p hp, by have := c3 p hp; omega⟩) (by show 0 + costs ps ≤ 900; omega) (by show 0 + ps.length ≤ 900; omega)
  have k6 : K_read_sentence_6 (E s.1 s.2 (.pl (.bool false))) = some (.nx (E s.1 s.2 (.pl (.bool false)))) := by
    have e : wD s.1 = (s.1.reverse.map dS).map .str := by unfold wD; rw [List.map_map]; rfl
    have ni : ("(" : Str) ∉ s.1.reverse.map dS := fun z => by
      obtain ⟨d, hd, e⟩ := List.mem_map.mp z
      have : d = .par := by
        cases d with
        | par => rfl
        | nt => exact absurd e (by decide +kernel)
        | an => exact absurd e (by decide +kernel)
        | dj => exact absurd e (by decide +kernel)
      rw [this] at hd
      exact r3 (List.mem_reverse.mp hd)
    have i1 : tInS false (eC (.str "(")) (eVar 2) (E s.1 s.2 (.pl (.bool false))) = some false := by
      show inFn false (.str "(") (wD s.1) = _
      rw [e, inF_strs, decide_eq_false ni]
      rfl
    unfold K_read_sentence_6
    rw [sIf_def, tOr2_def, i1]
    rfl
  have bl := run_len ps true ([], []) false s r1
  simp only [List.length_nil, Nat.zero_add] at bl
  have k7 : K_read_sentence_7 (E s.1 s.2 (.pl (.bool false))) = some (.nx (E [] [t] (.pl (.bool false)))) := by
    unfold K_read_sentence_7
    exact sExpC_of (eCallC_of (ss := [.own (wD s.1), .own (mD s.2), .pl (.tuple ((["and", "or"] : List Str).map .str))]) rfl (join_while_eq pAO_ok (by omega) (by omega) r2) rfl)
  refine F_read_sentence_rt ?_
  unfold B_read_sentence
  refine (sSeq_nx k3).trans ((sSeq_nx (ρ' := ev_read_sentence T R (.own [])) rfl).trans ((sSeq_nx (ρ' := ev_read_sentence T R (.own []) (.own [])) rfl).trans ((sSeq_nx (ρ' := E [] [] (.pl (.bool true))) rfl).trans ((sSeq_nx k5).trans ((sSeq_nx k6).trans ((sSeq_nx k7).trans rfl))))))

--#
open TL
theorem isi_bits : kitB "str" "str" = some true ∧ kitB "tuple" "str" = some false ∧ kitB "tuple" "tuple" = some true := by decide +kernel
theorem same_str (n : Nat) (s : Str) : R__law_same (n + 1) [.pl (.str s), .pl (.str s)] = some (.ret (.pl (.bool true))) := by
  refine R__law_same_rt ?_
  unfold B__law_same
  simp -implicitDefEqProofs (disch := omega) only [fnD_def, eBin_def, eUn_def, eVar_def, eC_def, tCmp2_def, eB_def, sSeq_def, sAsg_def, sRet_def, sNext_def, sIf_def, eCall_def, eBui_def, aCons_def, aNil_def, dCons_def, dNil_def, eTup_def, eLst_def, eIx_def, tAnd2_def, tOr2_def, tNot1_def, tTru_def, eAnd_def, eOr_def, eIsi_def, sWipeB_def, wipeO_nx, wipeO_rt, wipeO_bk, wipeO_ct, gPut_def, gTupF_tup, gsCons_cons, gsNil_nil, opt_map_some, get_zero, get_succ, put_zero, put_succ, borq_pl, borq_own, borq_brw, borq_tk, bor_tk, eUnk_def, unkS_tk, borq_dic, borq_bdc, bor_pl, bor_own, bor_brw, bor_dic, bor_bdc, sto_pl, sto_own, sto_dic, sl2_pl, sl1_pl, modD_p, addD_int, iF0_int, mulD_l, mulD_r, divD_p, powD_p, shlD_p, shrD_p, uF_int, vw2_pl, cF_int, eqD_int, neD_int, isnF_none, notnF_none, isNoneD_none, isNoneD_int, wipe1_nil, wipe1_cons, truD_bool, toD_pl, List.length_cons, List.length_nil, Nat.reduceAdd, Nat.reduceSub, if_true, List.replicate, List.cons_append, List.nil_append, Nat.zero_add, Bool.not_true, Bool.not_false, decide_true, decide_false, Nat.reduceLeDiff, Int.reduceSub, Int.reduceAdd, notD_bool, isi_int_int, isi_int_bool, opt_bind_some, sFor_def, eLc_def, csrc_def, vsrc_def, rg1_def, eSrc_def, enT_def, sFrz_def, sRetVar_def, sMov_def, ev__law_same, show isiS "str" (.pl (.str s)) = some true from isi_bits.1, eqD_str, beq_self_eq_true]
theorem same_tup (n : Nat) (ds : List D) (hl : ds.length ≤ 100) (h : ∀ d ∈ ds, R__law_same n [.pl d, .pl d] = some (.ret (.pl (.bool true)))) : R__law_same (n + 1) [.pl (.tuple ds), .pl (.tuple ds)] = some (.ret (.pl (.bool true))) := by
  let T : Sl := .pl (.tuple ds)
  let ρ : SEnv := ev__law_same T T
  have key := forD_map (g := gPut 2) (b := sWipeB [2] (sIf (tNot1 (tTru (eCall (R__law_same n) (aCons (eIx (eVar 0) (eVar 2)) (aCons (eIx (eVar 1) (eVar 2)) aNil))))) (sRet (eC (.bool false))) sNext)) nD (fun _ : Unit => ρ) (fun _ u => u) (List.range ds.length) () fun k _ hk => ⟨_, rfl, .inl (by
    have hk := List.mem_range.mp hk
    have a1 : atI ds (k : Int) = some ds[k] := by rw [atI_lt (by omega) (by omega), Int.toNat_natCast, List.getElem?_eq_getElem hk]
    have e := h ds[k] (List.getElem_mem hk)
    show sWipeB [2] _ (ev__law_same T T (.pl (nD k))) = _
    simp -implicitDefEqProofs (disch := omega) only [fnD_def, eBin_def, eUn_def, eVar_def, eC_def, tCmp2_def, eB_def, sSeq_def, sAsg_def, sRet_def, sNext_def, sIf_def, eCall_def, eBui_def, aCons_def, aNil_def, dCons_def, dNil_def, eTup_def, eLst_def, eIx_def, tAnd2_def, tOr2_def, tNot1_def, tTru_def, eAnd_def, eOr_def, eIsi_def, sWipeB_def, wipeO_nx, wipeO_rt, wipeO_bk, wipeO_ct, gPut_def, gTupF_tup, gsCons_cons, gsNil_nil, opt_map_some, get_zero, get_succ, put_zero, put_succ, borq_pl, borq_own, borq_brw, borq_tk, bor_tk, eUnk_def, unkS_tk, borq_dic, borq_bdc, bor_pl, bor_own, bor_brw, bor_dic, bor_bdc, sto_pl, sto_own, sto_dic, sl2_pl, sl1_pl, modD_p, addD_int, iF0_int, mulD_l, mulD_r, divD_p, powD_p, shlD_p, shrD_p, uF_int, vw2_pl, cF_int, eqD_int, neD_int, isnF_none, notnF_none, isNoneD_none, isNoneD_int, wipe1_nil, wipe1_cons, truD_bool, toD_pl, List.length_cons, List.length_nil, Nat.reduceAdd, Nat.reduceSub, if_true, List.replicate, List.cons_append, List.nil_append, Nat.zero_add, Bool.not_true, Bool.not_false, decide_true, decide_false, Nat.reduceLeDiff, Int.reduceSub, Int.reduceAdd, notD_bool, isi_int_int, isi_int_bool, opt_bind_some, sFor_def, eLc_def, csrc_def, vsrc_def, rg1_def, eSrc_def, enT_def, sFrz_def, sRetVar_def, sMov_def, ρ, ev__law_same, T, ixD_tuple, show nD k = .int ((k : Nat) : Int) from rfl, a1, e])⟩
  have src : rg1 (aCons (eBui lenF (aCons (eVar 1) aNil)) aNil) ρ = some ((List.range ds.length).map nD) := by
    rw [← rgD0_nD]
    unfold rg1
    rw [aCons_def, show eBui lenF (aCons (eVar 1) aNil) ρ = some (.pl (.int (ds.length : Nat))) from lenF_tuple ds]
    show (if _ then _ else _) = _
    rw [if_pos ⟨by omega, by omega⟩, Int.toNat_natCast]
  have ln : lenF [.pl (.tuple ds)] = some (.pl (.int (ds.length : Nat))) := lenF_tuple ds
  have nq : neD (.int (ds.length : Nat)) (.int (ds.length : Nat)) = some false := by rw [neD_int, beq_self_eq_true]; rfl
  refine R__law_same_rt ?_
  unfold B__law_same
  refine (sSeq_nx (ρ' := ρ) ?_).trans ((sSeq_nx (ρ' := ρ) ?_).trans ((sSeq_nx (ρ' := ρ) ?_).trans rfl))
  · simp -implicitDefEqProofs (disch := omega) only [fnD_def, eBin_def, eUn_def, eVar_def, eC_def, tCmp2_def, eB_def, sSeq_def, sAsg_def, sRet_def, sNext_def, sIf_def, eCall_def, eBui_def, aCons_def, aNil_def, dCons_def, dNil_def, eTup_def, eLst_def, eIx_def, tAnd2_def, tOr2_def, tNot1_def, tTru_def, eAnd_def, eOr_def, eIsi_def, sWipeB_def, wipeO_nx, wipeO_rt, wipeO_bk, wipeO_ct, gPut_def, gTupF_tup, gsCons_cons, gsNil_nil, opt_map_some, get_zero, get_succ, put_zero, put_succ, borq_pl, borq_own, borq_brw, borq_tk, bor_tk, eUnk_def, unkS_tk, borq_dic, borq_bdc, bor_pl, bor_own, bor_brw, bor_dic, bor_bdc, sto_pl, sto_own, sto_dic, sl2_pl, sl1_pl, modD_p, addD_int, iF0_int, mulD_l, mulD_r, divD_p, powD_p, shlD_p, shrD_p, uF_int, vw2_pl, cF_int, eqD_int, neD_int, isnF_none, notnF_none, isNoneD_none, isNoneD_int, wipe1_nil, wipe1_cons, truD_bool, toD_pl, List.length_cons, List.length_nil, Nat.reduceAdd, Nat.reduceSub, if_true, List.replicate, List.cons_append, List.nil_append, Nat.zero_add, Bool.not_true, Bool.not_false, decide_true, decide_false, Nat.reduceLeDiff, Int.reduceSub, Int.reduceAdd, notD_bool, isi_int_int, isi_int_bool, opt_bind_some, sFor_def, eLc_def, csrc_def, vsrc_def, rg1_def, eSrc_def, enT_def, sFrz_def, sRetVar_def, sMov_def, ρ, ev__law_same, T, show isiS "str" (.pl (.tuple ds)) = some false from isi_bits.2.1]
  · simp -implicitDefEqProofs (disch := omega) only [fnD_def, eBin_def, eUn_def, eVar_def, eC_def, tCmp2_def, eB_def, sSeq_def, sAsg_def, sRet_def, sNext_def, sIf_def, eCall_def, eBui_def, aCons_def, aNil_def, dCons_def, dNil_def, eTup_def, eLst_def, eIx_def, tAnd2_def, tOr2_def, tNot1_def, tTru_def, eAnd_def, eOr_def, eIsi_def, sWipeB_def, wipeO_nx, wipeO_rt, wipeO_bk, wipeO_ct, gPut_def, gTupF_tup, gsCons_cons, gsNil_nil, opt_map_some, get_zero, get_succ, put_zero, put_succ, borq_pl, borq_own, borq_brw, borq_tk, bor_tk, eUnk_def, unkS_tk, borq_dic, borq_bdc, bor_pl, bor_own, bor_brw, bor_dic, bor_bdc, sto_pl, sto_own, sto_dic, sl2_pl, sl1_pl, modD_p, addD_int, iF0_int, mulD_l, mulD_r, divD_p, powD_p, shlD_p, shrD_p, uF_int, vw2_pl, cF_int, eqD_int, neD_int, isnF_none, notnF_none, isNoneD_none, isNoneD_int, wipe1_nil, wipe1_cons, truD_bool, toD_pl, List.length_cons, List.length_nil, Nat.reduceAdd, Nat.reduceSub, if_true, List.replicate, List.cons_append, List.nil_append, Nat.zero_add, Bool.not_true, Bool.not_false, decide_true, decide_false, Nat.reduceLeDiff, Int.reduceSub, Int.reduceAdd, notD_bool, isi_int_int, isi_int_bool, opt_bind_some, sFor_def, eLc_def, csrc_def, vsrc_def, rg1_def, eSrc_def, enT_def, sFrz_def, sRetVar_def, sMov_def, ρ, ev__law_same, T, show isiS "tuple" (.pl (.tuple ds)) = some true from isi_bits.2.2, ln, nq]
  · rw [sFor_def, src]
    exact key
theorem same_sen : ∀ (t : Sen) (n : Nat), t.depth < n → R__law_same n [.pl (senD t), .pl (senD t)] = some (.ret (.pl (.bool true))) := by
  have st : ∀ (m : Nat), 1 ≤ m → ∀ s, R__law_same m [.pl (.str s), .pl (.str s)] = some (.ret (.pl (.bool true))) := fun m hm s => by
    obtain ⟨m, rfl⟩ : ∃ k, m = k + 1 := ⟨m - 1, by omega⟩
    exact same_str m s
  intro t
  induction t with
  | is s =>
    intro n h
    simp only [Sen.depth] at h
    obtain ⟨n, rfl⟩ : ∃ m, n = m + 1 := ⟨n - 1, by omega⟩
    refine same_tup n _ (by simp) fun d hd => ?_
    have : d = .str "is" ∨ d = .str s := by simpa using hd
    rcases this with e | e <;> rw [e] <;> exact st n (by omega) _
  | not x ih =>
    intro n h
    simp only [Sen.depth] at h
    have := depth_pos x
    obtain ⟨n, rfl⟩ : ∃ m, n = m + 1 := ⟨n - 1, by omega⟩
    refine same_tup n _ (by simp) fun d hd => ?_
    have : d = .str "not" ∨ d = senD x := by simpa using hd
    rcases this with e | e <;> rw [e]
    · exact st n (by omega) _
    · exact ih n (by omega)
  | con x y ihx ihy =>
    intro n h
    simp only [Sen.depth] at h
    have := depth_pos x
    obtain ⟨n, rfl⟩ : ∃ m, n = m + 1 := ⟨n - 1, by omega⟩
    refine same_tup n _ (by simp) fun d hd => ?_
    have : d = .str "and" ∨ d = senD x ∨ d = senD y := by simpa using hd
    rcases this with e | e | e <;> rw [e]
    · exact st n (by omega) _
    · exact ihx n (by omega)
    · exact ihy n (by omega)
  | dis x y ihx ihy =>
    intro n h
    simp only [Sen.depth] at h
    have := depth_pos x
    obtain ⟨n, rfl⟩ : ∃ m, n = m + 1 := ⟨n - 1, by omega⟩
    refine same_tup n _ (by simp) fun d hd => ?_
    have : d = .str "or" ∨ d = senD x ∨ d = senD y := by simpa using hd
    rcases this with e | e | e <;> rw [e]
    · exact st n (by omega) _
    · exact ihx n (by omega)
    · exact ihy n (by omega)
theorem again_eq {t : Sen} (hg : ∀ s ∈ t.names, Gn s) (hl : (stx t 1).length ≤ 120) (hd : t.depth ≤ 50) (n : Nat) : F__law_read_again [.pl (.str (stx t 1)), .pl (.int (n : Nat)), .pl (senD t)] = some (.ret (.pl (.bool true))) := by
  have r0 := read_eq hg hl (.pl (.int 0))
  have r1 := read_eq hg hl (.pl (.int (n : Nat)))
  have sm : F__law_same [.pl (senD t), .pl (senD t)] = some (.ret (.pl (.bool true))) := same_sen t 64 (by omega)
  let A : Sl := .pl (.str (stx t 1))
  let B : Sl := .pl (.int (n : Nat))
  let C : Sl := .pl (senD t)
  have k1 : K__law_read_again_1 (ev__law_read_again A B C (.pl .none)) = some (.nx (ev__law_read_again A B C C)) := by
    unfold K__law_read_again_1
    rw [sIf_def, show tCmp2 eqD (eBin modD (eVar 1) (eC (.int 2))) (eC (.int 0)) (ev__law_read_again A B C (.pl .none)) = some (((n : Nat) : Int) % 2 == 0) by simp -implicitDefEqProofs (disch := omega) only [fnD_def, eBin_def, eUn_def, eVar_def, eC_def, tCmp2_def, eB_def, sSeq_def, sAsg_def, sRet_def, sNext_def, sIf_def, eCall_def, eBui_def, aCons_def, aNil_def, dCons_def, dNil_def, eTup_def, eLst_def, eIx_def, tAnd2_def, tOr2_def, tNot1_def, tTru_def, eAnd_def, eOr_def, eIsi_def, sWipeB_def, wipeO_nx, wipeO_rt, wipeO_bk, wipeO_ct, gPut_def, gTupF_tup, gsCons_cons, gsNil_nil, opt_map_some, get_zero, get_succ, put_zero, put_succ, borq_pl, borq_own, borq_brw, borq_tk, bor_tk, eUnk_def, unkS_tk, borq_dic, borq_bdc, bor_pl, bor_own, bor_brw, bor_dic, bor_bdc, sto_pl, sto_own, sto_dic, sl2_pl, sl1_pl, modD_p, addD_int, iF0_int, mulD_l, mulD_r, divD_p, powD_p, shlD_p, shrD_p, uF_int, vw2_pl, cF_int, eqD_int, neD_int, isnF_none, notnF_none, isNoneD_none, isNoneD_int, wipe1_nil, wipe1_cons, truD_bool, toD_pl, List.length_cons, List.length_nil, Nat.reduceAdd, Nat.reduceSub, if_true, List.replicate, List.cons_append, List.nil_append, Nat.zero_add, Bool.not_true, Bool.not_false, decide_true, decide_false, Nat.reduceLeDiff, Int.reduceSub, Int.reduceAdd, notD_bool, isi_int_int, isi_int_bool, opt_bind_some, sFor_def, eLc_def, csrc_def, vsrc_def, rg1_def, eSrc_def, enT_def, sFrz_def, sRetVar_def, sMov_def, ev__law_read_again, B]]
    cases ((n : Nat) : Int) % 2 == 0 with
    | true =>
      dsimp only
      rw [sAsg_def]
      show (match (match F_read_sentence [.pl (.str (stx t 1)), .pl (.int 0)] with | some (.ret s) => some s | _ => none) with | some s => (sto s).map _ | none => none) = _
      rw [r0]
      rfl
    | false =>
      dsimp only
      rw [sAsg_def]
      show (match (match F_read_sentence [.pl (.str (stx t 1)), .pl (.int (n : Nat))] with | some (.ret s) => some s | _ => none) with | some s => (sto s).map _ | none => none) = _
      rw [r1]
      rfl
  refine F__law_read_again_rt ?_
  unfold B__law_read_again
  refine (sSeq_nx (ρ' := ev__law_read_again A B C (.pl .none)) rfl).trans ((sSeq_nx k1).trans ?_)
  unfold K__law_read_again_2
  rw [sRet_def]
  show Option.map _ (match F__law_same [.pl (senD t), .pl (senD t)] with | some (.ret s) => some s | _ => none) = _
  rw [sm]
  rfl

--#
open TL
theorem draws_eq (c : Int) (n : Nat) (hn : n ≤ 1000) : ∃ l : List Int, l.length = n ∧ F__law_draws [.pl (.int c), .pl (.int (n : Nat))] = some (.ret (.own (l.map .int))) := by
  let C : Sl := .pl (.int c)
  let N : Sl := .pl (.int (n : Nat))
  let G : Int × List Int → SEnv := fun x => ev__law_draws C N (.pl (.int x.1)) (.own (x.2.map .int))
  have k3 : ∃ z, K__law_draws_3 (ev__law_draws C N) = some (.nx (ev__law_draws C N (.pl (.int z)))) := ⟨_, by
    simp -implicitDefEqProofs (disch := omega) only [fnD_def, eBin_def, eUn_def, eVar_def, eC_def, tCmp2_def, eB_def, sSeq_def, sAsg_def, sRet_def, sNext_def, sIf_def, eCall_def, eBui_def, aCons_def, aNil_def, dCons_def, dNil_def, eTup_def, eLst_def, eIx_def, tAnd2_def, tOr2_def, tNot1_def, tTru_def, eAnd_def, eOr_def, eIsi_def, sWipeB_def, wipeO_nx, wipeO_rt, wipeO_bk, wipeO_ct, gPut_def, gTupF_tup, gsCons_cons, gsNil_nil, opt_map_some, get_zero, get_succ, put_zero, put_succ, borq_pl, borq_own, borq_brw, borq_tk, bor_tk, eUnk_def, unkS_tk, borq_dic, borq_bdc, bor_pl, bor_own, bor_brw, bor_dic, bor_bdc, sto_pl, sto_own, sto_dic, sl2_pl, sl1_pl, modD_p, addD_int, iF0_int, mulD_l, mulD_r, divD_p, powD_p, shlD_p, shrD_p, uF_int, vw2_pl, cF_int, eqD_int, neD_int, isnF_none, notnF_none, isNoneD_none, isNoneD_int, wipe1_nil, wipe1_cons, truD_bool, toD_pl, List.length_cons, List.length_nil, Nat.reduceAdd, Nat.reduceSub, if_true, List.replicate, List.cons_append, List.nil_append, Nat.zero_add, Bool.not_true, Bool.not_false, decide_true, decide_false, Nat.reduceLeDiff, Int.reduceSub, Int.reduceAdd, notD_bool, isi_int_int, isi_int_bool, opt_bind_some, sFor_def, eLc_def, csrc_def, vsrc_def, rg1_def, eSrc_def, enT_def, sFrz_def, sRetVar_def, sMov_def, K__law_draws_3, ev__law_draws, C, N]
    rfl⟩
  obtain ⟨z, k3⟩ := k3
  have key := forD_ex (g := gPut 4) (b := L__law_draws_1) (fun k (_ : Unit) => nD k) G (fun k x => x.2.length = k) (List.replicate n ()) 0 (z, []) rfl fun k _ x hk hI => by
    have hk : k < n := by
      have := (List.getElem?_eq_some_iff.mp hk).1
      rwa [List.length_replicate] at this
    rw [Nat.zero_add] at hI ⊢
    let y : Int := x.1 * 48271 % 2147483647
    refine ⟨(y, x.2 ++ [y / 13]), ⟨_, rfl, .inl ?_⟩, by rw [List.length_append, List.length_singleton, hI]⟩
    have d1 : K__law_draws_1 (ev__law_draws C N (.pl (.int x.1)) (.own (x.2.map .int)) (.pl (nD k))) = some (.nx (ev__law_draws C N (.pl (.int y)) (.own (x.2.map .int)) (.pl (nD k)))) := by
      simp -implicitDefEqProofs (disch := omega) only [fnD_def, eBin_def, eUn_def, eVar_def, eC_def, tCmp2_def, eB_def, sSeq_def, sAsg_def, sRet_def, sNext_def, sIf_def, eCall_def, eBui_def, aCons_def, aNil_def, dCons_def, dNil_def, eTup_def, eLst_def, eIx_def, tAnd2_def, tOr2_def, tNot1_def, tTru_def, eAnd_def, eOr_def, eIsi_def, sWipeB_def, wipeO_nx, wipeO_rt, wipeO_bk, wipeO_ct, gPut_def, gTupF_tup, gsCons_cons, gsNil_nil, opt_map_some, get_zero, get_succ, put_zero, put_succ, borq_pl, borq_own, borq_brw, borq_tk, bor_tk, eUnk_def, unkS_tk, borq_dic, borq_bdc, bor_pl, bor_own, bor_brw, bor_dic, bor_bdc, sto_pl, sto_own, sto_dic, sl2_pl, sl1_pl, modD_p, addD_int, iF0_int, mulD_l, mulD_r, divD_p, powD_p, shlD_p, shrD_p, uF_int, vw2_pl, cF_int, eqD_int, neD_int, isnF_none, notnF_none, isNoneD_none, isNoneD_int, wipe1_nil, wipe1_cons, truD_bool, toD_pl, List.length_cons, List.length_nil, Nat.reduceAdd, Nat.reduceSub, if_true, List.replicate, List.cons_append, List.nil_append, Nat.zero_add, Bool.not_true, Bool.not_false, decide_true, decide_false, Nat.reduceLeDiff, Int.reduceSub, Int.reduceAdd, notD_bool, isi_int_int, isi_int_bool, opt_bind_some, sFor_def, eLc_def, csrc_def, vsrc_def, rg1_def, eSrc_def, enT_def, sFrz_def, sRetVar_def, sMov_def, K__law_draws_1, ev__law_draws, y]
    have d2 : K__law_draws_2 (ev__law_draws C N (.pl (.int y)) (.own (x.2.map .int)) (.pl (nD k))) = some (.nx (ev__law_draws C N (.pl (.int y)) (.own ((x.2 ++ [y / 13]).map .int)) (.pl (nD k)))) := by
      have e : eBin divD (eVar 2) (eC (.int 13)) (ev__law_draws C N (.pl (.int y)) (.own (x.2.map .int)) (.pl (nD k))) = some (.pl (.int (y / 13))) := by simp -implicitDefEqProofs (disch := omega) only [fnD_def, eBin_def, eUn_def, eVar_def, eC_def, tCmp2_def, eB_def, sSeq_def, sAsg_def, sRet_def, sNext_def, sIf_def, eCall_def, eBui_def, aCons_def, aNil_def, dCons_def, dNil_def, eTup_def, eLst_def, eIx_def, tAnd2_def, tOr2_def, tNot1_def, tTru_def, eAnd_def, eOr_def, eIsi_def, sWipeB_def, wipeO_nx, wipeO_rt, wipeO_bk, wipeO_ct, gPut_def, gTupF_tup, gsCons_cons, gsNil_nil, opt_map_some, get_zero, get_succ, put_zero, put_succ, borq_pl, borq_own, borq_brw, borq_tk, bor_tk, eUnk_def, unkS_tk, borq_dic, borq_bdc, bor_pl, bor_own, bor_brw, bor_dic, bor_bdc, sto_pl, sto_own, sto_dic, sl2_pl, sl1_pl, modD_p, addD_int, iF0_int, mulD_l, mulD_r, divD_p, powD_p, shlD_p, shrD_p, uF_int, vw2_pl, cF_int, eqD_int, neD_int, isnF_none, notnF_none, isNoneD_none, isNoneD_int, wipe1_nil, wipe1_cons, truD_bool, toD_pl, List.length_cons, List.length_nil, Nat.reduceAdd, Nat.reduceSub, if_true, List.replicate, List.cons_append, List.nil_append, Nat.zero_add, Bool.not_true, Bool.not_false, decide_true, decide_false, Nat.reduceLeDiff, Int.reduceSub, Int.reduceAdd, notD_bool, isi_int_int, isi_int_bool, opt_bind_some, sFor_def, eLc_def, csrc_def, vsrc_def, rg1_def, eSrc_def, enT_def, sFrz_def, sRetVar_def, sMov_def, ev__law_draws]
      unfold K__law_draws_2
      rw [sApp_own (ds := x.2.map PyData.int) rfl e rfl (by rw [List.length_map]; omega), List.map_append]
      rfl
    show L__law_draws_1 (ev__law_draws C N (.pl (.int x.1)) (.own (x.2.map .int)) (.pl (nD k))) = _
    unfold L__law_draws_1
    rw [sWipeB_def, sSeq_nx d1, d2]
    rfl
  obtain ⟨⟨z2, l⟩, e, hl⟩ := key
  rw [List.length_replicate, Nat.zero_add] at hl
  rw [← rgD0_range] at e
  have k4 : K__law_draws_4 (G (z, [])) = some (.nx (ev__law_draws C N .un (.own (l.map .int)))) := by
    have src : rg1 (aCons (eVar 1) aNil) (G (z, [])) = some (rgD 0 n) := by
      unfold rg1
      show (if _ then _ else _) = _
      rw [if_pos ⟨by omega, by omega⟩, Int.toNat_natCast]
    unfold K__law_draws_4
    rw [sWipeB_def, sFor_def, src]
    dsimp only
    rw [e]
    rfl
  refine ⟨l, hl, F__law_draws_rt ?_⟩
  unfold B__law_draws
  refine (sSeq_nx k3).trans ((sSeq_nx (ρ' := G (z, [])) rfl).trans ((sSeq_nx k4).trans rfl))
/-- letters only -/
def Lt (s : Str) : Prop := ∀ c ∈ tl s, 97 ≤ c ∧ c ≤ 122
theorem letter3 {i : Int} (h0 : 0 ≤ i) (h1 : i < 26) : ∃ c : Str, c.length = 1 ∧ Lt c ∧ ixD (.pl (.str "abcdefghijklmnopqrstuvwxyz")) (.int i) = some (.str c) := by
  obtain ⟨c, e1, _, ⟨n, hn, e2⟩, e3⟩ := letter h0 h1
  refine ⟨c, e1, fun x hx => ?_, e3⟩
  rw [e2] at hx
  rw [List.mem_singleton.mp hx]
  have : ∀ n ∈ tl abcS, 97 ≤ n ∧ n ≤ 122 := by decide +kernel
  exact this n hn
theorem lt_app {a b : Str} (h : Lt a) (h' : Lt b) : Lt (a ++ b) := fun c hc => by
  rw [tl_append] at hc
  exact (List.mem_append.mp hc).elim (h c) (h' c)
theorem fresh_eq (c : Int) (n : Nat) (hn : n ≤ 100) : ∃ s : Str, s.length = n ∧ Lt s ∧ F__law_fresh [.pl (.int c), .pl (.int (n : Nat))] = some (.ret (.pl (.str s))) := by
  let N : Sl := .pl (.int (n : Nat))
  let A : Sl := .pl (.str "abcdefghijklmnopqrstuvwxyz")
  let G : Int × Str → SEnv := fun x => ev__law_fresh (.pl (.int x.1)) N A (.pl (.str x.2))
  have l0 : ("" : Str).length = 0 := by decide +kernel
  have key := forD_ex (g := gPut 4) (b := L__law_fresh_1) (fun k (_ : Unit) => nD k) G (fun k x => x.2.length = k ∧ Lt x.2) (List.replicate n ()) 0 (c, "") ⟨l0, by intro c hc; rw [show tl ("" : Str) = [] from by decide +kernel] at hc; cases hc⟩ fun k _ x hk hI => by
    have hk : k < n := by
      have := (List.getElem?_eq_some_iff.mp hk).1
      rwa [List.length_replicate] at this
    rw [Nat.zero_add] at hI ⊢
    obtain ⟨hI, hL⟩ := hI
    let y : Int := (x.1 * 69621 + 1) % 2147483647
    obtain ⟨z, z1, z2, z3⟩ := letter3 (i := y / 17 % 26) (Int.emod_nonneg _ (by decide)) (Int.emod_lt_of_pos _ (by decide))
    refine ⟨(y, x.2 ++ z), ⟨_, rfl, .inl ?_⟩, by show (x.2 ++ z).length = k + 1; rw [len_app, hI, z1], lt_app hL z2⟩
    have ad : addD (.str x.2) (.str z) = some (.str (x.2 ++ z)) := addD_str (by omega)
    show L__law_fresh_1 (ev__law_fresh (.pl (.int x.1)) N A (.pl (.str x.2)) (.pl (nD k))) = _
    have d1 : K__law_fresh_1 (ev__law_fresh (.pl (.int x.1)) N A (.pl (.str x.2)) (.pl (nD k))) = some (.nx (ev__law_fresh (.pl (.int y)) N A (.pl (.str x.2)) (.pl (nD k)))) := by
      simp -implicitDefEqProofs (disch := omega) only [fnD_def, eBin_def, eUn_def, eVar_def, eC_def, tCmp2_def, eB_def, sSeq_def, sAsg_def, sRet_def, sNext_def, sIf_def, eCall_def, eBui_def, aCons_def, aNil_def, dCons_def, dNil_def, eTup_def, eLst_def, eIx_def, tAnd2_def, tOr2_def, tNot1_def, tTru_def, eAnd_def, eOr_def, eIsi_def, sWipeB_def, wipeO_nx, wipeO_rt, wipeO_bk, wipeO_ct, gPut_def, gTupF_tup, gsCons_cons, gsNil_nil, opt_map_some, get_zero, get_succ, put_zero, put_succ, borq_pl, borq_own, borq_brw, borq_tk, bor_tk, eUnk_def, unkS_tk, borq_dic, borq_bdc, bor_pl, bor_own, bor_brw, bor_dic, bor_bdc, sto_pl, sto_own, sto_dic, sl2_pl, sl1_pl, modD_p, addD_int, iF0_int, mulD_l, mulD_r, divD_p, powD_p, shlD_p, shrD_p, uF_int, vw2_pl, cF_int, eqD_int, neD_int, isnF_none, notnF_none, isNoneD_none, isNoneD_int, wipe1_nil, wipe1_cons, truD_bool, toD_pl, List.length_cons, List.length_nil, Nat.reduceAdd, Nat.reduceSub, if_true, List.replicate, List.cons_append, List.nil_append, Nat.zero_add, Bool.not_true, Bool.not_false, decide_true, decide_false, Nat.reduceLeDiff, Int.reduceSub, Int.reduceAdd, notD_bool, isi_int_int, isi_int_bool, opt_bind_some, sFor_def, eLc_def, csrc_def, vsrc_def, rg1_def, eSrc_def, enT_def, sFrz_def, sRetVar_def, sMov_def, K__law_fresh_1, ev__law_fresh, y]
    have d2 : K__law_fresh_2 (ev__law_fresh (.pl (.int y)) N A (.pl (.str x.2)) (.pl (nD k))) = some (.nx (ev__law_fresh (.pl (.int y)) N A (.pl (.str (x.2 ++ z))) (.pl (nD k)))) := by
      simp -implicitDefEqProofs (disch := omega) only [fnD_def, eBin_def, eUn_def, eVar_def, eC_def, tCmp2_def, eB_def, sSeq_def, sAsg_def, sRet_def, sNext_def, sIf_def, eCall_def, eBui_def, aCons_def, aNil_def, dCons_def, dNil_def, eTup_def, eLst_def, eIx_def, tAnd2_def, tOr2_def, tNot1_def, tTru_def, eAnd_def, eOr_def, eIsi_def, sWipeB_def, wipeO_nx, wipeO_rt, wipeO_bk, wipeO_ct, gPut_def, gTupF_tup, gsCons_cons, gsNil_nil, opt_map_some, get_zero, get_succ, put_zero, put_succ, borq_pl, borq_own, borq_brw, borq_tk, bor_tk, eUnk_def, unkS_tk, borq_dic, borq_bdc, bor_pl, bor_own, bor_brw, bor_dic, bor_bdc, sto_pl, sto_own, sto_dic, sl2_pl, sl1_pl, modD_p, addD_int, iF0_int, mulD_l, mulD_r, divD_p, powD_p, shlD_p, shrD_p, uF_int, vw2_pl, cF_int, eqD_int, neD_int, isnF_none, notnF_none, isNoneD_none, isNoneD_int, wipe1_nil, wipe1_cons, truD_bool, toD_pl, List.length_cons, List.length_nil, Nat.reduceAdd, Nat.reduceSub, if_true, List.replicate, List.cons_append, List.nil_append, Nat.zero_add, Bool.not_true, Bool.not_false, decide_true, decide_false, Nat.reduceLeDiff, Int.reduceSub, Int.reduceAdd, notD_bool, isi_int_int, isi_int_bool, opt_bind_some, sFor_def, eLc_def, csrc_def, vsrc_def, rg1_def, eSrc_def, enT_def, sFrz_def, sRetVar_def, sMov_def, K__law_fresh_2, ev__law_fresh, A, z3, ad]
    unfold L__law_fresh_1
    rw [sWipeB_def, sSeq_nx d1, d2]
    rfl
  obtain ⟨⟨y, s⟩, e, hl, hs⟩ := key
  rw [List.length_replicate, Nat.zero_add] at hl
  rw [← rgD0_range] at e
  have k4 : K__law_fresh_4 (G (c, "")) = some (.nx (ev__law_fresh .un N A (.pl (.str s)))) := by
    have src : rg1 (aCons (eVar 1) aNil) (G (c, "")) = some (rgD 0 n) := by
      unfold rg1
      show (if _ then _ else _) = _
      rw [if_pos ⟨by omega, by omega⟩, Int.toNat_natCast]
    unfold K__law_fresh_4
    rw [sWipeB_def, sFor_def, src]
    dsimp only
    rw [e]
    rfl
  refine ⟨s, hl, hs, F__law_fresh_rt ?_⟩
  unfold B__law_fresh
  refine (sSeq_nx (ρ' := ev__law_fresh (.pl (.int c)) N A) rfl).trans ((sSeq_nx (ρ' := G (c, "")) rfl).trans ((sSeq_nx k4).trans rfl))

--#
open TL
theorem at_any (ds : List Int) {i : Int} (h0 : 0 ≤ i) (h : i < (ds.length : Int)) : ∃ d : Int, atI (ds.map PyData.int) i = some (.int d) := ⟨_, at_int PyData.int h0 h⟩
theorem at_s (ns : List Str) {i : Int} (h0 : 0 ≤ i) (h : i < (ns.length : Int)) : ∃ s ∈ ns, atI (ns.map PyData.str) i = some (.str s) := by
  have hl : i.toNat < ns.length := by omega
  refine ⟨ns[i.toNat], List.getElem_mem hl, ?_⟩
  rw [atI_map, atI_lt h0 h, List.getElem?_eq_getElem hl]
  rfl
theorem cell_eq (ns : List Int) (k : Int) (h0 : 0 ≤ k) : ∃ c : Int, F__law_cell_at [.pl (.list (ns.map PyData.int)), .pl (.int k)] = some (.ret (.pl (.int c))) := by
  by_cases c : k < (ns.length : Int)
  · refine ⟨ns[k.toNat]'(by omega), F__law_cell_at_rt ?_⟩
    simp -implicitDefEqProofs (disch := omega) only [fnD_def, eBin_def, eUn_def, eVar_def, eC_def, tCmp2_def, eB_def, sSeq_def, sAsg_def, sRet_def, sNext_def, sIf_def, eCall_def, eBui_def, aCons_def, aNil_def, dCons_def, dNil_def, eTup_def, eLst_def, eIx_def, tAnd2_def, tOr2_def, tNot1_def, tTru_def, eAnd_def, eOr_def, eIsi_def, sWipeB_def, wipeO_nx, wipeO_rt, wipeO_bk, wipeO_ct, gPut_def, gTupF_tup, gsCons_cons, gsNil_nil, opt_map_some, get_zero, get_succ, put_zero, put_succ, borq_pl, borq_own, borq_brw, borq_tk, bor_tk, eUnk_def, unkS_tk, borq_dic, borq_bdc, bor_pl, bor_own, bor_brw, bor_dic, bor_bdc, sto_pl, sto_own, sto_dic, sl2_pl, sl1_pl, modD_p, addD_int, iF0_int, mulD_l, mulD_r, divD_p, powD_p, shlD_p, shrD_p, uF_int, vw2_pl, cF_int, eqD_int, neD_int, isnF_none, notnF_none, isNoneD_none, isNoneD_int, wipe1_nil, wipe1_cons, truD_bool, toD_pl, List.length_cons, List.length_nil, Nat.reduceAdd, Nat.reduceSub, if_true, List.replicate, List.cons_append, List.nil_append, Nat.zero_add, Bool.not_true, Bool.not_false, decide_true, decide_false, Nat.reduceLeDiff, Int.reduceSub, Int.reduceAdd, notD_bool, isi_int_int, isi_int_bool, opt_bind_some, sFor_def, eLc_def, csrc_def, vsrc_def, rg1_def, eSrc_def, enT_def, sFrz_def, sRetVar_def, sMov_def, B__law_cell_at, ev__law_cell_at, K__law_cell_at_1, lenF_list, List.length_map, c, ixD_list, at_int PyData.int h0 c]
  · exact ⟨0, F__law_cell_at_rt (by simp -implicitDefEqProofs (disch := omega) only [fnD_def, eBin_def, eUn_def, eVar_def, eC_def, tCmp2_def, eB_def, sSeq_def, sAsg_def, sRet_def, sNext_def, sIf_def, eCall_def, eBui_def, aCons_def, aNil_def, dCons_def, dNil_def, eTup_def, eLst_def, eIx_def, tAnd2_def, tOr2_def, tNot1_def, tTru_def, eAnd_def, eOr_def, eIsi_def, sWipeB_def, wipeO_nx, wipeO_rt, wipeO_bk, wipeO_ct, gPut_def, gTupF_tup, gsCons_cons, gsNil_nil, opt_map_some, get_zero, get_succ, put_zero, put_succ, borq_pl, borq_own, borq_brw, borq_tk, bor_tk, eUnk_def, unkS_tk, borq_dic, borq_bdc, bor_pl, bor_own, bor_brw, bor_dic, bor_bdc, sto_pl, sto_own, sto_dic, sl2_pl, sl1_pl, modD_p, addD_int, iF0_int, mulD_l, mulD_r, divD_p, powD_p, shlD_p, shrD_p, uF_int, vw2_pl, cF_int, eqD_int, neD_int, isnF_none, notnF_none, isNoneD_none, isNoneD_int, wipe1_nil, wipe1_cons, truD_bool, toD_pl, List.length_cons, List.length_nil, Nat.reduceAdd, Nat.reduceSub, if_true, List.replicate, List.cons_append, List.nil_append, Nat.zero_add, Bool.not_true, Bool.not_false, decide_true, decide_false, Nat.reduceLeDiff, Int.reduceSub, Int.reduceAdd, notD_bool, isi_int_int, isi_int_bool, opt_bind_some, sFor_def, eLc_def, csrc_def, vsrc_def, rg1_def, eSrc_def, enT_def, sFrz_def, sRetVar_def, sMov_def, B__law_cell_at, ev__law_cell_at, K__law_cell_at_1, lenF_list, List.length_map, c])⟩
def W16 : List Str := ["nota", "no", "ot", "an", "nd", "ands", "o", "r", "orr", "alway", "wher", "usual", "notnot", "ask", "is", "tell"]
/-- a name ahead of the look at the kept words -/
def Gl (s : Str) : Prop := (1 ≤ s.length ∧ s.length ≤ 12) ∧ ∀ c ∈ tl s, 97 ≤ c ∧ c ≤ 122
theorem w16_gl : ∀ s ∈ W16, Gl s := by unfold Gl; decide +kernel
theorem kept_a : ∀ s ∈ keptL, Gn (s ++ "a") := by unfold Gn; decide +kernel
theorem kept_len : ∀ s ∈ keptL, s.length ≤ 7 := by decide +kernel
theorem len_cutS {z : Str} {n : Nat} (h : n ≤ z.length) : (L2.cutS z none (some (n : Int))).length = n := by
  rw [len_tl, tl_cut, HT.sIx_none, HT.sIx_nat, List.length_take, List.length_drop, ← len_tl]
  omega
theorem len_cutE {z : Str} {n : Nat} (h : n ≤ z.length) : (L2.cutS z (some (n : Int)) none).length = z.length - n := by
  rw [len_tl, tl_cut, HT.sIx_none, HT.sIx_nat, List.length_take, List.length_drop, ← len_tl]
  omega
theorem lt_cut {z : Str} (h : Lt z) (lo hi : Option Int) : Lt (L2.cutS z lo hi) := fun c hc => by
  rw [tl_cut] at hc
  exact h c (List.mem_of_mem_drop (List.mem_of_mem_take hc))
theorem lnames_eq (c : Int) : ∃ nm : List Str, nm ≠ [] ∧ nm.length ≤ 6 ∧ (∀ s ∈ nm, Gn s) ∧ F__law_names [.pl (.int c), .pl (.int 6)] = some (.ret (.own (nm.map .str))) := by
  obtain ⟨ds, hd, ed⟩ := draws_eq c 26 (by decide)
  have ed : F__law_draws [.pl (.int c), .pl (.int 26)] = some (.ret (.own (ds.map .int))) := ed
  have at_ : ∀ i : Int, 0 ≤ i → i < 26 → ∃ d : Int, atI (ds.map PyData.int) i = some (.int d) := fun i h0 h1 => at_any ds h0 (by omega)
  obtain ⟨d0, a0⟩ := at_ 0 (by decide) (by decide)
  obtain ⟨d1, a1⟩ := at_ 1 (by decide) (by decide)
  obtain ⟨d2, a2⟩ := at_ 2 (by decide) (by decide)
  obtain ⟨d20, a20⟩ := at_ 20 (by decide) (by decide)
  obtain ⟨d21, a21⟩ := at_ 21 (by decide) (by decide)
  obtain ⟨d22, a22⟩ := at_ 22 (by decide) (by decide)
  obtain ⟨d23, a23⟩ := at_ 23 (by decide) (by decide)
  have fr : ∀ q d : Int, ∃ s : Str, Gl s ∧ F__law_fresh [.pl (.int q), .pl (.int (1 + d % 12))] = some (.ret (.pl (.str s))) := fun q d => by
    obtain ⟨m, hm⟩ : ∃ m : Nat, 1 + d % 12 = (m : Int) := ⟨(1 + d % 12).toNat, by omega⟩
    obtain ⟨s, s1, s2, s3⟩ := fresh_eq q m (by omega)
    rw [hm]
    exact ⟨s, ⟨⟨by omega, by omega⟩, s2⟩, s3⟩
  obtain ⟨base, hb, eb⟩ := fr d0 d1
  have hbl : (0 : Int) < (base.length : Int) := by have := hb.1.1; omega
  obtain ⟨a, ha, hal⟩ : ∃ a : Nat, d2 % (base.length : Int) = (a : Int) ∧ a < base.length := ⟨(d2 % (base.length : Int)).toNat, by have := Int.emod_nonneg d2 (b := (base.length : Int)) (by omega); omega, by
    have := Int.emod_nonneg d2 (b := (base.length : Int)) (by omega)
    have := Int.emod_lt_of_pos d2 hbl
    omega⟩
  let C : Sl := .pl (.int c)
  let N : Sl := .pl (.int 6)
  let A : Sl := .pl (.str "abcdefghijklmnopqrstuvwxyz")
  let W : Sl := .own (W16.map .str)
  let DS : Sl := .own (ds.map .int)
  let B : Sl := .pl (.str base)
  let AT : Sl := .pl (.int (a : Nat))
  have s8 : K__law_names_8 (ev__law_names C N) = some (.nx (ev__law_names C N A)) := rfl
  have s9 : ∃ w, K__law_names_9 (ev__law_names C N A) = some (.nx (ev__law_names C N A w)) ∧ K__law_names_10 (ev__law_names C N A w) = some (.nx (ev__law_names C N A W)) := ⟨_, rfl, rfl⟩
  obtain ⟨w, s9, s10⟩ := s9
  have s11 : K__law_names_11 (ev__law_names C N A W) = some (.nx (ev__law_names C N A W DS)) := by simp -implicitDefEqProofs (disch := omega) only [fnD_def, eBin_def, eUn_def, eVar_def, eC_def, tCmp2_def, eB_def, sSeq_def, sAsg_def, sRet_def, sNext_def, sIf_def, eCall_def, eBui_def, aCons_def, aNil_def, dCons_def, dNil_def, eTup_def, eLst_def, eIx_def, tAnd2_def, tOr2_def, tNot1_def, tTru_def, eAnd_def, eOr_def, eIsi_def, sWipeB_def, wipeO_nx, wipeO_rt, wipeO_bk, wipeO_ct, gPut_def, gTupF_tup, gsCons_cons, gsNil_nil, opt_map_some, get_zero, get_succ, put_zero, put_succ, borq_pl, borq_own, borq_brw, borq_tk, bor_tk, eUnk_def, unkS_tk, borq_dic, borq_bdc, bor_pl, bor_own, bor_brw, bor_dic, bor_bdc, sto_pl, sto_own, sto_dic, sl2_pl, sl1_pl, modD_p, addD_int, iF0_int, mulD_l, mulD_r, divD_p, powD_p, shlD_p, shrD_p, uF_int, vw2_pl, cF_int, eqD_int, neD_int, isnF_none, notnF_none, isNoneD_none, isNoneD_int, wipe1_nil, wipe1_cons, truD_bool, toD_pl, List.length_cons, List.length_nil, Nat.reduceAdd, Nat.reduceSub, if_true, List.replicate, List.cons_append, List.nil_append, Nat.zero_add, Bool.not_true, Bool.not_false, decide_true, decide_false, Nat.reduceLeDiff, Int.reduceSub, Int.reduceAdd, notD_bool, isi_int_int, isi_int_bool, opt_bind_some, sFor_def, eLc_def, csrc_def, vsrc_def, rg1_def, eSrc_def, enT_def, sFrz_def, sRetVar_def, sMov_def, K__law_names_11, ev__law_names, C, DS, ed]
  have s12 : K__law_names_12 (ev__law_names C N A W DS) = some (.nx (ev__law_names C N A W DS B)) := by simp -implicitDefEqProofs (disch := omega) only [fnD_def, eBin_def, eUn_def, eVar_def, eC_def, tCmp2_def, eB_def, sSeq_def, sAsg_def, sRet_def, sNext_def, sIf_def, eCall_def, eBui_def, aCons_def, aNil_def, dCons_def, dNil_def, eTup_def, eLst_def, eIx_def, tAnd2_def, tOr2_def, tNot1_def, tTru_def, eAnd_def, eOr_def, eIsi_def, sWipeB_def, wipeO_nx, wipeO_rt, wipeO_bk, wipeO_ct, gPut_def, gTupF_tup, gsCons_cons, gsNil_nil, opt_map_some, get_zero, get_succ, put_zero, put_succ, borq_pl, borq_own, borq_brw, borq_tk, bor_tk, eUnk_def, unkS_tk, borq_dic, borq_bdc, bor_pl, bor_own, bor_brw, bor_dic, bor_bdc, sto_pl, sto_own, sto_dic, sl2_pl, sl1_pl, modD_p, addD_int, iF0_int, mulD_l, mulD_r, divD_p, powD_p, shlD_p, shrD_p, uF_int, vw2_pl, cF_int, eqD_int, neD_int, isnF_none, notnF_none, isNoneD_none, isNoneD_int, wipe1_nil, wipe1_cons, truD_bool, toD_pl, List.length_cons, List.length_nil, Nat.reduceAdd, Nat.reduceSub, if_true, List.replicate, List.cons_append, List.nil_append, Nat.zero_add, Bool.not_true, Bool.not_false, decide_true, decide_false, Nat.reduceLeDiff, Int.reduceSub, Int.reduceAdd, notD_bool, isi_int_int, isi_int_bool, opt_bind_some, sFor_def, eLc_def, csrc_def, vsrc_def, rg1_def, eSrc_def, enT_def, sFrz_def, sRetVar_def, sMov_def, K__law_names_12, ev__law_names, DS, B, ixD_brw, ixD_own, a0, a1, eb]
  have lb : lenF [.pl (.str base)] = some (.pl (.int (base.length : Nat))) := lenF_str (by have := hb.1.2; omega)
  have s13 : K__law_names_13 (ev__law_names C N A W DS B) = some (.nx (ev__law_names C N A W DS B AT)) := by simp -implicitDefEqProofs (disch := omega) only [fnD_def, eBin_def, eUn_def, eVar_def, eC_def, tCmp2_def, eB_def, sSeq_def, sAsg_def, sRet_def, sNext_def, sIf_def, eCall_def, eBui_def, aCons_def, aNil_def, dCons_def, dNil_def, eTup_def, eLst_def, eIx_def, tAnd2_def, tOr2_def, tNot1_def, tTru_def, eAnd_def, eOr_def, eIsi_def, sWipeB_def, wipeO_nx, wipeO_rt, wipeO_bk, wipeO_ct, gPut_def, gTupF_tup, gsCons_cons, gsNil_nil, opt_map_some, get_zero, get_succ, put_zero, put_succ, borq_pl, borq_own, borq_brw, borq_tk, bor_tk, eUnk_def, unkS_tk, borq_dic, borq_bdc, bor_pl, bor_own, bor_brw, bor_dic, bor_bdc, sto_pl, sto_own, sto_dic, sl2_pl, sl1_pl, modD_p, addD_int, iF0_int, mulD_l, mulD_r, divD_p, powD_p, shlD_p, shrD_p, uF_int, vw2_pl, cF_int, eqD_int, neD_int, isnF_none, notnF_none, isNoneD_none, isNoneD_int, wipe1_nil, wipe1_cons, truD_bool, toD_pl, List.length_cons, List.length_nil, Nat.reduceAdd, Nat.reduceSub, if_true, List.replicate, List.cons_append, List.nil_append, Nat.zero_add, Bool.not_true, Bool.not_false, decide_true, decide_false, Nat.reduceLeDiff, Int.reduceSub, Int.reduceAdd, notD_bool, isi_int_int, isi_int_bool, opt_bind_some, sFor_def, eLc_def, csrc_def, vsrc_def, rg1_def, eSrc_def, enT_def, sFrz_def, sRetVar_def, sMov_def, K__law_names_13, ev__law_names, DS, B, AT, ixD_brw, ixD_own, a2, lb, modD_p hbl, ha]
  let G : List Str → Sl → Sl → Sl → SEnv := fun l k n s => ev__law_names C N A W DS B AT (.own (l.map .str)) k n s
  have s14 : sAsg 7 (eLst dNil) (ev__law_names C N A W DS B AT) = some (.nx (G [] .un .un .un)) := rfl
  have key := forD_ex (g := gPut 8) (b := L__law_names_1) (fun k (_ : Unit) => nD k) (fun l : List Str => G l .un .un .un) (fun k l => (k = 0 ∨ l ≠ []) ∧ l.length ≤ k ∧ ∀ s ∈ l, Gn s) (List.replicate 6 ()) 0 [] ⟨.inl rfl, Nat.le_refl _, fun _ z => nomatch z⟩ fun k _ l hk hI => ?_
  · obtain ⟨l, e, h1, h2, h3⟩ := key
    rw [List.length_replicate, Nat.zero_add] at h1 h2
    rw [← rgD0_range] at e
    have src : rg1 (aCons (eVar 1) aNil) (G [] .un .un .un) = some (rgD 0 6) := rfl
    have s15 : K__law_names_14 (G [] .un .un .un) = some (.nx (G l .un .un .un)) := by
      unfold K__law_names_14
      rw [sFor_def, src]
      exact e
    refine ⟨l, h1.elim (fun z => absurd z (by decide)) id, h2, h3, F__law_names_rt ?_⟩
    unfold B__law_names
    exact (sSeq_nx s8).trans ((sSeq_nx s9).trans ((sSeq_nx s10).trans ((sSeq_nx s11).trans ((sSeq_nx s12).trans ((sSeq_nx s13).trans ((sSeq_nx s14).trans ((sSeq_nx s15).trans rfl)))))))
  · rw [Nat.zero_add] at hI ⊢
    obtain ⟨_, hI2, hI3⟩ := hI
    have hk' : k < 6 := by
      have := (List.getElem?_eq_some_iff.mp hk).1
      rwa [List.length_replicate] at this
    let K : Sl := .pl (nD k)
    let E : Sl → Sl → SEnv := fun n s => G l K n s
    have nk : nD k = .int ((k : Nat) : Int) := rfl
    have t3 : ∃ n : Str, Gl n ∧ K__law_names_3 (E .un .un) = some (.nx (E (.pl (.str n)) .un)) := by
      obtain ⟨x, ax⟩ := at_ (3 + (k : Int)) (by omega) (by omega)
      obtain ⟨y, ay⟩ := at_ (4 + (k : Int)) (by omega) (by omega)
      obtain ⟨n, hn, en⟩ := fr x (y / 5)
      exact ⟨n, hn, by simp -implicitDefEqProofs (disch := omega) only [fnD_def, eBin_def, eUn_def, eVar_def, eC_def, tCmp2_def, eB_def, sSeq_def, sAsg_def, sRet_def, sNext_def, sIf_def, eCall_def, eBui_def, aCons_def, aNil_def, dCons_def, dNil_def, eTup_def, eLst_def, eIx_def, tAnd2_def, tOr2_def, tNot1_def, tTru_def, eAnd_def, eOr_def, eIsi_def, sWipeB_def, wipeO_nx, wipeO_rt, wipeO_bk, wipeO_ct, gPut_def, gTupF_tup, gsCons_cons, gsNil_nil, opt_map_some, get_zero, get_succ, put_zero, put_succ, borq_pl, borq_own, borq_brw, borq_tk, bor_tk, eUnk_def, unkS_tk, borq_dic, borq_bdc, bor_pl, bor_own, bor_brw, bor_dic, bor_bdc, sto_pl, sto_own, sto_dic, sl2_pl, sl1_pl, modD_p, addD_int, iF0_int, mulD_l, mulD_r, divD_p, powD_p, shlD_p, shrD_p, uF_int, vw2_pl, cF_int, eqD_int, neD_int, isnF_none, notnF_none, isNoneD_none, isNoneD_int, wipe1_nil, wipe1_cons, truD_bool, toD_pl, List.length_cons, List.length_nil, Nat.reduceAdd, Nat.reduceSub, if_true, List.replicate, List.cons_append, List.nil_append, Nat.zero_add, Bool.not_true, Bool.not_false, decide_true, decide_false, Nat.reduceLeDiff, Int.reduceSub, Int.reduceAdd, notD_bool, isi_int_int, isi_int_bool, opt_bind_some, sFor_def, eLc_def, csrc_def, vsrc_def, rg1_def, eSrc_def, enT_def, sFrz_def, sRetVar_def, sMov_def, K__law_names_3, E, G, K, ev__law_names, DS, ixD_brw, ixD_own, nk, ax, ay, en]⟩
    obtain ⟨n3, g3, t3⟩ := t3
    have t4 : ∃ n : Str, Gl n ∧ K__law_names_4 (E (.pl (.str n3)) .un) = some (.nx (E (.pl (.str n)) .un)) := by
      have tt : tCmp2 ltD (eBin modD (eIx (eVar 4) (eC (.int 20))) (eC (.int 4))) (eC (.int 2)) (E (.pl (.str n3)) .un) = some (decide (d20 % 4 < 2)) := by
        simp -implicitDefEqProofs (disch := omega) only [fnD_def, eBin_def, eUn_def, eVar_def, eC_def, tCmp2_def, eB_def, sSeq_def, sAsg_def, sRet_def, sNext_def, sIf_def, eCall_def, eBui_def, aCons_def, aNil_def, dCons_def, dNil_def, eTup_def, eLst_def, eIx_def, tAnd2_def, tOr2_def, tNot1_def, tTru_def, eAnd_def, eOr_def, eIsi_def, sWipeB_def, wipeO_nx, wipeO_rt, wipeO_bk, wipeO_ct, gPut_def, gTupF_tup, gsCons_cons, gsNil_nil, opt_map_some, get_zero, get_succ, put_zero, put_succ, borq_pl, borq_own, borq_brw, borq_tk, bor_tk, eUnk_def, unkS_tk, borq_dic, borq_bdc, bor_pl, bor_own, bor_brw, bor_dic, bor_bdc, sto_pl, sto_own, sto_dic, sl2_pl, sl1_pl, modD_p, addD_int, iF0_int, mulD_l, mulD_r, divD_p, powD_p, shlD_p, shrD_p, uF_int, vw2_pl, cF_int, eqD_int, neD_int, isnF_none, notnF_none, isNoneD_none, isNoneD_int, wipe1_nil, wipe1_cons, truD_bool, toD_pl, List.length_cons, List.length_nil, Nat.reduceAdd, Nat.reduceSub, if_true, List.replicate, List.cons_append, List.nil_append, Nat.zero_add, Bool.not_true, Bool.not_false, decide_true, decide_false, Nat.reduceLeDiff, Int.reduceSub, Int.reduceAdd, notD_bool, isi_int_int, isi_int_bool, opt_bind_some, sFor_def, eLc_def, csrc_def, vsrc_def, rg1_def, eSrc_def, enT_def, sFrz_def, sRetVar_def, sMov_def, E, G, ev__law_names, DS, ixD_brw, ixD_own, a20]
      unfold K__law_names_4
      rw [sWipeB_def, sIf_def, tt]
      cases decide (d20 % 4 < 2) with
      | false => exact ⟨n3, g3, rfl⟩
      | true =>
        obtain ⟨e, he⟩ := at_any [1, 3, 5, 7, 9, 11] (i := d22 % 6) (by omega) (by simp only [List.length_cons, List.length_nil]; omega)
        have he : atI [PyData.int 1, .int 3, .int 5, .int 7, .int 9, .int 11] (d22 % 6) = some (.int e) := he
        obtain ⟨x, x1, x2, x3⟩ := letter3 (i := (d21 + (k : Int) * e) % 26) (by omega) (by omega)
        have u1 : K__law_names_1 (E (.pl (.str n3)) .un) = some (.nx (E (.pl (.str n3)) (.pl (.str x)))) := by
          simp -implicitDefEqProofs (disch := omega) only [fnD_def, eBin_def, eUn_def, eVar_def, eC_def, tCmp2_def, eB_def, sSeq_def, sAsg_def, sRet_def, sNext_def, sIf_def, eCall_def, eBui_def, aCons_def, aNil_def, dCons_def, dNil_def, eTup_def, eLst_def, eIx_def, tAnd2_def, tOr2_def, tNot1_def, tTru_def, eAnd_def, eOr_def, eIsi_def, sWipeB_def, wipeO_nx, wipeO_rt, wipeO_bk, wipeO_ct, gPut_def, gTupF_tup, gsCons_cons, gsNil_nil, opt_map_some, get_zero, get_succ, put_zero, put_succ, borq_pl, borq_own, borq_brw, borq_tk, bor_tk, eUnk_def, unkS_tk, borq_dic, borq_bdc, bor_pl, bor_own, bor_brw, bor_dic, bor_bdc, sto_pl, sto_own, sto_dic, sl2_pl, sl1_pl, modD_p, addD_int, iF0_int, mulD_l, mulD_r, divD_p, powD_p, shlD_p, shrD_p, uF_int, vw2_pl, cF_int, eqD_int, neD_int, isnF_none, notnF_none, isNoneD_none, isNoneD_int, wipe1_nil, wipe1_cons, truD_bool, toD_pl, List.length_cons, List.length_nil, Nat.reduceAdd, Nat.reduceSub, if_true, List.replicate, List.cons_append, List.nil_append, Nat.zero_add, Bool.not_true, Bool.not_false, decide_true, decide_false, Nat.reduceLeDiff, Int.reduceSub, Int.reduceAdd, notD_bool, isi_int_int, isi_int_bool, opt_bind_some, sFor_def, eLc_def, csrc_def, vsrc_def, rg1_def, eSrc_def, enT_def, sFrz_def, sRetVar_def, sMov_def, K__law_names_1, E, G, K, ev__law_names, A, DS, ixD_brw, ixD_own, nk, a21, a22, show (6 : Nat) ≤ 1000 from by decide, he, x3]
        let p : Str := L2.cutS base none (some (a : Int))
        let q : Str := L2.cutS base (some ((a + 1 : Nat) : Int)) none
        have lp : p.length = a := len_cutS (by omega)
        have lq : q.length = base.length - (a + 1) := len_cutE (by omega)
        have c1 : slD (.pl (.str base)) none (some (a : Int)) = some (.pl (.str p)) := if_pos (by have := hb.1.2; omega)
        have c2 : slD (.pl (.str base)) (some ((a : Int) + 1)) none = some (.pl (.str q)) := if_pos (by have := hb.1.2; omega)
        have l1 : (p ++ x).length = a + 1 := by rw [len_app, lp, x1]
        have b12 := hb.1.2
        have w1 : addD (.str p) (.str x) = some (.str (p ++ x)) := addD_str (by omega)
        have w2 : addD (.str (p ++ x)) (.str q) = some (.str (p ++ x ++ q)) := addD_str (by omega)
        refine ⟨p ++ x ++ q, ⟨⟨by rw [len_app]; omega, by rw [len_app]; omega⟩, lt_app (lt_app (lt_cut hb.2 _ _) x2) (lt_cut hb.2 _ _)⟩, ?_⟩
        have u2 : K__law_names_2 (E (.pl (.str n3)) (.pl (.str x))) = some (.nx (E (.pl (.str (p ++ x ++ q))) (.pl (.str x)))) := by
          simp -implicitDefEqProofs (disch := omega) only [fnD_def, eBin_def, eUn_def, eVar_def, eC_def, tCmp2_def, eB_def, sSeq_def, sAsg_def, sRet_def, sNext_def, sIf_def, eCall_def, eBui_def, aCons_def, aNil_def, dCons_def, dNil_def, eTup_def, eLst_def, eIx_def, tAnd2_def, tOr2_def, tNot1_def, tTru_def, eAnd_def, eOr_def, eIsi_def, sWipeB_def, wipeO_nx, wipeO_rt, wipeO_bk, wipeO_ct, gPut_def, gTupF_tup, gsCons_cons, gsNil_nil, opt_map_some, get_zero, get_succ, put_zero, put_succ, borq_pl, borq_own, borq_brw, borq_tk, bor_tk, eUnk_def, unkS_tk, borq_dic, borq_bdc, bor_pl, bor_own, bor_brw, bor_dic, bor_bdc, sto_pl, sto_own, sto_dic, sl2_pl, sl1_pl, modD_p, addD_int, iF0_int, mulD_l, mulD_r, divD_p, powD_p, shlD_p, shrD_p, uF_int, vw2_pl, cF_int, eqD_int, neD_int, isnF_none, notnF_none, isNoneD_none, isNoneD_int, wipe1_nil, wipe1_cons, truD_bool, toD_pl, List.length_cons, List.length_nil, Nat.reduceAdd, Nat.reduceSub, if_true, List.replicate, List.cons_append, List.nil_append, Nat.zero_add, Bool.not_true, Bool.not_false, decide_true, decide_false, Nat.reduceLeDiff, Int.reduceSub, Int.reduceAdd, notD_bool, isi_int_int, isi_int_bool, opt_bind_some, sFor_def, eLc_def, csrc_def, vsrc_def, rg1_def, eSrc_def, enT_def, sFrz_def, sRetVar_def, sMov_def, K__law_names_2, E, G, ev__law_names, B, AT, eSl_def, oSome_def, oNone_def, c1, c2, w1, w2]
        dsimp only
        rw [sSeq_nx u1, u2]
        rfl
    obtain ⟨n4, g4, t4⟩ := t4
    have t5 : ∃ n : Str, Gl n ∧ K__law_names_5 (E (.pl (.str n4)) .un) = some (.nx (E (.pl (.str n)) .un)) := by
      have tt : tCmp2 eqD (eBin modD (eIx (eVar 4) (eC (.int 20))) (eC (.int 4))) (eC (.int 2)) (E (.pl (.str n4)) .un) = some (d20 % 4 == 2) := by
        simp -implicitDefEqProofs (disch := omega) only [fnD_def, eBin_def, eUn_def, eVar_def, eC_def, tCmp2_def, eB_def, sSeq_def, sAsg_def, sRet_def, sNext_def, sIf_def, eCall_def, eBui_def, aCons_def, aNil_def, dCons_def, dNil_def, eTup_def, eLst_def, eIx_def, tAnd2_def, tOr2_def, tNot1_def, tTru_def, eAnd_def, eOr_def, eIsi_def, sWipeB_def, wipeO_nx, wipeO_rt, wipeO_bk, wipeO_ct, gPut_def, gTupF_tup, gsCons_cons, gsNil_nil, opt_map_some, get_zero, get_succ, put_zero, put_succ, borq_pl, borq_own, borq_brw, borq_tk, bor_tk, eUnk_def, unkS_tk, borq_dic, borq_bdc, bor_pl, bor_own, bor_brw, bor_dic, bor_bdc, sto_pl, sto_own, sto_dic, sl2_pl, sl1_pl, modD_p, addD_int, iF0_int, mulD_l, mulD_r, divD_p, powD_p, shlD_p, shrD_p, uF_int, vw2_pl, cF_int, eqD_int, neD_int, isnF_none, notnF_none, isNoneD_none, isNoneD_int, wipe1_nil, wipe1_cons, truD_bool, toD_pl, List.length_cons, List.length_nil, Nat.reduceAdd, Nat.reduceSub, if_true, List.replicate, List.cons_append, List.nil_append, Nat.zero_add, Bool.not_true, Bool.not_false, decide_true, decide_false, Nat.reduceLeDiff, Int.reduceSub, Int.reduceAdd, notD_bool, isi_int_int, isi_int_bool, opt_bind_some, sFor_def, eLc_def, csrc_def, vsrc_def, rg1_def, eSrc_def, enT_def, sFrz_def, sRetVar_def, sMov_def, E, G, ev__law_names, DS, ixD_brw, ixD_own, a20]
      unfold K__law_names_5
      rw [sIf_def, tt]
      cases d20 % 4 == 2 with
      | false => exact ⟨n4, g4, rfl⟩
      | true =>
        obtain ⟨s, hs, as⟩ := at_s W16 (i := (d23 + 3 * (k : Int)) % 16) (by omega) (by rw [show W16.length = 16 from rfl]; omega)
        exact ⟨s, w16_gl s hs, by simp -implicitDefEqProofs (disch := omega) only [fnD_def, eBin_def, eUn_def, eVar_def, eC_def, tCmp2_def, eB_def, sSeq_def, sAsg_def, sRet_def, sNext_def, sIf_def, eCall_def, eBui_def, aCons_def, aNil_def, dCons_def, dNil_def, eTup_def, eLst_def, eIx_def, tAnd2_def, tOr2_def, tNot1_def, tTru_def, eAnd_def, eOr_def, eIsi_def, sWipeB_def, wipeO_nx, wipeO_rt, wipeO_bk, wipeO_ct, gPut_def, gTupF_tup, gsCons_cons, gsNil_nil, opt_map_some, get_zero, get_succ, put_zero, put_succ, borq_pl, borq_own, borq_brw, borq_tk, bor_tk, eUnk_def, unkS_tk, borq_dic, borq_bdc, bor_pl, bor_own, bor_brw, bor_dic, bor_bdc, sto_pl, sto_own, sto_dic, sl2_pl, sl1_pl, modD_p, addD_int, iF0_int, mulD_l, mulD_r, divD_p, powD_p, shlD_p, shrD_p, uF_int, vw2_pl, cF_int, eqD_int, neD_int, isnF_none, notnF_none, isNoneD_none, isNoneD_int, wipe1_nil, wipe1_cons, truD_bool, toD_pl, List.length_cons, List.length_nil, Nat.reduceAdd, Nat.reduceSub, if_true, List.replicate, List.cons_append, List.nil_append, Nat.zero_add, Bool.not_true, Bool.not_false, decide_true, decide_false, Nat.reduceLeDiff, Int.reduceSub, Int.reduceAdd, notD_bool, isi_int_int, isi_int_bool, opt_bind_some, sFor_def, eLc_def, csrc_def, vsrc_def, rg1_def, eSrc_def, enT_def, sFrz_def, sRetVar_def, sMov_def, E, G, K, ev__law_names, DS, W, ixD_brw, ixD_own, nk, a23, as]⟩
    obtain ⟨n5, g5, t5⟩ := t5
    have t6 : ∃ n : Str, Gn n ∧ K__law_names_6 (E (.pl (.str n5)) .un) = some (.nx (E (.pl (.str n)) .un)) := by
      have tt : tInS false (eVar 9) (eTup (dCons (eC (.str "always")) (dCons (eC (.str "where")) (dCons (eC (.str "usually")) (dCons (eC (.str "not")) (dCons (eC (.str "and")) (dCons (eC (.str "or")) dNil))))))) (E (.pl (.str n5)) .un) = some (decide (n5 ∈ keptL) != false) := by
        rw [← inF_strs]
        rfl
      unfold K__law_names_6
      rw [sIf_def, tt]
      by_cases q : n5 ∈ keptL
      · rw [decide_eq_true q]
        have a1 : addD (.str n5) (.str "a") = some (.str (n5 ++ "a")) := by
          have q7 := kept_len n5 q
          have q1 : ("a" : Str).length = 1 := by decide +kernel
          exact addD_str (by omega)
        exact ⟨n5 ++ "a", kept_a n5 q, by simp -implicitDefEqProofs (disch := omega) only [fnD_def, eBin_def, eUn_def, eVar_def, eC_def, tCmp2_def, eB_def, sSeq_def, sAsg_def, sRet_def, sNext_def, sIf_def, eCall_def, eBui_def, aCons_def, aNil_def, dCons_def, dNil_def, eTup_def, eLst_def, eIx_def, tAnd2_def, tOr2_def, tNot1_def, tTru_def, eAnd_def, eOr_def, eIsi_def, sWipeB_def, wipeO_nx, wipeO_rt, wipeO_bk, wipeO_ct, gPut_def, gTupF_tup, gsCons_cons, gsNil_nil, opt_map_some, get_zero, get_succ, put_zero, put_succ, borq_pl, borq_own, borq_brw, borq_tk, bor_tk, eUnk_def, unkS_tk, borq_dic, borq_bdc, bor_pl, bor_own, bor_brw, bor_dic, bor_bdc, sto_pl, sto_own, sto_dic, sl2_pl, sl1_pl, modD_p, addD_int, iF0_int, mulD_l, mulD_r, divD_p, powD_p, shlD_p, shrD_p, uF_int, vw2_pl, cF_int, eqD_int, neD_int, isnF_none, notnF_none, isNoneD_none, isNoneD_int, wipe1_nil, wipe1_cons, truD_bool, toD_pl, List.length_cons, List.length_nil, Nat.reduceAdd, Nat.reduceSub, if_true, List.replicate, List.cons_append, List.nil_append, Nat.zero_add, Bool.not_true, Bool.not_false, decide_true, decide_false, Nat.reduceLeDiff, Int.reduceSub, Int.reduceAdd, notD_bool, isi_int_int, isi_int_bool, opt_bind_some, sFor_def, eLc_def, csrc_def, vsrc_def, rg1_def, eSrc_def, enT_def, sFrz_def, sRetVar_def, sMov_def, E, G, ev__law_names, a1]; rfl⟩
      · rw [decide_eq_false q]
        exact ⟨n5, ⟨g5.1, g5.2, q⟩, rfl⟩
    obtain ⟨n6, g6, t6⟩ := t6
    have t7 : ∃ l' : List Str, (l' ≠ [] ∧ l'.length ≤ k + 1 ∧ ∀ s ∈ l', Gn s) ∧ K__law_names_7 (E (.pl (.str n6)) .un) = some (.nx (G l' K (.pl (.str n6)) .un)) := by
      have tt : tInS true (eVar 9) (eVar 7) (E (.pl (.str n6)) .un) = some (decide (n6 ∈ l) != true) := by
        rw [← inF_strs]
        rfl
      unfold K__law_names_7
      rw [sIf_def, tt]
      by_cases q : n6 ∈ l
      · rw [decide_eq_true q]
        exact ⟨l, ⟨List.ne_nil_of_mem q, by omega, hI3⟩, rfl⟩
      · rw [decide_eq_false q]
        refine ⟨l ++ [n6], ⟨by simp, by rw [List.length_append]; simp; omega, fun s hs => ?_⟩, ?_⟩
        · rcases List.mem_append.mp hs with z | z
          · exact hI3 s z
          · rw [List.mem_singleton.mp z]; exact g6
        · show sApp 7 (eVar 9) (E (.pl (.str n6)) .un) = _
          rw [sApp_own (ds := l.map .str) (s := .pl (.str n6)) (d := .str n6) rfl rfl rfl (by rw [List.length_map]; omega)]
          show _ = some (Out.nx (G (l ++ [n6]) K (.pl (.str n6)) .un))
          rw [show G (l ++ [n6]) K (.pl (.str n6)) .un = ev__law_names C N A W DS B AT (.own ((l ++ [n6]).map .str)) K (.pl (.str n6)) .un from rfl, List.map_append]
          rfl
    obtain ⟨l', g7, t7⟩ := t7
    refine ⟨l', ⟨_, rfl, .inl ?_⟩, .inr g7.1, g7.2⟩
    show L__law_names_1 (E .un .un) = _
    unfold L__law_names_1
    rw [sWipeB_def, sSeq_nx t3, sSeq_nx t4, sSeq_nx t5, sSeq_nx t6, t7]
    rfl

--#
open TL
def trD (t : Sen) : D := .tuple [senD t, .int (t.size : Nat), .int (t.depth : Nat)]
/-- in the pool: names good, size and depth within the law's bounds -/
def Po (t : Sen) : Prop := (∀ s ∈ t.names, Gn s) ∧ t.size ≤ 120 ∧ t.depth ≤ 40
theorem at_tr (P : List Sen) {i : Int} (h0 : 0 ≤ i) (h : i < (P.length : Int)) : ∃ e ∈ P, atI (P.map trD) i = some (trD e) := by
  have hl : i.toNat < P.length := by omega
  refine ⟨P[i.toNat], List.getElem_mem hl, ?_⟩
  rw [atI_map, atI_lt h0 h, List.getElem?_eq_getElem hl]
  rfl
theorem at_trm (P : List Sen) (h : P ≠ []) : ∃ e ∈ P, atI (P.map trD) (-1) = some (trD e) := by
  have hl : 0 < P.length := List.length_pos_iff.mpr h
  have hk : P.length - 1 < P.length := by omega
  refine ⟨P[P.length - 1], List.getElem_mem hk, ?_⟩
  rw [atI_map]
  have : atI P (-1) = some P[P.length - 1] := by
    unfold atI
    have e : ixN P.length (-1) = some (P.length - 1) := by
      unfold ixN
      rw [if_neg (by decide), if_pos (by omega)]
      congr 1
      omega
    rw [e]
    exact List.getElem?_eq_getElem hk
  rw [this]
  rfl
theorem max2_nat (a b : Nat) : max2F [.pl (.int a), .pl (.int b)] = some (.pl (.int ((max a b : Nat) : Int))) := by
  show some (Sl.pl (.int (if (b : Int) > (a : Int) then (b : Int) else (a : Int)))) = _
  congr 3
  split <;> omega
theorem grown_eq {nm : List Str} (hn0 : nm ≠ []) (hn : ∀ s ∈ nm, Gn s) {P : List Sen} (hP0 : P ≠ []) (hP : ∀ e ∈ P, Po e) (c : Int) :
    ∃ t : Sen, ((∀ s ∈ t.names, Gn s)) ∧ F__law_grown [.brw (P.map trD), .pl (.int c), .brw (nm.map .str)] = some (.ret (.pl (trD t))) := by
  obtain ⟨ds, hd, ed⟩ := draws_eq c 6 (by decide)
  have ed : F__law_draws [.pl (.int c), .pl (.int 6)] = some (.ret (.own (ds.map .int))) := ed
  have at_ : ∀ i : Int, 0 ≤ i → i < 6 → ∃ d : Int, atI (ds.map PyData.int) i = some (.int d) := fun i h0 h1 => at_any ds h0 (by omega)
  obtain ⟨d0, a0⟩ := at_ 0 (by decide) (by decide)
  obtain ⟨d1, a1⟩ := at_ 1 (by decide) (by decide)
  obtain ⟨d2, a2⟩ := at_ 2 (by decide) (by decide)
  obtain ⟨d3, a3⟩ := at_ 3 (by decide) (by decide)
  obtain ⟨d4, a4⟩ := at_ 4 (by decide) (by decide)
  obtain ⟨d5, a5⟩ := at_ 5 (by decide) (by decide)
  have hpl : (0 : Int) < (P.length : Int) := by have := List.length_pos_iff.mpr hP0; omega
  have hnl : (0 : Int) < (nm.length : Int) := by have := List.length_pos_iff.mpr hn0; omega
  let PL : Sl := .brw (P.map trD)
  let C : Sl := .pl (.int c)
  let N : Sl := .brw (nm.map .str)
  let DS : Sl := .own (ds.map .int)
  let G : Sl → Sl → Sl → SEnv := fun one other kind => ev__law_grown PL C N DS one other kind
  have e1000 : ∀ k : Nat, k ≤ 100 → (k ≤ 1000) = True := fun k hk => eq_true (by omega)
  have s1 : K__law_grown_1 (ev__law_grown PL C N) = some (.nx (G .un .un .un)) := by simp -implicitDefEqProofs (disch := omega) only [fnD_def, eBin_def, eUn_def, eVar_def, eC_def, tCmp2_def, eB_def, sSeq_def, sAsg_def, sRet_def, sNext_def, sIf_def, eCall_def, eBui_def, aCons_def, aNil_def, dCons_def, dNil_def, eTup_def, eLst_def, eIx_def, tAnd2_def, tOr2_def, tNot1_def, tTru_def, eAnd_def, eOr_def, eIsi_def, sWipeB_def, wipeO_nx, wipeO_rt, wipeO_bk, wipeO_ct, gPut_def, gTupF_tup, gsCons_cons, gsNil_nil, opt_map_some, get_zero, get_succ, put_zero, put_succ, borq_pl, borq_own, borq_brw, borq_tk, bor_tk, eUnk_def, unkS_tk, borq_dic, borq_bdc, bor_pl, bor_own, bor_brw, bor_dic, bor_bdc, sto_pl, sto_own, sto_dic, sl2_pl, sl1_pl, modD_p, addD_int, iF0_int, mulD_l, mulD_r, divD_p, powD_p, shlD_p, shrD_p, uF_int, vw2_pl, cF_int, eqD_int, neD_int, isnF_none, notnF_none, isNoneD_none, isNoneD_int, wipe1_nil, wipe1_cons, truD_bool, toD_pl, List.length_cons, List.length_nil, Nat.reduceAdd, Nat.reduceSub, if_true, List.replicate, List.cons_append, List.nil_append, Nat.zero_add, Bool.not_true, Bool.not_false, decide_true, decide_false, Nat.reduceLeDiff, Int.reduceSub, Int.reduceAdd, notD_bool, isi_int_int, isi_int_bool, opt_bind_some, sFor_def, eLc_def, csrc_def, vsrc_def, rg1_def, eSrc_def, enT_def, sFrz_def, sRetVar_def, sMov_def, K__law_grown_1, G, ev__law_grown, C, DS, ed]
  have s2 : ∃ e ∈ P, K__law_grown_2 (G .un .un .un) = some (.nx (G (.pl (trD e)) .un .un)) := by
    obtain ⟨e, he, a⟩ := at_trm P hP0
    refine ⟨e, he, ?_⟩
    have : eIx (eVar 0) (eUn (uF fun i => -i) (eC (.int 1))) (G .un .un .un) = some (.pl (trD e)) := by
      show (ixD (.brw (P.map trD)) (.int (-1))).map Sl.pl = _
      rw [ixD_brw, a]
      rfl
    unfold K__law_grown_2
    rw [sAsg_def, this]
    rfl
  obtain ⟨e0, h0, s2⟩ := s2
  have s3 : ∃ e ∈ P, K__law_grown_3 (G (.pl (trD e0)) .un .un) = some (.nx (G (.pl (trD e)) .un .un)) := by
    by_cases q : d0 % 3 = 0
    · obtain ⟨e, he, a⟩ := at_tr P (i := d1 % (P.length : Int)) (Int.emod_nonneg _ (by omega)) (Int.emod_lt_of_pos _ hpl)
      exact ⟨e, he, by simp -implicitDefEqProofs (disch := omega) only [fnD_def, eBin_def, eUn_def, eVar_def, eC_def, tCmp2_def, eB_def, sSeq_def, sAsg_def, sRet_def, sNext_def, sIf_def, eCall_def, eBui_def, aCons_def, aNil_def, dCons_def, dNil_def, eTup_def, eLst_def, eIx_def, tAnd2_def, tOr2_def, tNot1_def, tTru_def, eAnd_def, eOr_def, eIsi_def, sWipeB_def, wipeO_nx, wipeO_rt, wipeO_bk, wipeO_ct, gPut_def, gTupF_tup, gsCons_cons, gsNil_nil, opt_map_some, get_zero, get_succ, put_zero, put_succ, borq_pl, borq_own, borq_brw, borq_tk, bor_tk, eUnk_def, unkS_tk, borq_dic, borq_bdc, bor_pl, bor_own, bor_brw, bor_dic, bor_bdc, sto_pl, sto_own, sto_dic, sl2_pl, sl1_pl, modD_p, addD_int, iF0_int, mulD_l, mulD_r, divD_p, powD_p, shlD_p, shrD_p, uF_int, vw2_pl, cF_int, eqD_int, neD_int, isnF_none, notnF_none, isNoneD_none, isNoneD_int, wipe1_nil, wipe1_cons, truD_bool, toD_pl, List.length_cons, List.length_nil, Nat.reduceAdd, Nat.reduceSub, if_true, List.replicate, List.cons_append, List.nil_append, Nat.zero_add, Bool.not_true, Bool.not_false, decide_true, decide_false, Nat.reduceLeDiff, Int.reduceSub, Int.reduceAdd, notD_bool, isi_int_int, isi_int_bool, opt_bind_some, sFor_def, eLc_def, csrc_def, vsrc_def, rg1_def, eSrc_def, enT_def, sFrz_def, sRetVar_def, sMov_def, K__law_grown_3, G, ev__law_grown, PL, DS, ixD_brw, ixD_own, a0, q, beq_self_eq_true, a1, lenF_brw, List.length_map, modD_p hpl, a]⟩
    · exact ⟨e0, h0, by simp -implicitDefEqProofs (disch := omega) only [fnD_def, eBin_def, eUn_def, eVar_def, eC_def, tCmp2_def, eB_def, sSeq_def, sAsg_def, sRet_def, sNext_def, sIf_def, eCall_def, eBui_def, aCons_def, aNil_def, dCons_def, dNil_def, eTup_def, eLst_def, eIx_def, tAnd2_def, tOr2_def, tNot1_def, tTru_def, eAnd_def, eOr_def, eIsi_def, sWipeB_def, wipeO_nx, wipeO_rt, wipeO_bk, wipeO_ct, gPut_def, gTupF_tup, gsCons_cons, gsNil_nil, opt_map_some, get_zero, get_succ, put_zero, put_succ, borq_pl, borq_own, borq_brw, borq_tk, bor_tk, eUnk_def, unkS_tk, borq_dic, borq_bdc, bor_pl, bor_own, bor_brw, bor_dic, bor_bdc, sto_pl, sto_own, sto_dic, sl2_pl, sl1_pl, modD_p, addD_int, iF0_int, mulD_l, mulD_r, divD_p, powD_p, shlD_p, shrD_p, uF_int, vw2_pl, cF_int, eqD_int, neD_int, isnF_none, notnF_none, isNoneD_none, isNoneD_int, wipe1_nil, wipe1_cons, truD_bool, toD_pl, List.length_cons, List.length_nil, Nat.reduceAdd, Nat.reduceSub, if_true, List.replicate, List.cons_append, List.nil_append, Nat.zero_add, Bool.not_true, Bool.not_false, decide_true, decide_false, Nat.reduceLeDiff, Int.reduceSub, Int.reduceAdd, notD_bool, isi_int_int, isi_int_bool, opt_bind_some, sFor_def, eLc_def, csrc_def, vsrc_def, rg1_def, eSrc_def, enT_def, sFrz_def, sRetVar_def, sMov_def, K__law_grown_3, G, ev__law_grown, PL, DS, ixD_brw, ixD_own, a0, beq_eq_false_iff_ne.mpr q]⟩
  obtain ⟨one, h1, s3⟩ := s3
  obtain ⟨x, hx, ax⟩ := at_s nm (i := d2 % (nm.length : Int)) (Int.emod_nonneg _ (by omega)) (Int.emod_lt_of_pos _ hnl)
  let w : Sen := .is x
  have hw : Po w := ⟨fun s hs => by rw [List.mem_singleton.mp hs]; exact hn x hx, by show 1 ≤ 120; decide, by show 1 ≤ 40; decide⟩
  have s4 : K__law_grown_4 (G (.pl (trD one)) .un .un) = some (.nx (G (.pl (trD one)) (.pl (trD w)) .un)) := by
    simp -implicitDefEqProofs (disch := omega) only [fnD_def, eBin_def, eUn_def, eVar_def, eC_def, tCmp2_def, eB_def, sSeq_def, sAsg_def, sRet_def, sNext_def, sIf_def, eCall_def, eBui_def, aCons_def, aNil_def, dCons_def, dNil_def, eTup_def, eLst_def, eIx_def, tAnd2_def, tOr2_def, tNot1_def, tTru_def, eAnd_def, eOr_def, eIsi_def, sWipeB_def, wipeO_nx, wipeO_rt, wipeO_bk, wipeO_ct, gPut_def, gTupF_tup, gsCons_cons, gsNil_nil, opt_map_some, get_zero, get_succ, put_zero, put_succ, borq_pl, borq_own, borq_brw, borq_tk, bor_tk, eUnk_def, unkS_tk, borq_dic, borq_bdc, bor_pl, bor_own, bor_brw, bor_dic, bor_bdc, sto_pl, sto_own, sto_dic, sl2_pl, sl1_pl, modD_p, addD_int, iF0_int, mulD_l, mulD_r, divD_p, powD_p, shlD_p, shrD_p, uF_int, vw2_pl, cF_int, eqD_int, neD_int, isnF_none, notnF_none, isNoneD_none, isNoneD_int, wipe1_nil, wipe1_cons, truD_bool, toD_pl, List.length_cons, List.length_nil, Nat.reduceAdd, Nat.reduceSub, if_true, List.replicate, List.cons_append, List.nil_append, Nat.zero_add, Bool.not_true, Bool.not_false, decide_true, decide_false, Nat.reduceLeDiff, Int.reduceSub, Int.reduceAdd, notD_bool, isi_int_int, isi_int_bool, opt_bind_some, sFor_def, eLc_def, csrc_def, vsrc_def, rg1_def, eSrc_def, enT_def, sFrz_def, sRetVar_def, sMov_def, K__law_grown_4, G, ev__law_grown, N, DS, ixD_brw, ixD_own, a2, lenF_brw, List.length_map, modD_p hnl, ax, e1000]
    rfl
  have s5 : ∃ e, Po e ∧ K__law_grown_5 (G (.pl (trD one)) (.pl (trD w)) .un) = some (.nx (G (.pl (trD one)) (.pl (trD e)) .un)) := by
    by_cases q : d3 % 2 = 0
    · obtain ⟨e, he, a⟩ := at_tr P (i := d4 % (P.length : Int)) (Int.emod_nonneg _ (by omega)) (Int.emod_lt_of_pos _ hpl)
      exact ⟨e, hP e he, by simp -implicitDefEqProofs (disch := omega) only [fnD_def, eBin_def, eUn_def, eVar_def, eC_def, tCmp2_def, eB_def, sSeq_def, sAsg_def, sRet_def, sNext_def, sIf_def, eCall_def, eBui_def, aCons_def, aNil_def, dCons_def, dNil_def, eTup_def, eLst_def, eIx_def, tAnd2_def, tOr2_def, tNot1_def, tTru_def, eAnd_def, eOr_def, eIsi_def, sWipeB_def, wipeO_nx, wipeO_rt, wipeO_bk, wipeO_ct, gPut_def, gTupF_tup, gsCons_cons, gsNil_nil, opt_map_some, get_zero, get_succ, put_zero, put_succ, borq_pl, borq_own, borq_brw, borq_tk, bor_tk, eUnk_def, unkS_tk, borq_dic, borq_bdc, bor_pl, bor_own, bor_brw, bor_dic, bor_bdc, sto_pl, sto_own, sto_dic, sl2_pl, sl1_pl, modD_p, addD_int, iF0_int, mulD_l, mulD_r, divD_p, powD_p, shlD_p, shrD_p, uF_int, vw2_pl, cF_int, eqD_int, neD_int, isnF_none, notnF_none, isNoneD_none, isNoneD_int, wipe1_nil, wipe1_cons, truD_bool, toD_pl, List.length_cons, List.length_nil, Nat.reduceAdd, Nat.reduceSub, if_true, List.replicate, List.cons_append, List.nil_append, Nat.zero_add, Bool.not_true, Bool.not_false, decide_true, decide_false, Nat.reduceLeDiff, Int.reduceSub, Int.reduceAdd, notD_bool, isi_int_int, isi_int_bool, opt_bind_some, sFor_def, eLc_def, csrc_def, vsrc_def, rg1_def, eSrc_def, enT_def, sFrz_def, sRetVar_def, sMov_def, K__law_grown_5, G, ev__law_grown, PL, DS, ixD_brw, ixD_own, a3, q, beq_self_eq_true, a4, lenF_brw, List.length_map, modD_p hpl, a]⟩
    · exact ⟨w, hw, by simp -implicitDefEqProofs (disch := omega) only [fnD_def, eBin_def, eUn_def, eVar_def, eC_def, tCmp2_def, eB_def, sSeq_def, sAsg_def, sRet_def, sNext_def, sIf_def, eCall_def, eBui_def, aCons_def, aNil_def, dCons_def, dNil_def, eTup_def, eLst_def, eIx_def, tAnd2_def, tOr2_def, tNot1_def, tTru_def, eAnd_def, eOr_def, eIsi_def, sWipeB_def, wipeO_nx, wipeO_rt, wipeO_bk, wipeO_ct, gPut_def, gTupF_tup, gsCons_cons, gsNil_nil, opt_map_some, get_zero, get_succ, put_zero, put_succ, borq_pl, borq_own, borq_brw, borq_tk, bor_tk, eUnk_def, unkS_tk, borq_dic, borq_bdc, bor_pl, bor_own, bor_brw, bor_dic, bor_bdc, sto_pl, sto_own, sto_dic, sl2_pl, sl1_pl, modD_p, addD_int, iF0_int, mulD_l, mulD_r, divD_p, powD_p, shlD_p, shrD_p, uF_int, vw2_pl, cF_int, eqD_int, neD_int, isnF_none, notnF_none, isNoneD_none, isNoneD_int, wipe1_nil, wipe1_cons, truD_bool, toD_pl, List.length_cons, List.length_nil, Nat.reduceAdd, Nat.reduceSub, if_true, List.replicate, List.cons_append, List.nil_append, Nat.zero_add, Bool.not_true, Bool.not_false, decide_true, decide_false, Nat.reduceLeDiff, Int.reduceSub, Int.reduceAdd, notD_bool, isi_int_int, isi_int_bool, opt_bind_some, sFor_def, eLc_def, csrc_def, vsrc_def, rg1_def, eSrc_def, enT_def, sFrz_def, sRetVar_def, sMov_def, K__law_grown_5, G, ev__law_grown, PL, DS, ixD_brw, ixD_own, a3, beq_eq_false_iff_ne.mpr q]⟩
  obtain ⟨other, h2, s5⟩ := s5
  have h1 := hP one h1
  let KL : List Str := ["not", "and", "or", "and", "or", "is"]
  obtain ⟨kd, hk, ak⟩ := at_s KL (i := d5 % 6) (by omega) (by simp only [KL, List.length_cons, List.length_nil]; omega)
  have s6 : K__law_grown_6 (G (.pl (trD one)) (.pl (trD other)) .un) = some (.nx (G (.pl (trD one)) (.pl (trD other)) (.pl (.str kd)))) := by
    simp -implicitDefEqProofs (disch := omega) only [fnD_def, eBin_def, eUn_def, eVar_def, eC_def, tCmp2_def, eB_def, sSeq_def, sAsg_def, sRet_def, sNext_def, sIf_def, eCall_def, eBui_def, aCons_def, aNil_def, dCons_def, dNil_def, eTup_def, eLst_def, eIx_def, tAnd2_def, tOr2_def, tNot1_def, tTru_def, eAnd_def, eOr_def, eIsi_def, sWipeB_def, wipeO_nx, wipeO_rt, wipeO_bk, wipeO_ct, gPut_def, gTupF_tup, gsCons_cons, gsNil_nil, opt_map_some, get_zero, get_succ, put_zero, put_succ, borq_pl, borq_own, borq_brw, borq_tk, bor_tk, eUnk_def, unkS_tk, borq_dic, borq_bdc, bor_pl, bor_own, bor_brw, bor_dic, bor_bdc, sto_pl, sto_own, sto_dic, sl2_pl, sl1_pl, modD_p, addD_int, iF0_int, mulD_l, mulD_r, divD_p, powD_p, shlD_p, shrD_p, uF_int, vw2_pl, cF_int, eqD_int, neD_int, isnF_none, notnF_none, isNoneD_none, isNoneD_int, wipe1_nil, wipe1_cons, truD_bool, toD_pl, List.length_cons, List.length_nil, Nat.reduceAdd, Nat.reduceSub, if_true, List.replicate, List.cons_append, List.nil_append, Nat.zero_add, Bool.not_true, Bool.not_false, decide_true, decide_false, Nat.reduceLeDiff, Int.reduceSub, Int.reduceAdd, notD_bool, isi_int_int, isi_int_bool, opt_bind_some, sFor_def, eLc_def, csrc_def, vsrc_def, rg1_def, eSrc_def, enT_def, sFrz_def, sRetVar_def, sMov_def, K__law_grown_6, G, ev__law_grown, DS, ixD_brw, a5, e1000, ixD_own]
    rw [show atI [PyData.str "not", .str "and", .str "or", .str "and", .str "or", .str "is"] (d5 % 6) = some (.str kd) from ak]
    rfl
  let ρ : Sen → Sen → SEnv := fun a b => G (.pl (trD a)) (.pl (trD b)) (.pl (.str kd))
  have two : ∀ (t : Sen → Sen → Sen), (∀ a b, senD (t a b) = .tuple [.str kd, senD a, senD b]) → (∀ a b, (t a b).names = a.names ++ b.names) → (∀ a b, (t a b).size = 1 + a.size + b.size) → (∀ a b, (t a b).depth = 1 + max a.depth b.depth) → ∀ a b, Po a → Po b →
      ∃ e, (∀ s ∈ e.names, Gn s) ∧ K__law_grown_10 (ρ a b) = some (.rt (.pl (trD e))) := fun t t1 t2 t3 t4 a b ha hb => by
    refine ⟨t a b, fun s hs => ?_, ?_⟩
    · rw [t2, List.mem_append] at hs
      exact hs.elim (ha.1 s) (hb.1 s)
    · have z : ((t a b).size : Int) = (a.size : Int) + (b.size : Int) + 1 := by rw [t3]; omega
      have z2 : ((t a b).depth : Int) = ((max a.depth b.depth : Nat) : Int) + 1 := by rw [t4]; omega
      unfold trD
      rw [t1, z, z2]
      simp -implicitDefEqProofs (disch := omega) only [fnD_def, eBin_def, eUn_def, eVar_def, eC_def, tCmp2_def, eB_def, sSeq_def, sAsg_def, sRet_def, sNext_def, sIf_def, eCall_def, eBui_def, aCons_def, aNil_def, dCons_def, dNil_def, eTup_def, eLst_def, eIx_def, tAnd2_def, tOr2_def, tNot1_def, tTru_def, eAnd_def, eOr_def, eIsi_def, sWipeB_def, wipeO_nx, wipeO_rt, wipeO_bk, wipeO_ct, gPut_def, gTupF_tup, gsCons_cons, gsNil_nil, opt_map_some, get_zero, get_succ, put_zero, put_succ, borq_pl, borq_own, borq_brw, borq_tk, bor_tk, eUnk_def, unkS_tk, borq_dic, borq_bdc, bor_pl, bor_own, bor_brw, bor_dic, bor_bdc, sto_pl, sto_own, sto_dic, sl2_pl, sl1_pl, modD_p, addD_int, iF0_int, mulD_l, mulD_r, divD_p, powD_p, shlD_p, shrD_p, uF_int, vw2_pl, cF_int, eqD_int, neD_int, isnF_none, notnF_none, isNoneD_none, isNoneD_int, wipe1_nil, wipe1_cons, truD_bool, toD_pl, List.length_cons, List.length_nil, Nat.reduceAdd, Nat.reduceSub, if_true, List.replicate, List.cons_append, List.nil_append, Nat.zero_add, Bool.not_true, Bool.not_false, decide_true, decide_false, Nat.reduceLeDiff, Int.reduceSub, Int.reduceAdd, notD_bool, isi_int_int, isi_int_bool, opt_bind_some, sFor_def, eLc_def, csrc_def, vsrc_def, rg1_def, eSrc_def, enT_def, sFrz_def, sRetVar_def, sMov_def, K__law_grown_10, ρ, G, ev__law_grown, trD, ixD_tuple, at3s, e1000, max2_nat]
  have main : ∃ e : Sen, (∀ s ∈ e.names, Gn s) ∧ sSeq K__law_grown_7 (sSeq K__law_grown_8 (sSeq K__law_grown_9 K__law_grown_10)) (ρ one other) = some (.rt (.pl (trD e))) := by
    have s8 : (kd == "is") = false → K__law_grown_7 (ρ one other) = some (.nx (ρ one other)) := fun h => by simp -implicitDefEqProofs (disch := omega) only [fnD_def, eBin_def, eUn_def, eVar_def, eC_def, tCmp2_def, eB_def, sSeq_def, sAsg_def, sRet_def, sNext_def, sIf_def, eCall_def, eBui_def, aCons_def, aNil_def, dCons_def, dNil_def, eTup_def, eLst_def, eIx_def, tAnd2_def, tOr2_def, tNot1_def, tTru_def, eAnd_def, eOr_def, eIsi_def, sWipeB_def, wipeO_nx, wipeO_rt, wipeO_bk, wipeO_ct, gPut_def, gTupF_tup, gsCons_cons, gsNil_nil, opt_map_some, get_zero, get_succ, put_zero, put_succ, borq_pl, borq_own, borq_brw, borq_tk, bor_tk, eUnk_def, unkS_tk, borq_dic, borq_bdc, bor_pl, bor_own, bor_brw, bor_dic, bor_bdc, sto_pl, sto_own, sto_dic, sl2_pl, sl1_pl, modD_p, addD_int, iF0_int, mulD_l, mulD_r, divD_p, powD_p, shlD_p, shrD_p, uF_int, vw2_pl, cF_int, eqD_int, neD_int, isnF_none, notnF_none, isNoneD_none, isNoneD_int, wipe1_nil, wipe1_cons, truD_bool, toD_pl, List.length_cons, List.length_nil, Nat.reduceAdd, Nat.reduceSub, if_true, List.replicate, List.cons_append, List.nil_append, Nat.zero_add, Bool.not_true, Bool.not_false, decide_true, decide_false, Nat.reduceLeDiff, Int.reduceSub, Int.reduceAdd, notD_bool, isi_int_int, isi_int_bool, opt_bind_some, sFor_def, eLc_def, csrc_def, vsrc_def, rg1_def, eSrc_def, enT_def, sFrz_def, sRetVar_def, sMov_def, K__law_grown_7, ρ, G, ev__law_grown, eqD_str, h]
    have s9 : (kd == "not") = false → K__law_grown_8 (ρ one other) = some (.nx (ρ one other)) := fun h => by simp -implicitDefEqProofs (disch := omega) only [fnD_def, eBin_def, eUn_def, eVar_def, eC_def, tCmp2_def, eB_def, sSeq_def, sAsg_def, sRet_def, sNext_def, sIf_def, eCall_def, eBui_def, aCons_def, aNil_def, dCons_def, dNil_def, eTup_def, eLst_def, eIx_def, tAnd2_def, tOr2_def, tNot1_def, tTru_def, eAnd_def, eOr_def, eIsi_def, sWipeB_def, wipeO_nx, wipeO_rt, wipeO_bk, wipeO_ct, gPut_def, gTupF_tup, gsCons_cons, gsNil_nil, opt_map_some, get_zero, get_succ, put_zero, put_succ, borq_pl, borq_own, borq_brw, borq_tk, bor_tk, eUnk_def, unkS_tk, borq_dic, borq_bdc, bor_pl, bor_own, bor_brw, bor_dic, bor_bdc, sto_pl, sto_own, sto_dic, sl2_pl, sl1_pl, modD_p, addD_int, iF0_int, mulD_l, mulD_r, divD_p, powD_p, shlD_p, shrD_p, uF_int, vw2_pl, cF_int, eqD_int, neD_int, isnF_none, notnF_none, isNoneD_none, isNoneD_int, wipe1_nil, wipe1_cons, truD_bool, toD_pl, List.length_cons, List.length_nil, Nat.reduceAdd, Nat.reduceSub, if_true, List.replicate, List.cons_append, List.nil_append, Nat.zero_add, Bool.not_true, Bool.not_false, decide_true, decide_false, Nat.reduceLeDiff, Int.reduceSub, Int.reduceAdd, notD_bool, isi_int_int, isi_int_bool, opt_bind_some, sFor_def, eLc_def, csrc_def, vsrc_def, rg1_def, eSrc_def, enT_def, sFrz_def, sRetVar_def, sMov_def, K__law_grown_8, ρ, G, ev__law_grown, eqD_str, h]
    have s10 : ∃ a b, Po a ∧ Po b ∧ K__law_grown_9 (ρ one other) = some (.nx (ρ a b)) := by
      by_cases q : d0 / 3 % 2 = 0
      · exact ⟨other, one, h2, h1, by
          unfold K__law_grown_9
          rw [sIf_def, show tCmp2 eqD (eBin modD (eBin divD (eIx (eVar 3) (eC (.int 0))) (eC (.int 3))) (eC (.int 2))) (eC (.int 0)) (ρ one other) = some true by simp -implicitDefEqProofs (disch := omega) only [fnD_def, eBin_def, eUn_def, eVar_def, eC_def, tCmp2_def, eB_def, sSeq_def, sAsg_def, sRet_def, sNext_def, sIf_def, eCall_def, eBui_def, aCons_def, aNil_def, dCons_def, dNil_def, eTup_def, eLst_def, eIx_def, tAnd2_def, tOr2_def, tNot1_def, tTru_def, eAnd_def, eOr_def, eIsi_def, sWipeB_def, wipeO_nx, wipeO_rt, wipeO_bk, wipeO_ct, gPut_def, gTupF_tup, gsCons_cons, gsNil_nil, opt_map_some, get_zero, get_succ, put_zero, put_succ, borq_pl, borq_own, borq_brw, borq_tk, bor_tk, eUnk_def, unkS_tk, borq_dic, borq_bdc, bor_pl, bor_own, bor_brw, bor_dic, bor_bdc, sto_pl, sto_own, sto_dic, sl2_pl, sl1_pl, modD_p, addD_int, iF0_int, mulD_l, mulD_r, divD_p, powD_p, shlD_p, shrD_p, uF_int, vw2_pl, cF_int, eqD_int, neD_int, isnF_none, notnF_none, isNoneD_none, isNoneD_int, wipe1_nil, wipe1_cons, truD_bool, toD_pl, List.length_cons, List.length_nil, Nat.reduceAdd, Nat.reduceSub, if_true, List.replicate, List.cons_append, List.nil_append, Nat.zero_add, Bool.not_true, Bool.not_false, decide_true, decide_false, Nat.reduceLeDiff, Int.reduceSub, Int.reduceAdd, notD_bool, isi_int_int, isi_int_bool, opt_bind_some, sFor_def, eLc_def, csrc_def, vsrc_def, rg1_def, eSrc_def, enT_def, sFrz_def, sRetVar_def, sMov_def, ρ, G, ev__law_grown, DS, ixD_brw, ixD_own, a0, q, beq_self_eq_true]]
          rfl⟩
      · exact ⟨one, other, h1, h2, by simp -implicitDefEqProofs (disch := omega) only [fnD_def, eBin_def, eUn_def, eVar_def, eC_def, tCmp2_def, eB_def, sSeq_def, sAsg_def, sRet_def, sNext_def, sIf_def, eCall_def, eBui_def, aCons_def, aNil_def, dCons_def, dNil_def, eTup_def, eLst_def, eIx_def, tAnd2_def, tOr2_def, tNot1_def, tTru_def, eAnd_def, eOr_def, eIsi_def, sWipeB_def, wipeO_nx, wipeO_rt, wipeO_bk, wipeO_ct, gPut_def, gTupF_tup, gsCons_cons, gsNil_nil, opt_map_some, get_zero, get_succ, put_zero, put_succ, borq_pl, borq_own, borq_brw, borq_tk, bor_tk, eUnk_def, unkS_tk, borq_dic, borq_bdc, bor_pl, bor_own, bor_brw, bor_dic, bor_bdc, sto_pl, sto_own, sto_dic, sl2_pl, sl1_pl, modD_p, addD_int, iF0_int, mulD_l, mulD_r, divD_p, powD_p, shlD_p, shrD_p, uF_int, vw2_pl, cF_int, eqD_int, neD_int, isnF_none, notnF_none, isNoneD_none, isNoneD_int, wipe1_nil, wipe1_cons, truD_bool, toD_pl, List.length_cons, List.length_nil, Nat.reduceAdd, Nat.reduceSub, if_true, List.replicate, List.cons_append, List.nil_append, Nat.zero_add, Bool.not_true, Bool.not_false, decide_true, decide_false, Nat.reduceLeDiff, Int.reduceSub, Int.reduceAdd, notD_bool, isi_int_int, isi_int_bool, opt_bind_some, sFor_def, eLc_def, csrc_def, vsrc_def, rg1_def, eSrc_def, enT_def, sFrz_def, sRetVar_def, sMov_def, K__law_grown_9, ρ, G, ev__law_grown, DS, ixD_brw, ixD_own, a0, beq_eq_false_iff_ne.mpr q]⟩
    obtain ⟨a, b, ha, hb, s10⟩ := s10
    have cases : kd = "not" ∨ kd = "and" ∨ kd = "or" ∨ kd = "is" := by
      simp only [KL, List.mem_cons, List.not_mem_nil, or_false] at hk
      rcases hk with h | h | h | h | h | h
      · exact .inl h
      · exact .inr (.inl h)
      · exact .inr (.inr (.inl h))
      · exact .inr (.inl h)
      · exact .inr (.inr (.inl h))
      · exact .inr (.inr (.inr h))
    rcases cases with h | h | h | h
    · refine ⟨.not one, h1.1, (sSeq_nx (s8 (by rw [h]; decide +kernel))).trans (sSeq_rt ?_)⟩
      have z : ((Sen.not one).size : Int) = (one.size : Int) + 1 := by simp only [Sen.size]; omega
      have z2 : ((Sen.not one).depth : Int) = (one.depth : Int) + 1 := by simp only [Sen.depth]; omega
      unfold trD
      rw [z, z2]
      simp -implicitDefEqProofs (disch := omega) only [fnD_def, eBin_def, eUn_def, eVar_def, eC_def, tCmp2_def, eB_def, sSeq_def, sAsg_def, sRet_def, sNext_def, sIf_def, eCall_def, eBui_def, aCons_def, aNil_def, dCons_def, dNil_def, eTup_def, eLst_def, eIx_def, tAnd2_def, tOr2_def, tNot1_def, tTru_def, eAnd_def, eOr_def, eIsi_def, sWipeB_def, wipeO_nx, wipeO_rt, wipeO_bk, wipeO_ct, gPut_def, gTupF_tup, gsCons_cons, gsNil_nil, opt_map_some, get_zero, get_succ, put_zero, put_succ, borq_pl, borq_own, borq_brw, borq_tk, bor_tk, eUnk_def, unkS_tk, borq_dic, borq_bdc, bor_pl, bor_own, bor_brw, bor_dic, bor_bdc, sto_pl, sto_own, sto_dic, sl2_pl, sl1_pl, modD_p, addD_int, iF0_int, mulD_l, mulD_r, divD_p, powD_p, shlD_p, shrD_p, uF_int, vw2_pl, cF_int, eqD_int, neD_int, isnF_none, notnF_none, isNoneD_none, isNoneD_int, wipe1_nil, wipe1_cons, truD_bool, toD_pl, List.length_cons, List.length_nil, Nat.reduceAdd, Nat.reduceSub, if_true, List.replicate, List.cons_append, List.nil_append, Nat.zero_add, Bool.not_true, Bool.not_false, decide_true, decide_false, Nat.reduceLeDiff, Int.reduceSub, Int.reduceAdd, notD_bool, isi_int_int, isi_int_bool, opt_bind_some, sFor_def, eLc_def, csrc_def, vsrc_def, rg1_def, eSrc_def, enT_def, sFrz_def, sRetVar_def, sMov_def, K__law_grown_8, ρ, G, ev__law_grown, eqD_str, h, beq_self_eq_true, trD, ixD_tuple, at3s, e1000]
      rfl
    · obtain ⟨e, he, er⟩ := two .con (fun a b => by rw [h]; rfl) (fun _ _ => rfl) (fun _ _ => rfl) (fun _ _ => rfl) a b ha hb
      exact ⟨e, he, (sSeq_nx (s8 (by rw [h]; decide +kernel))).trans ((sSeq_nx (s9 (by rw [h]; decide +kernel))).trans ((sSeq_nx s10).trans er))⟩
    · obtain ⟨e, he, er⟩ := two .dis (fun a b => by rw [h]; rfl) (fun _ _ => rfl) (fun _ _ => rfl) (fun _ _ => rfl) a b ha hb
      exact ⟨e, he, (sSeq_nx (s8 (by rw [h]; decide +kernel))).trans ((sSeq_nx (s9 (by rw [h]; decide +kernel))).trans ((sSeq_nx s10).trans er))⟩
    · exact ⟨other, h2.1, sSeq_rt (by simp -implicitDefEqProofs (disch := omega) only [fnD_def, eBin_def, eUn_def, eVar_def, eC_def, tCmp2_def, eB_def, sSeq_def, sAsg_def, sRet_def, sNext_def, sIf_def, eCall_def, eBui_def, aCons_def, aNil_def, dCons_def, dNil_def, eTup_def, eLst_def, eIx_def, tAnd2_def, tOr2_def, tNot1_def, tTru_def, eAnd_def, eOr_def, eIsi_def, sWipeB_def, wipeO_nx, wipeO_rt, wipeO_bk, wipeO_ct, gPut_def, gTupF_tup, gsCons_cons, gsNil_nil, opt_map_some, get_zero, get_succ, put_zero, put_succ, borq_pl, borq_own, borq_brw, borq_tk, bor_tk, eUnk_def, unkS_tk, borq_dic, borq_bdc, bor_pl, bor_own, bor_brw, bor_dic, bor_bdc, sto_pl, sto_own, sto_dic, sl2_pl, sl1_pl, modD_p, addD_int, iF0_int, mulD_l, mulD_r, divD_p, powD_p, shlD_p, shrD_p, uF_int, vw2_pl, cF_int, eqD_int, neD_int, isnF_none, notnF_none, isNoneD_none, isNoneD_int, wipe1_nil, wipe1_cons, truD_bool, toD_pl, List.length_cons, List.length_nil, Nat.reduceAdd, Nat.reduceSub, if_true, List.replicate, List.cons_append, List.nil_append, Nat.zero_add, Bool.not_true, Bool.not_false, decide_true, decide_false, Nat.reduceLeDiff, Int.reduceSub, Int.reduceAdd, notD_bool, isi_int_int, isi_int_bool, opt_bind_some, sFor_def, eLc_def, csrc_def, vsrc_def, rg1_def, eSrc_def, enT_def, sFrz_def, sRetVar_def, sMov_def, K__law_grown_7, ρ, G, ev__law_grown, eqD_str, h, beq_self_eq_true])⟩
  obtain ⟨e, he, er⟩ := main
  refine ⟨e, he, F__law_grown_rt ?_⟩
  unfold B__law_grown
  exact (sSeq_nx s1).trans ((sSeq_nx s2).trans ((sSeq_nx s3).trans ((sSeq_nx s4).trans ((sSeq_nx s5).trans ((sSeq_nx s6).trans er)))))

--#
open TL
theorem isi_str : kitB "str" "str" = some true := by decide +kernel
theorem law_true (ns : List Int) (h : ns.length ≤ 63) : F_law [.pl (.list (ns.map PyData.int))] = some (.ret (.pl (.bool true))) := by
  let S : Sl := .pl (.list (ns.map PyData.int))
  obtain ⟨f, ef⟩ := cell_eq ns 0 (by decide)
  obtain ⟨nm, hm0, hm, hg, en⟩ := lnames_eq f
  let N : Sl := .own (nm.map .str)
  have e1000 : ∀ k : Nat, k ≤ 100 → (k ≤ 1000) = True := fun k hk => eq_true (by omega)
  have s1 : K_law_7 (ev_law S) = some (.nx (ev_law S N)) := by simp -implicitDefEqProofs (disch := omega) only [fnD_def, eBin_def, eUn_def, eVar_def, eC_def, tCmp2_def, eB_def, sSeq_def, sAsg_def, sRet_def, sNext_def, sIf_def, eCall_def, eBui_def, aCons_def, aNil_def, dCons_def, dNil_def, eTup_def, eLst_def, eIx_def, tAnd2_def, tOr2_def, tNot1_def, tTru_def, eAnd_def, eOr_def, eIsi_def, sWipeB_def, wipeO_nx, wipeO_rt, wipeO_bk, wipeO_ct, gPut_def, gTupF_tup, gsCons_cons, gsNil_nil, opt_map_some, get_zero, get_succ, put_zero, put_succ, borq_pl, borq_own, borq_brw, borq_tk, bor_tk, eUnk_def, unkS_tk, borq_dic, borq_bdc, bor_pl, bor_own, bor_brw, bor_dic, bor_bdc, sto_pl, sto_own, sto_dic, sl2_pl, sl1_pl, modD_p, addD_int, iF0_int, mulD_l, mulD_r, divD_p, powD_p, shlD_p, shrD_p, uF_int, vw2_pl, cF_int, eqD_int, neD_int, isnF_none, notnF_none, isNoneD_none, isNoneD_int, wipe1_nil, wipe1_cons, truD_bool, toD_pl, List.length_cons, List.length_nil, Nat.reduceAdd, Nat.reduceSub, if_true, List.replicate, List.cons_append, List.nil_append, Nat.zero_add, Bool.not_true, Bool.not_false, decide_true, decide_false, Nat.reduceLeDiff, Int.reduceSub, Int.reduceAdd, notD_bool, isi_int_int, isi_int_bool, opt_bind_some, sFor_def, eLc_def, csrc_def, vsrc_def, rg1_def, eSrc_def, enT_def, sFrz_def, sRetVar_def, sMov_def, K_law_7, ev_law, S, N, ef, en]
  obtain ⟨x, hx, ax⟩ := at_s nm (i := 0) (by decide) (by have := List.length_pos_iff.mpr hm0; omega)
  let w : Sen := .is x
  have hw : Po w := ⟨fun s hs => by rw [List.mem_singleton.mp hs]; exact hg x hx, by show 1 ≤ 120; decide, by show 1 ≤ 40; decide⟩
  let G : List Sen → SEnv := fun P => ev_law S N (.own (P.map trD))
  have s2 : K_law_8 (ev_law S N) = some (.nx (G [w])) := by
    simp -implicitDefEqProofs (disch := omega) only [fnD_def, eBin_def, eUn_def, eVar_def, eC_def, tCmp2_def, eB_def, sSeq_def, sAsg_def, sRet_def, sNext_def, sIf_def, eCall_def, eBui_def, aCons_def, aNil_def, dCons_def, dNil_def, eTup_def, eLst_def, eIx_def, tAnd2_def, tOr2_def, tNot1_def, tTru_def, eAnd_def, eOr_def, eIsi_def, sWipeB_def, wipeO_nx, wipeO_rt, wipeO_bk, wipeO_ct, gPut_def, gTupF_tup, gsCons_cons, gsNil_nil, opt_map_some, get_zero, get_succ, put_zero, put_succ, borq_pl, borq_own, borq_brw, borq_tk, bor_tk, eUnk_def, unkS_tk, borq_dic, borq_bdc, bor_pl, bor_own, bor_brw, bor_dic, bor_bdc, sto_pl, sto_own, sto_dic, sl2_pl, sl1_pl, modD_p, addD_int, iF0_int, mulD_l, mulD_r, divD_p, powD_p, shlD_p, shrD_p, uF_int, vw2_pl, cF_int, eqD_int, neD_int, isnF_none, notnF_none, isNoneD_none, isNoneD_int, wipe1_nil, wipe1_cons, truD_bool, toD_pl, List.length_cons, List.length_nil, Nat.reduceAdd, Nat.reduceSub, if_true, List.replicate, List.cons_append, List.nil_append, Nat.zero_add, Bool.not_true, Bool.not_false, decide_true, decide_false, Nat.reduceLeDiff, Int.reduceSub, Int.reduceAdd, notD_bool, isi_int_int, isi_int_bool, opt_bind_some, sFor_def, eLc_def, csrc_def, vsrc_def, rg1_def, eSrc_def, enT_def, sFrz_def, sRetVar_def, sMov_def, K_law_8, ev_law, N, ixD_brw, ax, e1000]
    rfl
  have hcl : (DL.cutD ns (some 1) (some 41)).length ≤ 63 := Nat.le_trans (cutD_sub ns _ _).length_le h
  have ec : eSrc lsrc (eCat (eLst (dCons (eC (.int 0)) dNil)) (eSl (eVar 0) (oSome (eC (.int 1))) (oSome (eC (.int 41))))) (G [w]) = some ((0 :: DL.cutD ns (some 1) (some 41)).map PyData.int) := by
    have e10 : (1 + (DL.cutD ns (some 1) (some 41)).length ≤ 100000) = True := eq_true (by omega)
    unfold eCat
    simp -implicitDefEqProofs (disch := omega) only [fnD_def, eBin_def, eUn_def, eVar_def, eC_def, tCmp2_def, eB_def, sSeq_def, sAsg_def, sRet_def, sNext_def, sIf_def, eCall_def, eBui_def, aCons_def, aNil_def, dCons_def, dNil_def, eTup_def, eLst_def, eIx_def, tAnd2_def, tOr2_def, tNot1_def, tTru_def, eAnd_def, eOr_def, eIsi_def, sWipeB_def, wipeO_nx, wipeO_rt, wipeO_bk, wipeO_ct, gPut_def, gTupF_tup, gsCons_cons, gsNil_nil, opt_map_some, get_zero, get_succ, put_zero, put_succ, borq_pl, borq_own, borq_brw, borq_tk, bor_tk, eUnk_def, unkS_tk, borq_dic, borq_bdc, bor_pl, bor_own, bor_brw, bor_dic, bor_bdc, sto_pl, sto_own, sto_dic, sl2_pl, sl1_pl, modD_p, addD_int, iF0_int, mulD_l, mulD_r, divD_p, powD_p, shlD_p, shrD_p, uF_int, vw2_pl, cF_int, eqD_int, neD_int, isnF_none, notnF_none, isNoneD_none, isNoneD_int, wipe1_nil, wipe1_cons, truD_bool, toD_pl, List.length_cons, List.length_nil, Nat.reduceAdd, Nat.reduceSub, if_true, List.replicate, List.cons_append, List.nil_append, Nat.zero_add, Bool.not_true, Bool.not_false, decide_true, decide_false, Nat.reduceLeDiff, Int.reduceSub, Int.reduceAdd, notD_bool, isi_int_int, isi_int_bool, opt_bind_some, sFor_def, eLc_def, csrc_def, vsrc_def, rg1_def, eSrc_def, enT_def, sFrz_def, sRetVar_def, sMov_def, G, ev_law, S, eSl_def, oSome_def, slD_list, cutD_map, List.length_map, catF, DL.ditems, litems, e10, lsrc, e1000, List.length_cons, List.length_nil]
    rfl
  have key := forD_ex (g := gPut 3) (b := L_law_1) (fun _ (c : Int) => PyData.int c) (fun P : List Sen => G P) (fun k P => P ≠ [] ∧ P.length ≤ k + 1 ∧ ∀ e ∈ P, Po e) (0 :: DL.cutD ns (some 1) (some 41)) 0 [w] ⟨by simp, by simp, fun e he => by rw [List.mem_singleton.mp he]; exact hw⟩ fun k c P hk hI => ?_
  · obtain ⟨P, e, _, hl, hp⟩ := key
    rw [mapI_enc] at e
    have s3 : K_law_9 (G [w]) = some (.nx (G P)) := by
      unfold K_law_9
      rw [sFor_def, ec]
      exact e
    refine F_law_rt ?_
    unfold B_law
    exact (sSeq_nx s1).trans ((sSeq_nx s2).trans ((sSeq_nx s3).trans rfl))
  · rw [Nat.zero_add] at hI ⊢
    obtain ⟨hP0, hPl, hP⟩ := hI
    have hk64 : k < 64 := by
      have := (List.getElem?_eq_some_iff.mp hk).1
      rw [List.length_cons] at this
      omega
    obtain ⟨t, ht, eg⟩ := grown_eq hm0 hg hP0 hP c
    let C : Sl := .pl (.int c)
    let T : Sl := .pl (trD t)
    let E : List Sen → Sl → Sl → Sl → SEnv := fun P nw te sh => ev_law S N (.own (P.map trD)) C nw te sh
    have t1 : K_law_5 (E P .un .un .un) = some (.nx (E P T .un .un)) := by simp -implicitDefEqProofs (disch := omega) only [fnD_def, eBin_def, eUn_def, eVar_def, eC_def, tCmp2_def, eB_def, sSeq_def, sAsg_def, sRet_def, sNext_def, sIf_def, eCall_def, eBui_def, aCons_def, aNil_def, dCons_def, dNil_def, eTup_def, eLst_def, eIx_def, tAnd2_def, tOr2_def, tNot1_def, tTru_def, eAnd_def, eOr_def, eIsi_def, sWipeB_def, wipeO_nx, wipeO_rt, wipeO_bk, wipeO_ct, gPut_def, gTupF_tup, gsCons_cons, gsNil_nil, opt_map_some, get_zero, get_succ, put_zero, put_succ, borq_pl, borq_own, borq_brw, borq_tk, bor_tk, eUnk_def, unkS_tk, borq_dic, borq_bdc, bor_pl, bor_own, bor_brw, bor_dic, bor_bdc, sto_pl, sto_own, sto_dic, sl2_pl, sl1_pl, modD_p, addD_int, iF0_int, mulD_l, mulD_r, divD_p, powD_p, shlD_p, shrD_p, uF_int, vw2_pl, cF_int, eqD_int, neD_int, isnF_none, notnF_none, isNoneD_none, isNoneD_int, wipe1_nil, wipe1_cons, truD_bool, toD_pl, List.length_cons, List.length_nil, Nat.reduceAdd, Nat.reduceSub, if_true, List.replicate, List.cons_append, List.nil_append, Nat.zero_add, Bool.not_true, Bool.not_false, decide_true, decide_false, Nat.reduceLeDiff, Int.reduceSub, Int.reduceAdd, notD_bool, isi_int_int, isi_int_bool, opt_bind_some, sFor_def, eLc_def, csrc_def, vsrc_def, rg1_def, eSrc_def, enT_def, sFrz_def, sRetVar_def, sMov_def, K_law_5, E, C, N, T, ev_law, eg]
    have t2 : ∃ P', (P' ≠ [] ∧ P'.length ≤ k + 1 + 1 ∧ ∀ e ∈ P', Po e) ∧ K_law_6 (E P T .un .un) = some (.nx (E P' T .un .un)) := by
      have tt : tAnd2 (tCmp2 leD (eIx (eVar 4) (eC (.int 1))) (eC (.int 120))) (tCmp2 leD (eIx (eVar 4) (eC (.int 2))) (eC (.int 40))) (E P T .un .un) = some (decide (t.size ≤ 120) && decide (t.depth ≤ 40)) := by
        by_cases c1 : t.size ≤ 120 <;> by_cases c2 : t.depth ≤ 40 <;> simp -implicitDefEqProofs (disch := omega) only [fnD_def, eBin_def, eUn_def, eVar_def, eC_def, tCmp2_def, eB_def, sSeq_def, sAsg_def, sRet_def, sNext_def, sIf_def, eCall_def, eBui_def, aCons_def, aNil_def, dCons_def, dNil_def, eTup_def, eLst_def, eIx_def, tAnd2_def, tOr2_def, tNot1_def, tTru_def, eAnd_def, eOr_def, eIsi_def, sWipeB_def, wipeO_nx, wipeO_rt, wipeO_bk, wipeO_ct, gPut_def, gTupF_tup, gsCons_cons, gsNil_nil, opt_map_some, get_zero, get_succ, put_zero, put_succ, borq_pl, borq_own, borq_brw, borq_tk, bor_tk, eUnk_def, unkS_tk, borq_dic, borq_bdc, bor_pl, bor_own, bor_brw, bor_dic, bor_bdc, sto_pl, sto_own, sto_dic, sl2_pl, sl1_pl, modD_p, addD_int, iF0_int, mulD_l, mulD_r, divD_p, powD_p, shlD_p, shrD_p, uF_int, vw2_pl, cF_int, eqD_int, neD_int, isnF_none, notnF_none, isNoneD_none, isNoneD_int, wipe1_nil, wipe1_cons, truD_bool, toD_pl, List.length_cons, List.length_nil, Nat.reduceAdd, Nat.reduceSub, if_true, List.replicate, List.cons_append, List.nil_append, Nat.zero_add, Bool.not_true, Bool.not_false, decide_true, decide_false, Nat.reduceLeDiff, Int.reduceSub, Int.reduceAdd, notD_bool, isi_int_int, isi_int_bool, opt_bind_some, sFor_def, eLc_def, csrc_def, vsrc_def, rg1_def, eSrc_def, enT_def, sFrz_def, sRetVar_def, sMov_def, E, T, ev_law, trD, ixD_tuple, at3s, show ((t.size : Int) ≤ 120) = (t.size ≤ 120) from propext (by omega), show ((t.depth : Int) ≤ 40) = (t.depth ≤ 40) from propext (by omega), c1, c2] <;> rfl
      by_cases q : t.size ≤ 120 ∧ t.depth ≤ 40
      · obtain ⟨q1, q2⟩ := q
        have le := law_text_eq t 64 1 (by omega) (by omega) ht
        have le : F__law_text [.pl (senD t), .pl (.int 1)] = some (.ret (.pl (.str (stx t 1)))) := le
        have se := shown_eq t 64 (by omega) (by omega) ht
        have se : F_shown_sentence [.pl (senD t)] = some (.ret (.pl (.str (stx t 1)))) := se
        let P2 : List Sen := P ++ [t]
        let X : Sl := .pl (.str (stx t 1))
        have u0 : sApp 2 (eVar 4) (E P T .un .un) = some (.nx (E P2 T .un .un)) := by
          rw [sApp_own (ds := P.map trD) (s := T) (d := trD t) rfl rfl rfl (by rw [List.length_map]; omega)]
          show _ = some (Out.nx (ev_law S N (.own ((P ++ [t]).map trD)) C T .un .un))
          rw [List.map_append]
          rfl
        have u1 : K_law_1 (E P2 T .un .un) = some (.nx (E P2 T X .un)) := by simp -implicitDefEqProofs (disch := omega) only [fnD_def, eBin_def, eUn_def, eVar_def, eC_def, tCmp2_def, eB_def, sSeq_def, sAsg_def, sRet_def, sNext_def, sIf_def, eCall_def, eBui_def, aCons_def, aNil_def, dCons_def, dNil_def, eTup_def, eLst_def, eIx_def, tAnd2_def, tOr2_def, tNot1_def, tTru_def, eAnd_def, eOr_def, eIsi_def, sWipeB_def, wipeO_nx, wipeO_rt, wipeO_bk, wipeO_ct, gPut_def, gTupF_tup, gsCons_cons, gsNil_nil, opt_map_some, get_zero, get_succ, put_zero, put_succ, borq_pl, borq_own, borq_brw, borq_tk, bor_tk, eUnk_def, unkS_tk, borq_dic, borq_bdc, bor_pl, bor_own, bor_brw, bor_dic, bor_bdc, sto_pl, sto_own, sto_dic, sl2_pl, sl1_pl, modD_p, addD_int, iF0_int, mulD_l, mulD_r, divD_p, powD_p, shlD_p, shrD_p, uF_int, vw2_pl, cF_int, eqD_int, neD_int, isnF_none, notnF_none, isNoneD_none, isNoneD_int, wipe1_nil, wipe1_cons, truD_bool, toD_pl, List.length_cons, List.length_nil, Nat.reduceAdd, Nat.reduceSub, if_true, List.replicate, List.cons_append, List.nil_append, Nat.zero_add, Bool.not_true, Bool.not_false, decide_true, decide_false, Nat.reduceLeDiff, Int.reduceSub, Int.reduceAdd, notD_bool, isi_int_int, isi_int_bool, opt_bind_some, sFor_def, eLc_def, csrc_def, vsrc_def, rg1_def, eSrc_def, enT_def, sFrz_def, sRetVar_def, sMov_def, K_law_1, E, T, X, ev_law, trD, ixD_tuple, at3s, le]
        have u2 : K_law_2 (E P2 T X .un) = some (.nx (E P2 T X X)) := by simp -implicitDefEqProofs (disch := omega) only [fnD_def, eBin_def, eUn_def, eVar_def, eC_def, tCmp2_def, eB_def, sSeq_def, sAsg_def, sRet_def, sNext_def, sIf_def, eCall_def, eBui_def, aCons_def, aNil_def, dCons_def, dNil_def, eTup_def, eLst_def, eIx_def, tAnd2_def, tOr2_def, tNot1_def, tTru_def, eAnd_def, eOr_def, eIsi_def, sWipeB_def, wipeO_nx, wipeO_rt, wipeO_bk, wipeO_ct, gPut_def, gTupF_tup, gsCons_cons, gsNil_nil, opt_map_some, get_zero, get_succ, put_zero, put_succ, borq_pl, borq_own, borq_brw, borq_tk, bor_tk, eUnk_def, unkS_tk, borq_dic, borq_bdc, bor_pl, bor_own, bor_brw, bor_dic, bor_bdc, sto_pl, sto_own, sto_dic, sl2_pl, sl1_pl, modD_p, addD_int, iF0_int, mulD_l, mulD_r, divD_p, powD_p, shlD_p, shrD_p, uF_int, vw2_pl, cF_int, eqD_int, neD_int, isnF_none, notnF_none, isNoneD_none, isNoneD_int, wipe1_nil, wipe1_cons, truD_bool, toD_pl, List.length_cons, List.length_nil, Nat.reduceAdd, Nat.reduceSub, if_true, List.replicate, List.cons_append, List.nil_append, Nat.zero_add, Bool.not_true, Bool.not_false, decide_true, decide_false, Nat.reduceLeDiff, Int.reduceSub, Int.reduceAdd, notD_bool, isi_int_int, isi_int_bool, opt_bind_some, sFor_def, eLc_def, csrc_def, vsrc_def, rg1_def, eSrc_def, enT_def, sFrz_def, sRetVar_def, sMov_def, K_law_2, E, T, X, ev_law, trD, ixD_tuple, at3s, se]
        have u3 : K_law_3 (E P2 T X X) = some (.nx (E P2 T X X)) := by simp -implicitDefEqProofs (disch := omega) only [fnD_def, eBin_def, eUn_def, eVar_def, eC_def, tCmp2_def, eB_def, sSeq_def, sAsg_def, sRet_def, sNext_def, sIf_def, eCall_def, eBui_def, aCons_def, aNil_def, dCons_def, dNil_def, eTup_def, eLst_def, eIx_def, tAnd2_def, tOr2_def, tNot1_def, tTru_def, eAnd_def, eOr_def, eIsi_def, sWipeB_def, wipeO_nx, wipeO_rt, wipeO_bk, wipeO_ct, gPut_def, gTupF_tup, gsCons_cons, gsNil_nil, opt_map_some, get_zero, get_succ, put_zero, put_succ, borq_pl, borq_own, borq_brw, borq_tk, bor_tk, eUnk_def, unkS_tk, borq_dic, borq_bdc, bor_pl, bor_own, bor_brw, bor_dic, bor_bdc, sto_pl, sto_own, sto_dic, sl2_pl, sl1_pl, modD_p, addD_int, iF0_int, mulD_l, mulD_r, divD_p, powD_p, shlD_p, shrD_p, uF_int, vw2_pl, cF_int, eqD_int, neD_int, isnF_none, notnF_none, isNoneD_none, isNoneD_int, wipe1_nil, wipe1_cons, truD_bool, toD_pl, List.length_cons, List.length_nil, Nat.reduceAdd, Nat.reduceSub, if_true, List.replicate, List.cons_append, List.nil_append, Nat.zero_add, Bool.not_true, Bool.not_false, decide_true, decide_false, Nat.reduceLeDiff, Int.reduceSub, Int.reduceAdd, notD_bool, isi_int_int, isi_int_bool, opt_bind_some, sFor_def, eLc_def, csrc_def, vsrc_def, rg1_def, eSrc_def, enT_def, sFrz_def, sRetVar_def, sMov_def, K_law_3, E, X, ev_law, show isiS "str" (.pl (.str (stx t 1))) = some true from isi_str, neD_str, beq_self_eq_true]
        have sl := stx_len t 1 ht
        have u4 : K_law_4 (E P2 T X X) = some (.nx (E P2 T X X)) := by
          have ll : lenF [.pl (.str (stx t 1))] = some (.pl (.int ((stx t 1).length : Nat))) := lenF_str (by omega)
          by_cases z : (stx t 1).length ≤ 120
          · have ag := again_eq ht z (by omega) P2.length
            have lp : lenF [.brw (P2.map trD)] = some (.pl (.int (P2.length : Nat))) := by rw [lenF_brw, List.length_map]
            simp -implicitDefEqProofs (disch := omega) only [fnD_def, eBin_def, eUn_def, eVar_def, eC_def, tCmp2_def, eB_def, sSeq_def, sAsg_def, sRet_def, sNext_def, sIf_def, eCall_def, eBui_def, aCons_def, aNil_def, dCons_def, dNil_def, eTup_def, eLst_def, eIx_def, tAnd2_def, tOr2_def, tNot1_def, tTru_def, eAnd_def, eOr_def, eIsi_def, sWipeB_def, wipeO_nx, wipeO_rt, wipeO_bk, wipeO_ct, gPut_def, gTupF_tup, gsCons_cons, gsNil_nil, opt_map_some, get_zero, get_succ, put_zero, put_succ, borq_pl, borq_own, borq_brw, borq_tk, bor_tk, eUnk_def, unkS_tk, borq_dic, borq_bdc, bor_pl, bor_own, bor_brw, bor_dic, bor_bdc, sto_pl, sto_own, sto_dic, sl2_pl, sl1_pl, modD_p, addD_int, iF0_int, mulD_l, mulD_r, divD_p, powD_p, shlD_p, shrD_p, uF_int, vw2_pl, cF_int, eqD_int, neD_int, isnF_none, notnF_none, isNoneD_none, isNoneD_int, wipe1_nil, wipe1_cons, truD_bool, toD_pl, List.length_cons, List.length_nil, Nat.reduceAdd, Nat.reduceSub, if_true, List.replicate, List.cons_append, List.nil_append, Nat.zero_add, Bool.not_true, Bool.not_false, decide_true, decide_false, Nat.reduceLeDiff, Int.reduceSub, Int.reduceAdd, notD_bool, isi_int_int, isi_int_bool, opt_bind_some, sFor_def, eLc_def, csrc_def, vsrc_def, rg1_def, eSrc_def, enT_def, sFrz_def, sRetVar_def, sMov_def, K_law_4, E, T, X, ev_law, trD, ixD_tuple, at3s, ll, show (((stx t 1).length : Int) ≤ 120) = True from eq_true (by omega), lp, ag]
          · simp -implicitDefEqProofs (disch := omega) only [fnD_def, eBin_def, eUn_def, eVar_def, eC_def, tCmp2_def, eB_def, sSeq_def, sAsg_def, sRet_def, sNext_def, sIf_def, eCall_def, eBui_def, aCons_def, aNil_def, dCons_def, dNil_def, eTup_def, eLst_def, eIx_def, tAnd2_def, tOr2_def, tNot1_def, tTru_def, eAnd_def, eOr_def, eIsi_def, sWipeB_def, wipeO_nx, wipeO_rt, wipeO_bk, wipeO_ct, gPut_def, gTupF_tup, gsCons_cons, gsNil_nil, opt_map_some, get_zero, get_succ, put_zero, put_succ, borq_pl, borq_own, borq_brw, borq_tk, bor_tk, eUnk_def, unkS_tk, borq_dic, borq_bdc, bor_pl, bor_own, bor_brw, bor_dic, bor_bdc, sto_pl, sto_own, sto_dic, sl2_pl, sl1_pl, modD_p, addD_int, iF0_int, mulD_l, mulD_r, divD_p, powD_p, shlD_p, shrD_p, uF_int, vw2_pl, cF_int, eqD_int, neD_int, isnF_none, notnF_none, isNoneD_none, isNoneD_int, wipe1_nil, wipe1_cons, truD_bool, toD_pl, List.length_cons, List.length_nil, Nat.reduceAdd, Nat.reduceSub, if_true, List.replicate, List.cons_append, List.nil_append, Nat.zero_add, Bool.not_true, Bool.not_false, decide_true, decide_false, Nat.reduceLeDiff, Int.reduceSub, Int.reduceAdd, notD_bool, isi_int_int, isi_int_bool, opt_bind_some, sFor_def, eLc_def, csrc_def, vsrc_def, rg1_def, eSrc_def, enT_def, sFrz_def, sRetVar_def, sMov_def, K_law_4, E, T, X, ev_law, ll, show (((stx t 1).length : Int) ≤ 120) = False from eq_false (by omega)]
        refine ⟨P2, ⟨by simp [P2], by simp [P2]; omega, fun e he => ?_⟩, ?_⟩
        · rcases List.mem_append.mp he with y | y
          · exact hP e y
          · rw [List.mem_singleton.mp y]; exact ⟨ht, q1, q2⟩
        · unfold K_law_6
          rw [sWipeB_def, sIf_def, tt, decide_eq_true q1, decide_eq_true q2]
          show Option.map _ (sSeq _ _ (E P T .un .un)) = _
          rw [sSeq_nx u0, sSeq_nx u1, sSeq_nx u2, sSeq_nx u3, u4]
          rfl
      · refine ⟨P, ⟨hP0, by omega, hP⟩, ?_⟩
        have qq : (decide (t.size ≤ 120) && decide (t.depth ≤ 40)) = false := by
          rw [← Bool.decide_and]
          exact decide_eq_false q
        unfold K_law_6
        rw [sWipeB_def, sIf_def, tt, qq]
        rfl
    obtain ⟨P', h', t2⟩ := t2
    refine ⟨P', ⟨_, rfl, .inl ?_⟩, h'⟩
    show L_law_1 (E P .un .un .un) = _
    unfold L_law_1
    rw [sWipeB_def, sSeq_nx t1, t2]
    rfl

abbrev topS (i : Nat) : Stmt := PySem.Challenge.pw_wontbook_k01_a_sentence.main.body.getD i (.Pass ⟨0, 0, 0, 0⟩)
abbrev s_is_name : Stmt := topS 9
abbrev s_parted : Stmt := topS 10
abbrev s_join_top : Stmt := topS 11
abbrev s_join_while : Stmt := topS 12
abbrev s_closed : Stmt := topS 13
abbrev s_taken : Stmt := topS 14
abbrev s_read_sentence : Stmt := topS 15
abbrev s_as_part : Stmt := topS 16
abbrev s_shown_sentence : Stmt := topS 17
abbrev s__law_draws : Stmt := topS 19
abbrev s__law_cell_at : Stmt := topS 20
abbrev s__law_fresh : Stmt := topS 21
abbrev s__law_names : Stmt := topS 22
abbrev s__law_text : Stmt := topS 23
abbrev s__law_grown : Stmt := topS 24
abbrev s__law_same : Stmt := topS 25
abbrev s__law_read_again : Stmt := topS 26
abbrev s_law : Stmt := topS 27
structure Tx (K : PySem.W.Frag) (mg : Str → Option Value) where
  f_is_name : Addr
  d_is_name : FuncData
  F_is_name : Fun K "is_name" "is_name" s_is_name f_is_name d_is_name
  m_is_name : mg "is_name" = some (.ref f_is_name)
  b_is_name : Binds K d_is_name P_is_name []
  f_parted : Addr
  d_parted : FuncData
  F_parted : Fun K "parted" "parted" s_parted f_parted d_parted
  m_parted : mg "parted" = some (.ref f_parted)
  b_parted : Binds K d_parted P_parted []
  f_join_top : Addr
  d_join_top : FuncData
  F_join_top : Fun K "join_top" "join_top" s_join_top f_join_top d_join_top
  m_join_top : mg "join_top" = some (.ref f_join_top)
  b_join_top : Binds K d_join_top P_join_top []
  f_join_while : Addr
  d_join_while : FuncData
  F_join_while : Fun K "join_while" "join_while" s_join_while f_join_while d_join_while
  m_join_while : mg "join_while" = some (.ref f_join_while)
  b_join_while : Binds K d_join_while P_join_while []
  f_closed : Addr
  d_closed : FuncData
  F_closed : Fun K "closed" "closed" s_closed f_closed d_closed
  m_closed : mg "closed" = some (.ref f_closed)
  b_closed : Binds K d_closed P_closed []
  f_taken : Addr
  d_taken : FuncData
  F_taken : Fun K "taken" "taken" s_taken f_taken d_taken
  m_taken : mg "taken" = some (.ref f_taken)
  b_taken : Binds K d_taken P_taken []
  f_read_sentence : Addr
  d_read_sentence : FuncData
  F_read_sentence : FunD K "read_sentence" "read_sentence" (defArgs s_read_sentence) (defBody s_read_sentence) (defScope s_read_sentence) [V.int 0] [] f_read_sentence d_read_sentence
  m_read_sentence : mg "read_sentence" = some (.ref f_read_sentence)
  b_read_sentence : Binds K d_read_sentence P_read_sentence []
  bd_read_sentence : ∃ ds, Vals [V.int 0] ds ∧ Binds K d_read_sentence P_read_sentence ds
  f_as_part : Addr
  d_as_part : FuncData
  F_as_part : Fun K "as_part" "as_part" s_as_part f_as_part d_as_part
  m_as_part : mg "as_part" = some (.ref f_as_part)
  b_as_part : Binds K d_as_part P_as_part []
  f_shown_sentence : Addr
  d_shown_sentence : FuncData
  F_shown_sentence : Fun K "shown_sentence" "shown_sentence" s_shown_sentence f_shown_sentence d_shown_sentence
  m_shown_sentence : mg "shown_sentence" = some (.ref f_shown_sentence)
  b_shown_sentence : Binds K d_shown_sentence P_shown_sentence []
  f__law_draws : Addr
  d__law_draws : FuncData
  F__law_draws : Fun K "_law_draws" "_law_draws" s__law_draws f__law_draws d__law_draws
  m__law_draws : mg "_law_draws" = some (.ref f__law_draws)
  b__law_draws : Binds K d__law_draws P__law_draws []
  f__law_cell_at : Addr
  d__law_cell_at : FuncData
  F__law_cell_at : Fun K "_law_cell_at" "_law_cell_at" s__law_cell_at f__law_cell_at d__law_cell_at
  m__law_cell_at : mg "_law_cell_at" = some (.ref f__law_cell_at)
  b__law_cell_at : Binds K d__law_cell_at P__law_cell_at []
  f__law_fresh : Addr
  d__law_fresh : FuncData
  F__law_fresh : Fun K "_law_fresh" "_law_fresh" s__law_fresh f__law_fresh d__law_fresh
  m__law_fresh : mg "_law_fresh" = some (.ref f__law_fresh)
  b__law_fresh : Binds K d__law_fresh P__law_fresh []
  f__law_names : Addr
  d__law_names : FuncData
  F__law_names : Fun K "_law_names" "_law_names" s__law_names f__law_names d__law_names
  m__law_names : mg "_law_names" = some (.ref f__law_names)
  b__law_names : Binds K d__law_names P__law_names []
  f__law_text : Addr
  d__law_text : FuncData
  F__law_text : Fun K "_law_text" "_law_text" s__law_text f__law_text d__law_text
  m__law_text : mg "_law_text" = some (.ref f__law_text)
  b__law_text : Binds K d__law_text P__law_text []
  f__law_grown : Addr
  d__law_grown : FuncData
  F__law_grown : Fun K "_law_grown" "_law_grown" s__law_grown f__law_grown d__law_grown
  m__law_grown : mg "_law_grown" = some (.ref f__law_grown)
  b__law_grown : Binds K d__law_grown P__law_grown []
  f__law_same : Addr
  d__law_same : FuncData
  F__law_same : Fun K "_law_same" "_law_same" s__law_same f__law_same d__law_same
  m__law_same : mg "_law_same" = some (.ref f__law_same)
  b__law_same : Binds K d__law_same P__law_same []
  f__law_read_again : Addr
  d__law_read_again : FuncData
  F__law_read_again : Fun K "_law_read_again" "_law_read_again" s__law_read_again f__law_read_again d__law_read_again
  m__law_read_again : mg "_law_read_again" = some (.ref f__law_read_again)
  b__law_read_again : Binds K d__law_read_again P__law_read_again []
  f_law : Addr
  d_law : FuncData
  F_law : Fun K "law" "law" s_law f_law d_law
  m_law : mg "law" = some (.ref f_law)
  b_law : Binds K d_law P_law []
  v_KEPT : V
  u_KEPT : Value
  m_KEPT : mg "KEPT" = some u_KEPT
  r_KEPT : RelV v_KEPT u_KEPT
  d_KEPT : ∀ Z, Dp K Z v_KEPT k_KEPT
  v_MOST_SIGNS : V
  u_MOST_SIGNS : Value
  m_MOST_SIGNS : mg "MOST_SIGNS" = some u_MOST_SIGNS
  r_MOST_SIGNS : RelV v_MOST_SIGNS u_MOST_SIGNS
  d_MOST_SIGNS : ∀ Z, Dp K Z v_MOST_SIGNS k_MOST_SIGNS
  v_SMALL : V
  u_SMALL : Value
  m_SMALL : mg "SMALL" = some u_SMALL
  r_SMALL : RelV v_SMALL u_SMALL
  d_SMALL : ∀ Z, Dp K Z v_SMALL k_SMALL
  z_isinstance : mg "isinstance" = none
  z_len : mg "len" = none
  z_max : mg "max" = none
  z_range : mg "range" = none
  z_str : mg "str" = none
  z_tuple : mg "tuple" = none
section
variable {P : Program} {w : World} {K : PySem.W.Frag} {mg : Str → Option Value} {base : Heap}
theorem sc_is_name : FnScope N_is_name P_is_name (defScope s_is_name) := ⟨rfl, rfl, rfl, by decide +kernel, rfl, by decide +kernel, by decide +kernel⟩
theorem ok_is_name (T : Tx K mg) : FnOk P w K mg base L2.CX0 1 T.f_is_name T.d_is_name P_is_name (FSp K F_is_name) := by
  rw [F_is_name_eq]
  exact fn_ok T.F_is_name sc_is_name rfl (by decide) fun cdv A outer s H E hr =>
  (ssd_cons (sd_if (td_w (wd_or (td_in (pd_var 0) (pd_glob rfl T.m_KEPT T.r_KEPT T.d_KEPT)) (wd_or (td_cmp op_lt ok_lt (pd_len rfl T.z_len (pd_var 0)) pd_int (nomark _)) (wd_or1 (td_cmp op_gt ok_gt (pd_len rfl T.z_len (pd_var 0)) pd_int (nomark _)))))) (ssd_one (sd_ret pd_bl)) ssd_nil)
  (ssd_cons (sd_for PassesOwn.never rfl (ld_str (pd_var 0)) (gd_name (i := 1) sc_is_name.nd rfl (by first | exact Or.inl rfl | exact Or.inr rfl))
  (ssd_wipeB [1] (ssd_one (sd_if (td_cmp op_notIn_sign ok_notinSign (pd_var 1) (pd_glob rfl T.m_SMALL T.r_SMALL T.d_SMALL) (by rfl)) (ssd_one (sd_ret pd_bl)) ssd_nil))))
  (ssd_one (sd_ret pd_bl))))
theorem sc_parted : FnScope N_parted P_parted (defScope s_parted) := ⟨rfl, rfl, rfl, by decide +kernel, rfl, by decide +kernel, by decide +kernel⟩
theorem ok_parted (T : Tx K mg) : FnOk P w K mg base L2.CX0 1 T.f_parted T.d_parted P_parted (FSp K F_parted) := by
  rw [F_parted_eq]
  exact fn_ok T.F_parted sc_parted rfl (by decide) fun cdv A outer s H E hr =>
  (ssd_cons (sd_asg (i := 1) sc_parted.nd rfl (by first | exact Or.inl rfl | exact Or.inr rfl) (pd_lstripC (pd_var 0) pd_str))
  (ssd_cons (sd_asg (i := 2) sc_parted.nd rfl (by first | exact Or.inl rfl | exact Or.inr rfl) (pd_rstripC (pd_var 1) pd_str))
  (ssd_one (sd_ret (pd_tup (dd_cons (pd_sub (pd_len rfl T.z_len (pd_var 0)) (pd_len rfl T.z_len (pd_var 1))) (dd_cons (pd_var 2) (dd_cons (pd_sub (pd_len rfl T.z_len (pd_var 1)) (pd_len rfl T.z_len (pd_var 2))) dd_nil))))))))
theorem sc_join_top : FnScope N_join_top P_join_top (defScope s_join_top) := ⟨rfl, rfl, rfl, by decide +kernel, rfl, by decide +kernel, by decide +kernel⟩
theorem ok_join_top (T : Tx K mg) : FnOk P w K mg base L2.CX0 1 T.f_join_top T.d_join_top P_join_top (FSpC K F_join_top) := by
  rw [F_join_top_eq]
  exact fnC_ok T.F_join_top sc_join_top rfl (by decide) fun cdv A outer s H E hr =>
  (ssd_cons (sd_popToL (i := 2) (j := 0) sc_join_top.nd rfl (by first | exact Or.inl rfl | exact Or.inr rfl) (pe_bm0 PySem.F.plainAttrs_list PySem.F.slot_list_pop PySem.F.type_list_pop mt_pop (pv 0)))
  (ssd_cons (sd_popToL (i := 3) (j := 1) sc_join_top.nd rfl (by first | exact Or.inl rfl | exact Or.inr rfl) (pe_bm0 PySem.F.plainAttrs_list PySem.F.slot_list_pop PySem.F.type_list_pop mt_pop (pv 1)))
  (ssd_one (sd_if (td_cmp (op_eqA hr.units) ok_eq (pd_var 2) pd_str (nomark _)) (ssd_one (sd_appL 1 (pv 1) (pd_tup (dd_cons pd_str (dd_cons (pd_var 3) dd_nil))) (pe_bm PySem.F.plainAttrs_list PySem.F.slot_list_append PySem.F.type_list_append mt_append (pv 1) (pa_cons (pd_tup (dd_cons pd_str (dd_cons (pd_var 3) dd_nil))) pa_nil)))) (ssd_one (sd_appPop 1 (pe_bm PySem.F.plainAttrs_list PySem.F.slot_list_append PySem.F.type_list_append mt_append (pv 1) (pa_cons (pe_tup (pa_cons (pd_var 2) (pa_cons (pe_bm0 PySem.F.plainAttrs_list PySem.F.slot_list_pop PySem.F.type_list_pop mt_pop (pv 1)) (pa_cons (pd_var 3) pa_nil)))) pa_nil))))))))
theorem sc_join_while : FnScope N_join_while P_join_while (defScope s_join_while) := ⟨rfl, rfl, rfl, by decide +kernel, rfl, by decide +kernel, by decide +kernel⟩
theorem ok_join_while (T : Tx K mg) : FnOk P w K mg base L2.CX0 2 T.f_join_while T.d_join_while P_join_while (FSpC K F_join_while) := by
  rw [F_join_while_eq]
  exact fnC_ok T.F_join_while sc_join_while rfl (by decide) fun cdv A outer s H E hr =>
  (ssd_one (sd_while 1000 PassesOwn.never (td_w (wd_and (td_cmp op_gt ok_gt (pd_len rfl T.z_len (pd_var 0)) pd_int (nomark _)) (wd_and1 (td_in (pd_ix (pd_var 0) (pd_neg pd_int)) (pd_var 2))))) (ssd_one (sd_expC (pe_callC (ok_join_top T) (hr.mono (by decide)) rfl T.m_join_top T.F_join_top.kp T.b_join_top (pac_hd (pv 0) (pac_hd (pv 1) pac_nil)) (by decide))))))
theorem sc_closed : FnScope N_closed P_closed (defScope s_closed) := ⟨rfl, rfl, rfl, by decide +kernel, rfl, by decide +kernel, by decide +kernel⟩
theorem ok_closed (T : Tx K mg) : FnOk P w K mg base L2.CX0 3 T.f_closed T.d_closed P_closed (FSpC K F_closed) := by
  rw [F_closed_eq]
  exact fnC_ok T.F_closed sc_closed rfl (by decide) fun cdv A outer s H E hr =>
  (ssd_cons (sd_for PassesOwn.never rfl (ld_range1 rfl T.z_range (ad_cons (pd_var 2) ad_nil)) (gd_name (i := 3) sc_closed.nd rfl (by first | exact Or.inl rfl | exact Or.inr rfl))
  (ssd_wipeB [3] (ssd_cons (sd_expC (pe_callC (ok_join_while T) (hr.mono (by decide)) rfl T.m_join_while T.F_join_while.kp T.b_join_while (pac_hd (pv 0) (pac_hd (pv 1) (pac_ex (pd_tup (dd_cons pd_str (dd_cons pd_str dd_nil))) pac_nil))) (by decide)))
  (ssd_cons (sd_if (td_cmp (op_eqA hr.units) ok_eq (pd_len rfl T.z_len (pd_var 0)) pd_int (nomark _)) (ssd_one (sd_retM pd_bl)) ssd_nil)
  (ssd_cons (sd_popL (j := 0) (pe_bm0 PySem.F.plainAttrs_list PySem.F.slot_list_pop PySem.F.type_list_pop mt_pop (pv 0)))
  (ssd_one (sd_expC (pe_callC (ok_join_while T) (hr.mono (by decide)) rfl T.m_join_while T.F_join_while.kp T.b_join_while (pac_hd (pv 0) (pac_hd (pv 1) (pac_ex (pd_tup (dd_cons pd_str dd_nil)) pac_nil))) (by decide)))))))))
  (ssd_one (sd_retM pd_bl)))
theorem sc_taken : FnScope N_taken P_taken (defScope s_taken) := ⟨rfl, rfl, rfl, by decide +kernel, rfl, by decide +kernel, by decide +kernel⟩
theorem ok_taken (T : Tx K mg) : FnOk P w K mg base L2.CX0 4 T.f_taken T.d_taken P_taken (FSpC K F_taken) := by
  rw [F_taken_eq]
  exact fnC_ok T.F_taken sc_taken rfl (by decide) fun cdv A outer s H E hr =>
  (ssd_cons (sd_if (td_not (td_val (pd_var 1))) (ssd_cons (sd_if (td_cmp (op_eqA hr.units) ok_eq (pd_var 0) pd_str (nomark _)) (ssd_one (sd_expC (pe_callC (ok_join_while T) (hr.mono (by decide)) rfl T.m_join_while T.F_join_while.kp T.b_join_while (pac_hd (pv 2) (pac_hd (pv 3) (pac_ex (pd_tup (dd_cons pd_str dd_nil)) pac_nil))) (by decide)))) (ssd_one (sd_if (td_cmp (op_eqA hr.units) ok_eq (pd_var 0) pd_str (nomark _)) (ssd_one (sd_expC (pe_callC (ok_join_while T) (hr.mono (by decide)) rfl T.m_join_while T.F_join_while.kp T.b_join_while (pac_hd (pv 2) (pac_hd (pv 3) (pac_ex (pd_tup (dd_cons pd_str (dd_cons pd_str dd_nil))) pac_nil))) (by decide)))) (ssd_one (sd_retM pd_non)))))
  (ssd_cons (sd_appL 2 (pv 2) (pd_var 0) (pe_bm PySem.F.plainAttrs_list PySem.F.slot_list_append PySem.F.type_list_append mt_append (pv 2) (pa_cons (pd_var 0) pa_nil)))
  (ssd_one (sd_retM pd_bl)))) ssd_nil)
  (ssd_cons (sd_asgT (pd_call (ok_parted T) (hr.mono (by decide)) rfl T.m_parted T.F_parted.kp T.b_parted (ad_cons (pd_var 0) ad_nil)) (gd_tup rfl (gsd_cons (i := 4) sc_taken.nd rfl (by first | exact Or.inl rfl | exact Or.inr rfl) (gsd_cons (i := 5) sc_taken.nd rfl (by first | exact Or.inl rfl | exact Or.inr rfl) (gsd_cons (i := 6) sc_taken.nd rfl (by first | exact Or.inl rfl | exact Or.inr rfl) gsd_nil)))))
  (ssd_cons (sd_extL 2 (pv 2) (pd_rep (pd_lst (dd_cons pd_str dd_nil)) (pd_var 4)) (pe_bm PySem.F.plainAttrs_list PySem.F.slot_list_extend PySem.F.type_list_extend mt_extend (pv 2) (pa_cons (pd_rep (pd_lst (dd_cons pd_str dd_nil)) (pd_var 4)) pa_nil)))
  (ssd_cons (sd_if (td_w (wd_and (td_cmp (op_eqA hr.units) ok_eq (pd_var 5) pd_str (nomark _)) (wd_and1 (td_cmp (op_eqA hr.units) ok_eq (pd_var 6) pd_int (nomark _))))) (ssd_cons (sd_appL 2 (pv 2) pd_str (pe_bm PySem.F.plainAttrs_list PySem.F.slot_list_append PySem.F.type_list_append mt_append (pv 2) (pa_cons pd_str pa_nil)))
  (ssd_one (sd_retM pd_bl))) ssd_nil)
  (ssd_cons (sd_if (td_not (td_val (pd_call (ok_is_name T) (hr.mono (by decide)) rfl T.m_is_name T.F_is_name.kp T.b_is_name (ad_cons (pd_var 5) ad_nil)))) (ssd_one (sd_retM pd_non)) ssd_nil)
  (ssd_cons (sd_appL 3 (pv 3) (pd_tup (dd_cons pd_str (dd_cons (pd_var 5) dd_nil))) (pe_bm PySem.F.plainAttrs_list PySem.F.slot_list_append PySem.F.type_list_append mt_append (pv 3) (pa_cons (pd_tup (dd_cons pd_str (dd_cons (pd_var 5) dd_nil))) pa_nil)))
  (ssd_cons (sd_expC (pe_callC (ok_join_while T) (hr.mono (by decide)) rfl T.m_join_while T.F_join_while.kp T.b_join_while (pac_hd (pv 2) (pac_hd (pv 3) (pac_ex (pd_tup (dd_cons pd_str dd_nil)) pac_nil))) (by decide)))
  (ssd_cons (sd_ifC (tdc_not (tdc_val (pe_callC (ok_closed T) (hr.mono (by decide)) rfl T.m_closed T.F_closed.kp T.b_closed (pac_hd (pv 2) (pac_hd (pv 3) (pac_ex (pd_var 6) pac_nil))) (by decide)))) (ssd_one (sd_retM pd_non)) ssd_nil)
  (ssd_one (sd_retM pd_bl))))))))))
theorem sc_read_sentence : FnScope N_read_sentence P_read_sentence (defScope s_read_sentence) := ⟨rfl, rfl, rfl, by decide +kernel, rfl, by decide +kernel, by decide +kernel⟩
theorem ok_read_sentence (T : Tx K mg) : FnOk P w K mg base L2.CX0 5 T.f_read_sentence T.d_read_sentence P_read_sentence (FSp K F_read_sentence) := by
  rw [F_read_sentence_eq]
  exact fn_okD T.F_read_sentence sc_read_sentence rfl (by decide) fun cdv A outer s H E hr =>
  (ssd_cons (sd_if (td_cmp op_gt ok_gt (pd_len rfl T.z_len (pd_var 0)) (pd_glob rfl T.m_MOST_SIGNS T.r_MOST_SIGNS T.d_MOST_SIGNS) (nomark _)) (ssd_one sd_stuck) ssd_nil)
  (ssd_cons (sd_asg (i := 2) sc_read_sentence.nd rfl (by first | exact Or.inl rfl | exact Or.inr rfl) (pd_lst dd_nil))
  (ssd_cons (sd_asg (i := 3) sc_read_sentence.nd rfl (by first | exact Or.inl rfl | exact Or.inr rfl) (pd_lst dd_nil))
  (ssd_cons (sd_asg (i := 4) sc_read_sentence.nd rfl (by first | exact Or.inl rfl | exact Or.inr rfl) pd_bl)
  (ssd_cons (sd_for PassesOwn.never rfl (ld_list (pd_split (pd_var 0) pd_str)) (gd_name (i := 5) sc_read_sentence.nd rfl (by first | exact Or.inl rfl | exact Or.inr rfl))
  (ssd_wipeB [5] (ssd_cons (sd_asgC (i := 4) sc_read_sentence.nd rfl (by first | exact Or.inl rfl | exact Or.inr rfl) (pe_callC (ok_taken T) (hr.mono (by decide)) rfl T.m_taken T.F_taken.kp T.b_taken (pac_ex (pd_var 5) (pac_ex (pd_var 4) (pac_hd (pv 2) (pac_hd (pv 3) pac_nil)))) (by decide)))
  (ssd_one (sd_if (td_cmp op_isN ok_isN (pd_var 4) pd_non (nomark _)) (ssd_one sd_stuck) ssd_nil)))))
  (ssd_cons (sd_if (td_w (wd_or (td_val (pd_var 4)) (wd_or1 (td_in pd_str (pd_var 2))))) (ssd_one sd_stuck) ssd_nil)
  (ssd_cons (sd_expC (pe_callC (ok_join_while T) (hr.mono (by decide)) rfl T.m_join_while T.F_join_while.kp T.b_join_while (pac_hd (pv 2) (pac_hd (pv 3) (pac_ex (pd_tup (dd_cons pd_str (dd_cons pd_str dd_nil))) pac_nil))) (by decide)))
  (ssd_one (sd_ret (pd_ix (pd_var 3) pd_int))))))))))
theorem sc_as_part : FnScope N_as_part P_as_part (defScope s_as_part) := ⟨rfl, rfl, rfl, by decide +kernel, rfl, by decide +kernel, by decide +kernel⟩
theorem sc_shown_sentence : FnScope N_shown_sentence P_shown_sentence (defScope s_shown_sentence) := ⟨rfl, rfl, rfl, by decide +kernel, rfl, by decide +kernel, by decide +kernel⟩
theorem okr_shown_sentence (T : Tx K mg) : ∀ n : Nat, FnOk P w K mg base L2.CX0 (2 * n + 2) T.f_shown_sentence T.d_shown_sentence P_shown_sentence (FSp K (R_shown_sentence n)) := by
  intro n
  induction n with
  | zero => rw [R_shown_sentence_0]; exact fn_ok T.F_shown_sentence sc_shown_sentence rfl (by decide) fun cdv A outer s H E hr => ssd_stuck
  | succ n okr =>
  have okh : FnOk P w K mg base L2.CX0 (2 * n + 2 + 1) T.f_as_part T.d_as_part P_as_part (FSp K (G_as_part (R_shown_sentence n))) := by
    rw [G_as_part_eq]
    exact fn_ok T.F_as_part sc_as_part rfl (by decide) fun cdv A outer s H E hr =>
    (ssd_cons (sd_if (td_val (pd_var 1)) (ssd_one (sd_ret (pd_call okr (hr.mono (by first | omega | (simp only [Nat.add_eq]; omega))) rfl T.m_shown_sentence T.F_shown_sentence.kp T.b_shown_sentence (ad_cons (pd_var 0) ad_nil)))) ssd_nil)
  (ssd_one (sd_ret (pd_add (pd_add pd_str (pd_call okr (hr.mono (by first | omega | (simp only [Nat.add_eq]; omega))) rfl T.m_shown_sentence T.F_shown_sentence.kp T.b_shown_sentence (ad_cons (pd_var 0) ad_nil))) pd_str))))
  rw [R_shown_sentence_s, show 2 * (n + 1) + 2 = 2 * n + 2 + 1 + 1 from by omega]
  exact fn_ok T.F_shown_sentence sc_shown_sentence rfl (by decide) fun cdv A outer s H E hr =>
  (ssd_cons (sd_asg (i := 1) sc_shown_sentence.nd rfl (by first | exact Or.inl rfl | exact Or.inr rfl) (pd_ix (pd_var 0) pd_int))
  (ssd_cons (sd_if (td_cmp (op_eqA hr.units) ok_eq (pd_var 1) pd_str (nomark _)) (ssd_one (sd_ret (pd_ix (pd_var 0) pd_int))) ssd_nil)
  (ssd_cons (sd_if (td_cmp (op_eqA hr.units) ok_eq (pd_var 1) pd_str (nomark _)) (ssd_one (sd_ret (pd_add pd_str (pd_call okh (hr.mono (by first | omega | (simp only [Nat.add_eq]; omega))) rfl T.m_as_part T.F_as_part.kp T.b_as_part (ad_cons (pd_ix (pd_var 0) pd_int) (ad_cons (pd_in (pd_ix (pd_ix (pd_var 0) pd_int) pd_int) (pd_tup (dd_cons pd_str (dd_cons pd_str dd_nil)))) ad_nil)))))) ssd_nil)
  (ssd_cons (sd_asg (i := 2) sc_shown_sentence.nd rfl (by first | exact Or.inl rfl | exact Or.inr rfl) (pd_call okh (hr.mono (by first | omega | (simp only [Nat.add_eq]; omega))) rfl T.m_as_part T.F_as_part.kp T.b_as_part (ad_cons (pd_ix (pd_var 0) pd_int) (ad_cons (pd_or (pd_cmp (op_eqA hr.units) ok_eq (pd_var 1) pd_str (nomark _)) (pd_one (pd_cmp (op_neA hr.units) ok_ne (pd_ix (pd_ix (pd_var 0) pd_int) pd_int) pd_str (nomark _)))) ad_nil))))
  (ssd_cons (sd_asg (i := 3) sc_shown_sentence.nd rfl (by first | exact Or.inl rfl | exact Or.inr rfl) (pd_call okh (hr.mono (by first | omega | (simp only [Nat.add_eq]; omega))) rfl T.m_as_part T.F_as_part.kp T.b_as_part (ad_cons (pd_ix (pd_var 0) pd_int) (ad_cons (pd_or (pd_in (pd_ix (pd_ix (pd_var 0) pd_int) pd_int) (pd_tup (dd_cons pd_str (dd_cons pd_str dd_nil)))) (pd_one (pd_and (pd_cmp (op_eqA hr.units) ok_eq (pd_var 1) pd_str (nomark _)) (pd_one (pd_cmp (op_eqA hr.units) ok_eq (pd_ix (pd_ix (pd_var 0) pd_int) pd_int) pd_str (nomark _)))))) ad_nil))))
  (ssd_one (sd_ret (pd_add (pd_add (pd_add (pd_add (pd_var 2) pd_str) (pd_var 1)) pd_str) (pd_var 3)))))))))
theorem ok_shown_sentence (T : Tx K mg) : FnOk P w K mg base L2.CX0 130 T.f_shown_sentence T.d_shown_sentence P_shown_sentence (FSp K F_shown_sentence) := okr_shown_sentence T 64
theorem sc__law_draws : FnScope N__law_draws P__law_draws (defScope s__law_draws) := ⟨rfl, rfl, rfl, by decide +kernel, rfl, by decide +kernel, by decide +kernel⟩
theorem ok__law_draws (T : Tx K mg) : FnOk P w K mg base L2.CX0 1 T.f__law_draws T.d__law_draws P__law_draws (FSp K F__law_draws) := by
  rw [F__law_draws_eq]
  exact fn_ok T.F__law_draws sc__law_draws rfl (by decide) fun cdv A outer s H E hr =>
  (ssd_cons (sd_asg (i := 2) sc__law_draws.nd rfl (by first | exact Or.inl rfl | exact Or.inr rfl) (pd_mod (pd_mul (pd_add (pd_mod (pd_var 0) pd_int) pd_int) pd_int) pd_int))
  (ssd_cons (sd_asg (i := 3) sc__law_draws.nd rfl (by first | exact Or.inl rfl | exact Or.inr rfl) (pd_lst dd_nil))
  (ssd_cons (sd_wipeB [2] (sd_for PassesOwn.never rfl (ld_range1 rfl T.z_range (ad_cons (pd_var 1) ad_nil)) (gd_name (i := 4) sc__law_draws.nd rfl (by first | exact Or.inl rfl | exact Or.inr rfl))
  (ssd_wipeB [4] (ssd_cons (sd_asg (i := 2) sc__law_draws.nd rfl (by first | exact Or.inl rfl | exact Or.inr rfl) (pd_mod (pd_mul (pd_var 2) pd_int) pd_int))
  (ssd_one (sd_append 3 (pv 3) (pd_fdiv (pd_var 2) pd_int) (pe_bm PySem.F.plainAttrs_list PySem.F.slot_list_append PySem.F.type_list_append mt_append (pv 3) (pa_cons (pd_fdiv (pd_var 2) pd_int) pa_nil))))))))
  (ssd_one (sd_retVar 3 (pv 3))))))
theorem sc__law_cell_at : FnScope N__law_cell_at P__law_cell_at (defScope s__law_cell_at) := ⟨rfl, rfl, rfl, by decide +kernel, rfl, by decide +kernel, by decide +kernel⟩
theorem ok__law_cell_at (T : Tx K mg) : FnOk P w K mg base L2.CX0 1 T.f__law_cell_at T.d__law_cell_at P__law_cell_at (FSp K F__law_cell_at) := by
  rw [F__law_cell_at_eq]
  exact fn_ok T.F__law_cell_at sc__law_cell_at rfl (by decide) fun cdv A outer s H E hr =>
  (ssd_cons (sd_if (td_cmp op_lt ok_lt (pd_var 1) (pd_len rfl T.z_len (pd_var 0)) (nomark _)) (ssd_one (sd_ret (pd_ix (pd_var 0) (pd_var 1)))) ssd_nil)
  (ssd_one (sd_ret pd_int)))
theorem sc__law_fresh : FnScope N__law_fresh P__law_fresh (defScope s__law_fresh) := ⟨rfl, rfl, rfl, by decide +kernel, rfl, by decide +kernel, by decide +kernel⟩
theorem ok__law_fresh (T : Tx K mg) : FnOk P w K mg base L2.CX0 1 T.f__law_fresh T.d__law_fresh P__law_fresh (FSp K F__law_fresh) := by
  rw [F__law_fresh_eq]
  exact fn_ok T.F__law_fresh sc__law_fresh rfl (by decide) fun cdv A outer s H E hr =>
  (ssd_cons (sd_asg (i := 2) sc__law_fresh.nd rfl (by first | exact Or.inl rfl | exact Or.inr rfl) pd_str)
  (ssd_cons (sd_asg (i := 3) sc__law_fresh.nd rfl (by first | exact Or.inl rfl | exact Or.inr rfl) pd_str)
  (ssd_cons (sd_wipeB [0] (sd_for PassesOwn.never rfl (ld_range1 rfl T.z_range (ad_cons (pd_var 1) ad_nil)) (gd_name (i := 4) sc__law_fresh.nd rfl (by first | exact Or.inl rfl | exact Or.inr rfl))
  (ssd_wipeB [4] (ssd_cons (sd_asg (i := 0) sc__law_fresh.nd rfl (by first | exact Or.inl rfl | exact Or.inr rfl) (pd_mod (pd_add (pd_mul (pd_var 0) pd_int) pd_int) pd_int))
  (ssd_one (sd_asg (i := 3) sc__law_fresh.nd rfl (by first | exact Or.inl rfl | exact Or.inr rfl) (pd_add (pd_var 3) (pd_ix (pd_var 2) (pd_mod (pd_fdiv (pd_var 0) pd_int) pd_int)))))))))
  (ssd_one (sd_ret (pd_var 3))))))
theorem sc__law_names : FnScope N__law_names P__law_names (defScope s__law_names) := ⟨rfl, rfl, rfl, by decide +kernel, rfl, by decide +kernel, by decide +kernel⟩
theorem ok__law_names (T : Tx K mg) : FnOk P w K mg base L2.CX0 2 T.f__law_names T.d__law_names P__law_names (FSp K F__law_names) := by
  rw [F__law_names_eq]
  exact fn_ok T.F__law_names sc__law_names rfl (by decide) fun cdv A outer s H E hr =>
  (ssd_cons (sd_asg (i := 2) sc__law_names.nd rfl (by first | exact Or.inl rfl | exact Or.inr rfl) pd_str)
  (ssd_cons (sd_asg (i := 3) sc__law_names.nd rfl (by first | exact Or.inl rfl | exact Or.inr rfl) (pd_lst (dd_cons pd_str (dd_cons pd_str (dd_cons pd_str (dd_cons pd_str (dd_cons pd_str (dd_cons pd_str (dd_cons pd_str (dd_cons pd_str (dd_cons pd_str (dd_cons pd_str (dd_cons pd_str (dd_cons pd_str (dd_cons pd_str (dd_cons pd_str dd_nil))))))))))))))))
  (ssd_cons (sd_asg (i := 3) sc__law_names.nd rfl (by first | exact Or.inl rfl | exact Or.inr rfl) (pd_cat (pd_var 3) (pd_lst (dd_cons pd_str (dd_cons pd_str dd_nil)))))
  (ssd_cons (sd_asg (i := 4) sc__law_names.nd rfl (by first | exact Or.inl rfl | exact Or.inr rfl) (pd_call (ok__law_draws T) (hr.mono (by decide)) rfl T.m__law_draws T.F__law_draws.kp T.b__law_draws (ad_cons (pd_var 0) (ad_cons pd_int ad_nil))))
  (ssd_cons (sd_asg (i := 5) sc__law_names.nd rfl (by first | exact Or.inl rfl | exact Or.inr rfl) (pd_call (ok__law_fresh T) (hr.mono (by decide)) rfl T.m__law_fresh T.F__law_fresh.kp T.b__law_fresh (ad_cons (pd_ix (pd_var 4) pd_int) (ad_cons (pd_add pd_int (pd_mod (pd_ix (pd_var 4) pd_int) pd_int)) ad_nil))))
  (ssd_cons (sd_asg (i := 6) sc__law_names.nd rfl (by first | exact Or.inl rfl | exact Or.inr rfl) (pd_mod (pd_ix (pd_var 4) pd_int) (pd_len rfl T.z_len (pd_var 5))))
  (ssd_cons (sd_asg (i := 7) sc__law_names.nd rfl (by first | exact Or.inl rfl | exact Or.inr rfl) (pd_lst dd_nil))
  (ssd_cons (sd_for PassesOwn.never rfl (ld_range1 rfl T.z_range (ad_cons (pd_var 1) ad_nil)) (gd_name (i := 8) sc__law_names.nd rfl (by first | exact Or.inl rfl | exact Or.inr rfl))
  (ssd_wipeB [8, 9, 10] (ssd_cons (sd_asg (i := 9) sc__law_names.nd rfl (by first | exact Or.inl rfl | exact Or.inr rfl) (pd_call (ok__law_fresh T) (hr.mono (by decide)) rfl T.m__law_fresh T.F__law_fresh.kp T.b__law_fresh (ad_cons (pd_ix (pd_var 4) (pd_add pd_int (pd_var 8))) (ad_cons (pd_add pd_int (pd_mod (pd_fdiv (pd_ix (pd_var 4) (pd_add pd_int (pd_var 8))) pd_int) pd_int)) ad_nil))))
  (ssd_cons (sd_wipeB [10] (sd_if (td_cmp op_lt ok_lt (pd_mod (pd_ix (pd_var 4) pd_int) pd_int) pd_int (nomark _)) (ssd_cons (sd_asg (i := 10) sc__law_names.nd rfl (by first | exact Or.inl rfl | exact Or.inr rfl) (pd_ix (pd_var 2) (pd_mod (pd_add (pd_ix (pd_var 4) pd_int) (pd_mul (pd_var 8) (pd_ix (pd_lst (dd_cons pd_int (dd_cons pd_int (dd_cons pd_int (dd_cons pd_int (dd_cons pd_int (dd_cons pd_int dd_nil))))))) (pd_mod (pd_ix (pd_var 4) pd_int) pd_int)))) pd_int)))
  (ssd_one (sd_asg (i := 9) sc__law_names.nd rfl (by first | exact Or.inl rfl | exact Or.inr rfl) (pd_add (pd_add (pd_slice (pd_var 5) od_none (od_some (pd_var 6))) (pd_var 10)) (pd_slice (pd_var 5) (od_some (pd_add (pd_var 6) pd_int)) od_none))))) ssd_nil))
  (ssd_cons (sd_if (td_cmp (op_eqA hr.units) ok_eq (pd_mod (pd_ix (pd_var 4) pd_int) pd_int) pd_int (nomark _)) (ssd_one (sd_asg (i := 9) sc__law_names.nd rfl (by first | exact Or.inl rfl | exact Or.inr rfl) (pd_ix (pd_var 3) (pd_mod (pd_add (pd_ix (pd_var 4) pd_int) (pd_mul pd_int (pd_var 8))) pd_int)))) ssd_nil)
  (ssd_cons (sd_if (td_in (pd_var 9) (pd_tup (dd_cons pd_str (dd_cons pd_str (dd_cons pd_str (dd_cons pd_str (dd_cons pd_str (dd_cons pd_str dd_nil)))))))) (ssd_one (sd_asg (i := 9) sc__law_names.nd rfl (by first | exact Or.inl rfl | exact Or.inr rfl) (pd_add (pd_var 9) pd_str))) ssd_nil)
  (ssd_one (sd_if (td_notin (pd_var 9) (pd_var 7)) (ssd_one (sd_append 7 (pv 7) (pd_var 9) (pe_bm PySem.F.plainAttrs_list PySem.F.slot_list_append PySem.F.type_list_append mt_append (pv 7) (pa_cons (pd_var 9) pa_nil)))) ssd_nil))))))))
  (ssd_one (sd_retVar 7 (pv 7)))))))))))
theorem sc__law_text : FnScope N__law_text P__law_text (defScope s__law_text) := ⟨rfl, rfl, rfl, by decide +kernel, rfl, by decide +kernel, by decide +kernel⟩
theorem okr__law_text (T : Tx K mg) : ∀ n : Nat, FnOk P w K mg base L2.CX0 (n + 1) T.f__law_text T.d__law_text P__law_text (FSp K (R__law_text n)) := by
  intro n
  induction n with
  | zero => rw [R__law_text_0]; exact fn_ok T.F__law_text sc__law_text rfl (by decide) fun cdv A outer s H E hr => ssd_stuck
  | succ n okr =>
  rw [R__law_text_s]
  exact fn_ok T.F__law_text sc__law_text rfl (by decide) fun cdv A outer s H E hr =>
  (ssd_cons (sd_if (td_cmp (op_eqA hr.units) ok_eq (pd_ix (pd_var 0) pd_int) pd_str (nomark _)) (ssd_one (sd_ret (pd_ix (pd_var 0) pd_int))) ssd_nil)
  (ssd_cons (sd_if (td_cmp (op_eqA hr.units) ok_eq (pd_ix (pd_var 0) pd_int) pd_str (nomark _)) (ssd_one (sd_ret (pd_add pd_str (pd_call okr (hr.mono (by first | omega | (simp only [Nat.add_eq]; omega))) rfl T.m__law_text T.F__law_text.kp T.b__law_text (ad_cons (pd_ix (pd_var 0) pd_int) (ad_cons pd_int ad_nil)))))) ssd_nil)
  (ssd_cons (sd_asg (i := 2) sc__law_text.nd rfl (by first | exact Or.inl rfl | exact Or.inr rfl) pd_int)
  (ssd_cons (sd_asg (i := 3) sc__law_text.nd rfl (by first | exact Or.inl rfl | exact Or.inr rfl) pd_str)
  (ssd_cons (sd_if (td_cmp (op_eqA hr.units) ok_eq (pd_ix (pd_var 0) pd_int) pd_str (nomark _)) (ssd_cons (sd_asg (i := 2) sc__law_text.nd rfl (by first | exact Or.inl rfl | exact Or.inr rfl) pd_int)
  (ssd_one (sd_asg (i := 3) sc__law_text.nd rfl (by first | exact Or.inl rfl | exact Or.inr rfl) pd_str))) ssd_nil)
  (ssd_cons (sd_asg (i := 4) sc__law_text.nd rfl (by first | exact Or.inl rfl | exact Or.inr rfl) (pd_add (pd_add (pd_call okr (hr.mono (by first | omega | (simp only [Nat.add_eq]; omega))) rfl T.m__law_text T.F__law_text.kp T.b__law_text (ad_cons (pd_ix (pd_var 0) pd_int) (ad_cons (pd_var 2) ad_nil))) (pd_var 3)) (pd_call okr (hr.mono (by first | omega | (simp only [Nat.add_eq]; omega))) rfl T.m__law_text T.F__law_text.kp T.b__law_text (ad_cons (pd_ix (pd_var 0) pd_int) (ad_cons (pd_add (pd_var 2) pd_int) ad_nil)))))
  (ssd_cons (sd_if (td_cmp op_lt ok_lt (pd_var 2) (pd_var 1) (nomark _)) (ssd_one (sd_ret (pd_add (pd_add pd_str (pd_var 4)) pd_str))) ssd_nil)
  (ssd_one (sd_ret (pd_var 4))))))))))
theorem ok__law_text (T : Tx K mg) : FnOk P w K mg base L2.CX0 65 T.f__law_text T.d__law_text P__law_text (FSp K F__law_text) := okr__law_text T 64
theorem sc__law_grown : FnScope N__law_grown P__law_grown (defScope s__law_grown) := ⟨rfl, rfl, rfl, by decide +kernel, rfl, by decide +kernel, by decide +kernel⟩
theorem ok__law_grown (T : Tx K mg) : FnOk P w K mg base L2.CX0 2 T.f__law_grown T.d__law_grown P__law_grown (FSp K F__law_grown) := by
  rw [F__law_grown_eq]
  exact fn_ok T.F__law_grown sc__law_grown rfl (by decide) fun cdv A outer s H E hr =>
  (ssd_cons (sd_asg (i := 3) sc__law_grown.nd rfl (by first | exact Or.inl rfl | exact Or.inr rfl) (pd_call (ok__law_draws T) (hr.mono (by decide)) rfl T.m__law_draws T.F__law_draws.kp T.b__law_draws (ad_cons (pd_var 1) (ad_cons pd_int ad_nil))))
  (ssd_cons (sd_asg (i := 4) sc__law_grown.nd rfl (by first | exact Or.inl rfl | exact Or.inr rfl) (pd_ix (pd_var 0) (pd_neg pd_int)))
  (ssd_cons (sd_if (td_cmp (op_eqA hr.units) ok_eq (pd_mod (pd_ix (pd_var 3) pd_int) pd_int) pd_int (nomark _)) (ssd_one (sd_asg (i := 4) sc__law_grown.nd rfl (by first | exact Or.inl rfl | exact Or.inr rfl) (pd_ix (pd_var 0) (pd_mod (pd_ix (pd_var 3) pd_int) (pd_len rfl T.z_len (pd_var 0)))))) ssd_nil)
  (ssd_cons (sd_asg (i := 5) sc__law_grown.nd rfl (by first | exact Or.inl rfl | exact Or.inr rfl) (pd_tup (dd_cons (pd_tup (dd_cons pd_str (dd_cons (pd_ix (pd_var 2) (pd_mod (pd_ix (pd_var 3) pd_int) (pd_len rfl T.z_len (pd_var 2)))) dd_nil))) (dd_cons pd_int (dd_cons pd_int dd_nil)))))
  (ssd_cons (sd_if (td_cmp (op_eqA hr.units) ok_eq (pd_mod (pd_ix (pd_var 3) pd_int) pd_int) pd_int (nomark _)) (ssd_one (sd_asg (i := 5) sc__law_grown.nd rfl (by first | exact Or.inl rfl | exact Or.inr rfl) (pd_ix (pd_var 0) (pd_mod (pd_ix (pd_var 3) pd_int) (pd_len rfl T.z_len (pd_var 0)))))) ssd_nil)
  (ssd_cons (sd_asg (i := 6) sc__law_grown.nd rfl (by first | exact Or.inl rfl | exact Or.inr rfl) (pd_ix (pd_lst (dd_cons pd_str (dd_cons pd_str (dd_cons pd_str (dd_cons pd_str (dd_cons pd_str (dd_cons pd_str dd_nil))))))) (pd_mod (pd_ix (pd_var 3) pd_int) pd_int)))
  (ssd_cons (sd_if (td_cmp (op_eqA hr.units) ok_eq (pd_var 6) pd_str (nomark _)) (ssd_one (sd_ret (pd_var 5))) ssd_nil)
  (ssd_cons (sd_if (td_cmp (op_eqA hr.units) ok_eq (pd_var 6) pd_str (nomark _)) (ssd_one (sd_ret (pd_tup (dd_cons (pd_tup (dd_cons pd_str (dd_cons (pd_ix (pd_var 4) pd_int) dd_nil))) (dd_cons (pd_add (pd_ix (pd_var 4) pd_int) pd_int) (dd_cons (pd_add (pd_ix (pd_var 4) pd_int) pd_int) dd_nil)))))) ssd_nil)
  (ssd_cons (sd_if (td_cmp (op_eqA hr.units) ok_eq (pd_mod (pd_fdiv (pd_ix (pd_var 3) pd_int) pd_int) pd_int) pd_int (nomark _)) (ssd_one (sd_par (i := 4) (j := 5) sc__law_grown.nd rfl rfl (by decide) (by rfl) (by rfl) (pd_var 5) (pd_var 4) (by rfl))) ssd_nil)
  (ssd_one (sd_ret (pd_tup (dd_cons (pd_tup (dd_cons (pd_var 6) (dd_cons (pd_ix (pd_var 4) pd_int) (dd_cons (pd_ix (pd_var 5) pd_int) dd_nil)))) (dd_cons (pd_add (pd_add (pd_ix (pd_var 4) pd_int) (pd_ix (pd_var 5) pd_int)) pd_int) (dd_cons (pd_add (pd_max2 rfl T.z_max (pd_ix (pd_var 4) pd_int) (pd_ix (pd_var 5) pd_int)) pd_int) dd_nil)))))))))))))))
theorem sc__law_same : FnScope N__law_same P__law_same (defScope s__law_same) := ⟨rfl, rfl, rfl, by decide +kernel, rfl, by decide +kernel, by decide +kernel⟩
theorem okr__law_same (T : Tx K mg) : ∀ n : Nat, FnOk P w K mg base L2.CX0 (n + 1) T.f__law_same T.d__law_same P__law_same (FSp K (R__law_same n)) := by
  intro n
  induction n with
  | zero => rw [R__law_same_0]; exact fn_ok T.F__law_same sc__law_same rfl (by decide) fun cdv A outer s H E hr => ssd_stuck
  | succ n okr =>
  rw [R__law_same_s]
  exact fn_ok T.F__law_same sc__law_same rfl (by decide) fun cdv A outer s H E hr =>
  (ssd_cons (sd_if (td_val (pd_isi rfl T.z_isinstance rfl T.z_str (by decide +kernel) (pd_var 1))) (ssd_one (sd_ret (pd_and (pd_isi rfl T.z_isinstance rfl T.z_str (by decide +kernel) (pd_var 0)) (pd_one (pd_cmp (op_eqA hr.units) ok_eq (pd_var 0) (pd_var 1) (nomark _)))))) ssd_nil)
  (ssd_cons (sd_if (td_w (wd_or (td_not (td_val (pd_isi rfl T.z_isinstance rfl T.z_tuple (by decide +kernel) (pd_var 0)))) (wd_or1 (td_cmp (op_neA hr.units) ok_ne (pd_len rfl T.z_len (pd_var 0)) (pd_len rfl T.z_len (pd_var 1)) (nomark _))))) (ssd_one (sd_ret pd_bl)) ssd_nil)
  (ssd_cons (sd_for PassesOwn.never rfl (ld_range1 rfl T.z_range (ad_cons (pd_len rfl T.z_len (pd_var 1)) ad_nil)) (gd_name (i := 2) sc__law_same.nd rfl (by first | exact Or.inl rfl | exact Or.inr rfl))
  (ssd_wipeB [2] (ssd_one (sd_if (td_not (td_val (pd_call okr (hr.mono (by first | omega | (simp only [Nat.add_eq]; omega))) rfl T.m__law_same T.F__law_same.kp T.b__law_same (ad_cons (pd_ix (pd_var 0) (pd_var 2)) (ad_cons (pd_ix (pd_var 1) (pd_var 2)) ad_nil))))) (ssd_one (sd_ret pd_bl)) ssd_nil))))
  (ssd_one (sd_ret pd_bl)))))
theorem ok__law_same (T : Tx K mg) : FnOk P w K mg base L2.CX0 65 T.f__law_same T.d__law_same P__law_same (FSp K F__law_same) := okr__law_same T 64
theorem sc__law_read_again : FnScope N__law_read_again P__law_read_again (defScope s__law_read_again) := ⟨rfl, rfl, rfl, by decide +kernel, rfl, by decide +kernel, by decide +kernel⟩
theorem ok__law_read_again (T : Tx K mg) : FnOk P w K mg base L2.CX0 66 T.f__law_read_again T.d__law_read_again P__law_read_again (FSp K F__law_read_again) := by
  rw [F__law_read_again_eq]
  exact fn_ok T.F__law_read_again sc__law_read_again rfl (by decide) fun cdv A outer s H E hr =>
  (ssd_cons (sd_asg (i := 3) sc__law_read_again.nd rfl (by first | exact Or.inl rfl | exact Or.inr rfl) pd_non)
  (ssd_cons (sd_if (td_cmp (op_eqA hr.units) ok_eq (pd_mod (pd_var 1) pd_int) pd_int (nomark _)) (ssd_one (sd_asg (i := 3) sc__law_read_again.nd rfl (by first | exact Or.inl rfl | exact Or.inr rfl) (pd_callD (ok_read_sentence T) (hr.mono (by decide)) rfl T.m_read_sentence T.F_read_sentence.kp T.bd_read_sentence (dss_int 0) (ad_cons (pd_var 0) ad_nil)))) (ssd_one (sd_asg (i := 3) sc__law_read_again.nd rfl (by first | exact Or.inl rfl | exact Or.inr rfl) (pd_call (ok_read_sentence T) (hr.mono (by decide)) rfl T.m_read_sentence T.F_read_sentence.kp T.b_read_sentence (ad_cons (pd_var 0) (ad_cons (pd_var 1) ad_nil))))))
  (ssd_one (sd_ret (pd_call (ok__law_same T) (hr.mono (by decide)) rfl T.m__law_same T.F__law_same.kp T.b__law_same (ad_cons (pd_var 3) (ad_cons (pd_var 2) ad_nil)))))))
theorem sc_law : FnScope N_law P_law (defScope s_law) := ⟨rfl, rfl, rfl, by decide +kernel, rfl, by decide +kernel, by decide +kernel⟩
theorem ok_law (T : Tx K mg) : FnOk P w K mg base L2.CX0 131 T.f_law T.d_law P_law (FSp K F_law) := by
  rw [F_law_eq]
  exact fn_ok T.F_law sc_law rfl (by decide) fun cdv A outer s H E hr =>
  (ssd_cons (sd_asg (i := 1) sc_law.nd rfl (by first | exact Or.inl rfl | exact Or.inr rfl) (pd_call (ok__law_names T) (hr.mono (by decide)) rfl T.m__law_names T.F__law_names.kp T.b__law_names (ad_cons (pd_call (ok__law_cell_at T) (hr.mono (by decide)) rfl T.m__law_cell_at T.F__law_cell_at.kp T.b__law_cell_at (ad_cons (pd_var 0) (ad_cons pd_int ad_nil))) (ad_cons pd_int ad_nil))))
  (ssd_cons (sd_asg (i := 2) sc_law.nd rfl (by first | exact Or.inl rfl | exact Or.inr rfl) (pd_lst (dd_cons (pd_tup (dd_cons (pd_tup (dd_cons pd_str (dd_cons (pd_ix (pd_var 1) pd_int) dd_nil))) (dd_cons pd_int (dd_cons pd_int dd_nil)))) dd_nil)))
  (ssd_cons (sd_for PassesOwn.never rfl (ld_list (pd_cat (pd_lst (dd_cons pd_int dd_nil)) (pd_slice (pd_var 0) (od_some pd_int) (od_some pd_int)))) (gd_name (i := 3) sc_law.nd rfl (by first | exact Or.inl rfl | exact Or.inr rfl))
  (ssd_wipeB [3, 4, 5, 6] (ssd_cons (sd_asg (i := 4) sc_law.nd rfl (by first | exact Or.inl rfl | exact Or.inr rfl) (pd_call (ok__law_grown T) (hr.mono (by decide)) rfl T.m__law_grown T.F__law_grown.kp T.b__law_grown (ad_cons (pd_var 2) (ad_cons (pd_var 3) (ad_cons (pd_var 1) ad_nil)))))
  (ssd_one (sd_wipeB [5, 6] (sd_if (td_w (wd_and (td_cmp op_le ok_le (pd_ix (pd_var 4) pd_int) pd_int (nomark _)) (wd_and1 (td_cmp op_le ok_le (pd_ix (pd_var 4) pd_int) pd_int (nomark _))))) (ssd_cons (sd_append 2 (pv 2) (pd_var 4) (pe_bm PySem.F.plainAttrs_list PySem.F.slot_list_append PySem.F.type_list_append mt_append (pv 2) (pa_cons (pd_var 4) pa_nil)))
  (ssd_cons (sd_asg (i := 5) sc_law.nd rfl (by first | exact Or.inl rfl | exact Or.inr rfl) (pd_call (ok__law_text T) (hr.mono (by decide)) rfl T.m__law_text T.F__law_text.kp T.b__law_text (ad_cons (pd_ix (pd_var 4) pd_int) (ad_cons pd_int ad_nil))))
  (ssd_cons (sd_asg (i := 6) sc_law.nd rfl (by first | exact Or.inl rfl | exact Or.inr rfl) (pd_call (ok_shown_sentence T) (hr.mono (by decide)) rfl T.m_shown_sentence T.F_shown_sentence.kp T.b_shown_sentence (ad_cons (pd_ix (pd_var 4) pd_int) ad_nil)))
  (ssd_cons (sd_if (td_w (wd_or (td_not (td_val (pd_isi rfl T.z_isinstance rfl T.z_str (by decide +kernel) (pd_var 6)))) (wd_or1 (td_cmp (op_neA hr.units) ok_ne (pd_var 6) (pd_var 5) (nomark _))))) (ssd_one (sd_ret pd_bl)) ssd_nil)
  (ssd_one (sd_if (td_w (wd_and (td_cmp op_le ok_le (pd_len rfl T.z_len (pd_var 5)) pd_int (nomark _)) (wd_and1 (td_not (td_val (pd_call (ok__law_read_again T) (hr.mono (by decide)) rfl T.m__law_read_again T.F__law_read_again.kp T.b__law_read_again (ad_cons (pd_var 5) (ad_cons (pd_len rfl T.z_len (pd_var 2)) (ad_cons (pd_ix (pd_var 4) pd_int) ad_nil))))))))) (ssd_one (sd_ret pd_bl)) ssd_nil)))))) ssd_nil))))))
  (ssd_one (sd_ret pd_bl)))))
end
theorem all_mk {l : PySem.W.OpenLaw} {w : World} {K : PySem.W.Frag} {h : Heap} {mg : Str → Option Value} {fa f1 f2 f3 f4 f5 f6 f7 f8 f9 f10 f11 f12 f13 f14 f15 f16 f17 f18 : Addr} (X : K.In h) (G : h.Ns mainGlobals mg) (hfa : mg "law" = some (.ref fa))
    {od1 an1 od2 an2 od3 an3 od4 an4 od5 an5 od6 an6 od7 an7 od8 an8 od9 an9 od10 an10 od11 an11 od12 an12 od13 an13 od14 an14 od15 an15 od16 an16 od17 an17 od18 an18 : Option Addr} {sl1 sl2 sl3 sl4 sl5 sl6 sl7 sl8 sl9 sl10 sl11 sl12 sl13 sl14 sl15 sl16 sl17 sl18 : Array (Option Value)} {oc1 kV1 dc1 pm1 cd1 ct1 oc2 kV2 dc2 pm2 cd2 ct2 oc3 kV3 dc3 pm3 cd3 ct3 oc4 kV4 dc4 pm4 cd4 ct4 oc5 kV5 dc5 pm5 cd5 ct5 oc6 kV6 dc6 pm6 cd6 ct6 oc7 kV7 dc7 pm7 cd7 ct7 oc8 kV8 dc8 pm8 cd8 ct8 oc9 kV9 dc9 pm9 cd9 ct9 oc10 kV10 dc10 pm10 cd10 ct10 oc11 kV11 dc11 pm11 cd11 ct11 oc12 kV12 dc12 pm12 cd12 ct12 oc13 kV13 dc13 pm13 cd13 ct13 oc14 kV14 dc14 pm14 cd14 ct14 oc15 kV15 dc15 pm15 cd15 ct15 oc16 kV16 dc16 pm16 cd16 ct16 oc17 kV17 dc17 pm17 cd17 ct17 oc18 kV18 dc18 pm18 cd18 ct18 : Value} {DT7 : Addr} {tc7 : Value} {td7 : Option Addr} {tk7 : Tok} {tn7 : Nat} {ts7 : Array (Option Value)} {CT1 : Addr} {cc1 : Option Addr} {cn1 : Nat} {cs1 : Array (Option Value)} {ck1_0 ck1_1 ck1_2 ck1_3 ck1_4 ck1_5 : Tok} {ck2_0 : Tok} {ck3_0 : Tok}
    (a1 : PySem.W.nsIn K mainGlobals "is_name" = some (some (.ref f1))) (l1 : K.lookup f1 = some ⟨oc1, od1, .func (PySem.W.fnOf "is_name" "is_name" (defArgs s_is_name) (defBody s_is_name) (defScope s_is_name) .none kV1 dc1 pm1 an1 cd1 ct1), sl1⟩) (c1 : PySem.W.codeIn K cd1 "is_name" = true) (k1 : PySem.W.keepIn K (.ref f1) = true)
    (a2 : PySem.W.nsIn K mainGlobals "parted" = some (some (.ref f2))) (l2 : K.lookup f2 = some ⟨oc2, od2, .func (PySem.W.fnOf "parted" "parted" (defArgs s_parted) (defBody s_parted) (defScope s_parted) .none kV2 dc2 pm2 an2 cd2 ct2), sl2⟩) (c2 : PySem.W.codeIn K cd2 "parted" = true) (k2 : PySem.W.keepIn K (.ref f2) = true)
    (a3 : PySem.W.nsIn K mainGlobals "join_top" = some (some (.ref f3))) (l3 : K.lookup f3 = some ⟨oc3, od3, .func (PySem.W.fnOf "join_top" "join_top" (defArgs s_join_top) (defBody s_join_top) (defScope s_join_top) .none kV3 dc3 pm3 an3 cd3 ct3), sl3⟩) (c3 : PySem.W.codeIn K cd3 "join_top" = true) (k3 : PySem.W.keepIn K (.ref f3) = true)
    (a4 : PySem.W.nsIn K mainGlobals "join_while" = some (some (.ref f4))) (l4 : K.lookup f4 = some ⟨oc4, od4, .func (PySem.W.fnOf "join_while" "join_while" (defArgs s_join_while) (defBody s_join_while) (defScope s_join_while) .none kV4 dc4 pm4 an4 cd4 ct4), sl4⟩) (c4 : PySem.W.codeIn K cd4 "join_while" = true) (k4 : PySem.W.keepIn K (.ref f4) = true)
    (a5 : PySem.W.nsIn K mainGlobals "closed" = some (some (.ref f5))) (l5 : K.lookup f5 = some ⟨oc5, od5, .func (PySem.W.fnOf "closed" "closed" (defArgs s_closed) (defBody s_closed) (defScope s_closed) .none kV5 dc5 pm5 an5 cd5 ct5), sl5⟩) (c5 : PySem.W.codeIn K cd5 "closed" = true) (k5 : PySem.W.keepIn K (.ref f5) = true)
    (a6 : PySem.W.nsIn K mainGlobals "taken" = some (some (.ref f6))) (l6 : K.lookup f6 = some ⟨oc6, od6, .func (PySem.W.fnOf "taken" "taken" (defArgs s_taken) (defBody s_taken) (defScope s_taken) .none kV6 dc6 pm6 an6 cd6 ct6), sl6⟩) (c6 : PySem.W.codeIn K cd6 "taken" = true) (k6 : PySem.W.keepIn K (.ref f6) = true)
    (a7 : PySem.W.nsIn K mainGlobals "read_sentence" = some (some (.ref f7))) (l7 : K.lookup f7 = some ⟨oc7, od7, .func (PySem.W.fnOf "read_sentence" "read_sentence" (defArgs s_read_sentence) (defBody s_read_sentence) (defScope s_read_sentence) (.ref DT7) kV7 dc7 pm7 an7 cd7 ct7), sl7⟩) (c7 : PySem.W.codeIn K cd7 "read_sentence" = true) (k7 : PySem.W.keepIn K (.ref f7) = true)
    (t7 : K.lookup DT7 = some ⟨tc7, td7, .seq #[.int 0 tk7] tn7, ts7⟩)
    (a8 : PySem.W.nsIn K mainGlobals "as_part" = some (some (.ref f8))) (l8 : K.lookup f8 = some ⟨oc8, od8, .func (PySem.W.fnOf "as_part" "as_part" (defArgs s_as_part) (defBody s_as_part) (defScope s_as_part) .none kV8 dc8 pm8 an8 cd8 ct8), sl8⟩) (c8 : PySem.W.codeIn K cd8 "as_part" = true) (k8 : PySem.W.keepIn K (.ref f8) = true)
    (a9 : PySem.W.nsIn K mainGlobals "shown_sentence" = some (some (.ref f9))) (l9 : K.lookup f9 = some ⟨oc9, od9, .func (PySem.W.fnOf "shown_sentence" "shown_sentence" (defArgs s_shown_sentence) (defBody s_shown_sentence) (defScope s_shown_sentence) .none kV9 dc9 pm9 an9 cd9 ct9), sl9⟩) (c9 : PySem.W.codeIn K cd9 "shown_sentence" = true) (k9 : PySem.W.keepIn K (.ref f9) = true)
    (a10 : PySem.W.nsIn K mainGlobals "_law_draws" = some (some (.ref f10))) (l10 : K.lookup f10 = some ⟨oc10, od10, .func (PySem.W.fnOf "_law_draws" "_law_draws" (defArgs s__law_draws) (defBody s__law_draws) (defScope s__law_draws) .none kV10 dc10 pm10 an10 cd10 ct10), sl10⟩) (c10 : PySem.W.codeIn K cd10 "_law_draws" = true) (k10 : PySem.W.keepIn K (.ref f10) = true)
    (a11 : PySem.W.nsIn K mainGlobals "_law_cell_at" = some (some (.ref f11))) (l11 : K.lookup f11 = some ⟨oc11, od11, .func (PySem.W.fnOf "_law_cell_at" "_law_cell_at" (defArgs s__law_cell_at) (defBody s__law_cell_at) (defScope s__law_cell_at) .none kV11 dc11 pm11 an11 cd11 ct11), sl11⟩) (c11 : PySem.W.codeIn K cd11 "_law_cell_at" = true) (k11 : PySem.W.keepIn K (.ref f11) = true)
    (a12 : PySem.W.nsIn K mainGlobals "_law_fresh" = some (some (.ref f12))) (l12 : K.lookup f12 = some ⟨oc12, od12, .func (PySem.W.fnOf "_law_fresh" "_law_fresh" (defArgs s__law_fresh) (defBody s__law_fresh) (defScope s__law_fresh) .none kV12 dc12 pm12 an12 cd12 ct12), sl12⟩) (c12 : PySem.W.codeIn K cd12 "_law_fresh" = true) (k12 : PySem.W.keepIn K (.ref f12) = true)
    (a13 : PySem.W.nsIn K mainGlobals "_law_names" = some (some (.ref f13))) (l13 : K.lookup f13 = some ⟨oc13, od13, .func (PySem.W.fnOf "_law_names" "_law_names" (defArgs s__law_names) (defBody s__law_names) (defScope s__law_names) .none kV13 dc13 pm13 an13 cd13 ct13), sl13⟩) (c13 : PySem.W.codeIn K cd13 "_law_names" = true) (k13 : PySem.W.keepIn K (.ref f13) = true)
    (a14 : PySem.W.nsIn K mainGlobals "_law_text" = some (some (.ref f14))) (l14 : K.lookup f14 = some ⟨oc14, od14, .func (PySem.W.fnOf "_law_text" "_law_text" (defArgs s__law_text) (defBody s__law_text) (defScope s__law_text) .none kV14 dc14 pm14 an14 cd14 ct14), sl14⟩) (c14 : PySem.W.codeIn K cd14 "_law_text" = true) (k14 : PySem.W.keepIn K (.ref f14) = true)
    (a15 : PySem.W.nsIn K mainGlobals "_law_grown" = some (some (.ref f15))) (l15 : K.lookup f15 = some ⟨oc15, od15, .func (PySem.W.fnOf "_law_grown" "_law_grown" (defArgs s__law_grown) (defBody s__law_grown) (defScope s__law_grown) .none kV15 dc15 pm15 an15 cd15 ct15), sl15⟩) (c15 : PySem.W.codeIn K cd15 "_law_grown" = true) (k15 : PySem.W.keepIn K (.ref f15) = true)
    (a16 : PySem.W.nsIn K mainGlobals "_law_same" = some (some (.ref f16))) (l16 : K.lookup f16 = some ⟨oc16, od16, .func (PySem.W.fnOf "_law_same" "_law_same" (defArgs s__law_same) (defBody s__law_same) (defScope s__law_same) .none kV16 dc16 pm16 an16 cd16 ct16), sl16⟩) (c16 : PySem.W.codeIn K cd16 "_law_same" = true) (k16 : PySem.W.keepIn K (.ref f16) = true)
    (a17 : PySem.W.nsIn K mainGlobals "_law_read_again" = some (some (.ref f17))) (l17 : K.lookup f17 = some ⟨oc17, od17, .func (PySem.W.fnOf "_law_read_again" "_law_read_again" (defArgs s__law_read_again) (defBody s__law_read_again) (defScope s__law_read_again) .none kV17 dc17 pm17 an17 cd17 ct17), sl17⟩) (c17 : PySem.W.codeIn K cd17 "_law_read_again" = true) (k17 : PySem.W.keepIn K (.ref f17) = true)
    (a18 : PySem.W.nsIn K mainGlobals "law" = some (some (.ref f18))) (l18 : K.lookup f18 = some ⟨oc18, od18, .func (PySem.W.fnOf "law" "law" (defArgs s_law) (defBody s_law) (defScope s_law) .none kV18 dc18 pm18 an18 cd18 ct18), sl18⟩) (c18 : PySem.W.codeIn K cd18 "law" = true) (k18 : PySem.W.keepIn K (.ref f18) = true)
    (cv1 : PySem.W.nsIn K mainGlobals "KEPT" = some (some (.ref CT1))) (cl1 : K.lookup CT1 = some ⟨.type "tuple", cc1, .seq #[.str "always" ck1_0, .str "where" ck1_1, .str "usually" ck1_2, .str "not" ck1_3, .str "and" ck1_4, .str "or" ck1_5] cn1, cs1⟩)
    (cv2 : PySem.W.nsIn K mainGlobals "MOST_SIGNS" = some (some (.int 120 ck2_0)))
    (cv3 : PySem.W.nsIn K mainGlobals "SMALL" = some (some (.str "abcdefghijklmnopqrstuvwxyz" ck3_0)))
    (z1 : PySem.W.nsIn K mainGlobals "isinstance" = some none)
    (z2 : PySem.W.nsIn K mainGlobals "len" = some none)
    (z3 : PySem.W.nsIn K mainGlobals "max" = some none)
    (z4 : PySem.W.nsIn K mainGlobals "range" = some none)
    (z5 : PySem.W.nsIn K mainGlobals "str" = some none)
    (z6 : PySem.W.nsIn K mainGlobals "tuple" = some none) :
    ∃ fd : FuncData, (∀ (s : Shared) (v : Value), BindsTo s fd ⟨[v], []⟩ [("script", v)]) ∧ ∀ base : Heap, K.In base → base.Ns mainGlobals mg → FnOk l.prog w K mg base L2.CX0 131 fa fd ["script"] (spLawD K) := by
  have e := hfa.symm.trans (PySem.W.mg_of X G a18)
  cases e
  have F1 := fun_mk (st := s_is_name) l1 c1 k1
  have b1 := F1.binds (ps := P_is_name) fun _ _ _ _ _ _ us hl => match us, hl with | [_], _ => rfl
  have F2 := fun_mk (st := s_parted) l2 c2 k2
  have b2 := F2.binds (ps := P_parted) fun _ _ _ _ _ _ us hl => match us, hl with | [_], _ => rfl
  have F3 := fun_mk (st := s_join_top) l3 c3 k3
  have b3 := F3.binds (ps := P_join_top) fun _ _ _ _ _ _ us hl => match us, hl with | [_, _], _ => rfl
  have F4 := fun_mk (st := s_join_while) l4 c4 k4
  have b4 := F4.binds (ps := P_join_while) fun _ _ _ _ _ _ us hl => match us, hl with | [_, _, _], _ => rfl
  have F5 := fun_mk (st := s_closed) l5 c5 k5
  have b5 := F5.binds (ps := P_closed) fun _ _ _ _ _ _ us hl => match us, hl with | [_, _, _], _ => rfl
  have F6 := fun_mk (st := s_taken) l6 c6 k6
  have b6 := F6.binds (ps := P_taken) fun _ _ _ _ _ _ us hl => match us, hl with | [_, _, _, _], _ => rfl
  have F7 := funD_mk1 (st := s_read_sentence) (v := V.int 0) l7 c7 k7 t7 ⟨_, rfl⟩
  have b7 := bindsAll (ps := P_read_sentence) F7 fun _ _ _ _ _ _ _ us its hu hi => match us, its, hu, hi with | [_, _], [_], _, _ => ⟨_, rfl, rfl⟩
  have bd7 := F7.binds1 (ps := P_read_sentence) 1 0 (by simp) (by decide) fun _ _ _ _ _ _ _ us its hu hi => match us, its, hu, hi with | [_], [_], _, _ => ⟨_, rfl, rfl⟩
  have F8 := fun_mk (st := s_as_part) l8 c8 k8
  have b8 := F8.binds (ps := P_as_part) fun _ _ _ _ _ _ us hl => match us, hl with | [_, _], _ => rfl
  have F9 := fun_mk (st := s_shown_sentence) l9 c9 k9
  have b9 := F9.binds (ps := P_shown_sentence) fun _ _ _ _ _ _ us hl => match us, hl with | [_], _ => rfl
  have F10 := fun_mk (st := s__law_draws) l10 c10 k10
  have b10 := F10.binds (ps := P__law_draws) fun _ _ _ _ _ _ us hl => match us, hl with | [_, _], _ => rfl
  have F11 := fun_mk (st := s__law_cell_at) l11 c11 k11
  have b11 := F11.binds (ps := P__law_cell_at) fun _ _ _ _ _ _ us hl => match us, hl with | [_, _], _ => rfl
  have F12 := fun_mk (st := s__law_fresh) l12 c12 k12
  have b12 := F12.binds (ps := P__law_fresh) fun _ _ _ _ _ _ us hl => match us, hl with | [_, _], _ => rfl
  have F13 := fun_mk (st := s__law_names) l13 c13 k13
  have b13 := F13.binds (ps := P__law_names) fun _ _ _ _ _ _ us hl => match us, hl with | [_, _], _ => rfl
  have F14 := fun_mk (st := s__law_text) l14 c14 k14
  have b14 := F14.binds (ps := P__law_text) fun _ _ _ _ _ _ us hl => match us, hl with | [_, _], _ => rfl
  have F15 := fun_mk (st := s__law_grown) l15 c15 k15
  have b15 := F15.binds (ps := P__law_grown) fun _ _ _ _ _ _ us hl => match us, hl with | [_, _, _], _ => rfl
  have F16 := fun_mk (st := s__law_same) l16 c16 k16
  have b16 := F16.binds (ps := P__law_same) fun _ _ _ _ _ _ us hl => match us, hl with | [_, _], _ => rfl
  have F17 := fun_mk (st := s__law_read_again) l17 c17 k17
  have b17 := F17.binds (ps := P__law_read_again) fun _ _ _ _ _ _ us hl => match us, hl with | [_, _, _], _ => rfl
  have F18 := fun_mk (st := s_law) l18 c18 k18
  have b18 := F18.binds (ps := P_law) fun _ _ _ _ _ _ us hl => match us, hl with | [_], _ => rfl
  let T : Tx K mg := ⟨_, _, F1, PySem.W.mg_of X G a1, b1, _, _, F2, PySem.W.mg_of X G a2, b2, _, _, F3, PySem.W.mg_of X G a3, b3, _, _, F4, PySem.W.mg_of X G a4, b4, _, _, F5, PySem.W.mg_of X G a5, b5, _, _, F6, PySem.W.mg_of X G a6, b6, _, _, F7, PySem.W.mg_of X G a7, b7, bd7, _, _, F8, PySem.W.mg_of X G a8, b8, _, _, F9, PySem.W.mg_of X G a9, b9, _, _, F10, PySem.W.mg_of X G a10, b10, _, _, F11, PySem.W.mg_of X G a11, b11, _, _, F12, PySem.W.mg_of X G a12, b12, _, _, F13, PySem.W.mg_of X G a13, b13, _, _, F14, PySem.W.mg_of X G a14, b14, _, _, F15, PySem.W.mg_of X G a15, b15, _, _, F16, PySem.W.mg_of X G a16, b16, _, _, F17, PySem.W.mg_of X G a17, b17, _, _, F18, PySem.W.mg_of X G a18, b18, V.ref CT1, _, PySem.W.mg_of X G cv1, rfl, fun Z => .tup (xs := [V.str "always", V.str "where", V.str "usually", V.str "not", V.str "and", V.str "or"]) (.inr ⟨_, _, _, cl1, rfl, rfl, (by show 6 ≤ sizeLine; decide), (.cons ⟨_, rfl⟩ (.cons ⟨_, rfl⟩ (.cons ⟨_, rfl⟩ (.cons ⟨_, rfl⟩ (.cons ⟨_, rfl⟩ (.cons ⟨_, rfl⟩ .nil))))))⟩) (.cons (.str _) (.cons (.str _) (.cons (.str _) (.cons (.str _) (.cons (.str _) (.cons (.str _) .nil)))))), V.int 120, _, PySem.W.mg_of X G cv2, ⟨_, rfl⟩, fun Z => (.int _), V.str "abcdefghijklmnopqrstuvwxyz", _, PySem.W.mg_of X G cv3, ⟨_, rfl⟩, fun Z => (.str _), PySem.W.mg_none_of X G z1, PySem.W.mg_none_of X G z2, PySem.W.mg_none_of X G z3, PySem.W.mg_none_of X G z4, PySem.W.mg_none_of X G z5, PySem.W.mg_none_of X G z6⟩
  exact ⟨PySem.W.fnOf "law" "law" (defArgs s_law) (defBody s_law) (defScope s_law) .none kV18 dc18 pm18 an18 cd18 ct18, fun s v => .of_eq rfl, fun base _ _ => (ok_law (base := base) T).imp fun vs H Q E q => law_of law_true q⟩
theorem walk {l : PySem.W.OpenLaw} {q : Program} {loose : List Str} {XP : (Str → Option Value) → Heap → Prop} {YP : World → Heap → Prop} {d : DefRec} {K : Params → PySem.W.Frag} (hn : l.most = some 63) (hdf : d.params.defaults = [])
    (hY : ∀ (w : World) (h : Heap), YP w h → (K w.params).In h)
    (F : ∀ (w : World) (mg : Str → Option Value) (fa : Addr) (h : Heap), (K w.params).In h → h.Ns mainGlobals mg → mg d.name = some (.ref fa) →
      ∃ fd : FuncData, (∀ (s : Shared) (u : Value), BindsTo s fd ⟨[u], []⟩ [("script", u)]) ∧ ∀ base : Heap, (K w.params).In base → base.Ns mainGlobals mg → FnOk l.prog w (K w.params) mg base L2.CX0 131 fa fd ["script"] (spLawD (K w.params))) :
    PySem.W.WalkO q loose XP YP l.row.toRowW d [] (fun f vs => PySem.call f vs) :=
  L2.walk_of (n := 63) (k := 131) (x := "script") (CX := fun _ => L2.CX0) (sp := fun w => spLawD (K w.params)) hn (by decide) hdf ⟨rfl, by decide, by decide⟩ hY F (fun _ _ a ns hl _ hS => ⟨a, ns, rfl, hS, hl, fun _ => rfl⟩) fun _ _ _ _ _ z => z
end La
open PySem PySem.W PyProof.Rows
set_option maxRecDepth 100000 in
set_option maxHeartbeats 0 in
theorem PySem.Challenge.cw_wontbook_k01_a_sentence_holds : PySem.Challenge.rw_wontbook_k01_a_sentence.Holds := by
  w_on; o_law; k_head; (case hw => w_witness2)
  k_fill
  refine La.walk (l := PySem.Challenge.rw_wontbook_k01_a_sentence) rfl rfl (fun w h Y => PySem.W.kIn_of Y) ?F
  case F =>
    intro w mg fa h KX G hmg
    refine' La.all_mk KX G hmg ?a1 ?l1 ?c1 ?k1 ?a2 ?l2 ?c2 ?k2 ?a3 ?l3 ?c3 ?k3 ?a4 ?l4 ?c4 ?k4 ?a5 ?l5 ?c5 ?k5 ?a6 ?l6 ?c6 ?k6 ?a7 ?l7 ?c7 ?k7 ?t7 ?a8 ?l8 ?c8 ?k8 ?a9 ?l9 ?c9 ?k9 ?a10 ?l10 ?c10 ?k10 ?a11 ?l11 ?c11 ?k11 ?a12 ?l12 ?c12 ?k12 ?a13 ?l13 ?c13 ?k13 ?a14 ?l14 ?c14 ?k14 ?a15 ?l15 ?c15 ?k15 ?a16 ?l16 ?c16 ?k16 ?a17 ?l17 ?c17 ?k17 ?a18 ?l18 ?c18 ?k18 ?cv1 ?cl1 ?cv2 ?cv3 ?z1 ?z2 ?z3 ?z4 ?z5 ?z6
    (case a1 => k_is); (case l1 => k_is); (case c1 => k_is); (case k1 => k_is)
    (case a2 => k_is); (case l2 => k_is); (case c2 => k_is); (case k2 => k_is)
    (case a3 => k_is); (case l3 => k_is); (case c3 => k_is); (case k3 => k_is)
    (case a4 => k_is); (case l4 => k_is); (case c4 => k_is); (case k4 => k_is)
    (case a5 => k_is); (case l5 => k_is); (case c5 => k_is); (case k5 => k_is)
    (case a6 => k_is); (case l6 => k_is); (case c6 => k_is); (case k6 => k_is)
    (case a7 => k_is); (case l7 => k_is); (case c7 => k_is); (case k7 => k_is); (case t7 => k_is)
    (case a8 => k_is); (case l8 => k_is); (case c8 => k_is); (case k8 => k_is)
    (case a9 => k_is); (case l9 => k_is); (case c9 => k_is); (case k9 => k_is)
    (case a10 => k_is); (case l10 => k_is); (case c10 => k_is); (case k10 => k_is)
    (case a11 => k_is); (case l11 => k_is); (case c11 => k_is); (case k11 => k_is)
    (case a12 => k_is); (case l12 => k_is); (case c12 => k_is); (case k12 => k_is)
    (case a13 => k_is); (case l13 => k_is); (case c13 => k_is); (case k13 => k_is)
    (case a14 => k_is); (case l14 => k_is); (case c14 => k_is); (case k14 => k_is)
    (case a15 => k_is); (case l15 => k_is); (case c15 => k_is); (case k15 => k_is)
    (case a16 => k_is); (case l16 => k_is); (case c16 => k_is); (case k16 => k_is)
    (case a17 => k_is); (case l17 => k_is); (case c17 => k_is); (case k17 => k_is)
    (case a18 => k_is); (case l18 => k_is); (case c18 => k_is); (case k18 => k_is)
    (case cv1 => k_is); (case cl1 => k_is)
    (case cv2 => k_is)
    (case cv3 => k_is)
    (case z1 => k_is); (case z2 => k_is); (case z3 => k_is); (case z4 => k_is); (case z5 => k_is); (case z6 => k_is)
