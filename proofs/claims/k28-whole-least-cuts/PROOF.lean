import PyProof.Rows.All
import Wide.All
import OpenK.AllK
import Wide.FinOn
import HandS.Base
import HandS.Call
import HandS.List
import HandS.Comp
import HandS.Iter
import HandS.Words
import HandS.Deep
import HandS.TupAny
import HandS.TupMul
import HandS.Dict
import HandS.Text
import HandS.Walk
import HandS.Strs
import HandS.Style
import HandS.Small
import HandS.IsInst
import KE.LtData
import KE.SortData
import KE.DataEq
import KE.SortCalls
import KE.KDictKeyed
import HandS.More
import HandS.Conv
import HandS.TupSets
import KE.KDictSum
import HandS.SetFor
import HandS.Codes
import HandS.TryOnly
import HandS.Defaults
import HandS.HeadHook1
import HandS.HeadHook2
import HandS.WordsExc
import PySem.Challenge.RW_joinhall_k28_whole_least_cuts
import KE.KStateDown
import Lean
import HandS.Ends
import HandS.Head0
import HandS.Head1
import HandS.Head2
import HandS.HeadEnd
-- part Pa
set_option Elab.async false
set_option linter.all false
set_option maxRecDepth 100000
set_option maxHeartbeats 2000000
/-! The plain layer: what a reading evaluates to, over plain data, with no heap in sight. -/
namespace JQ
open PySem PySem.Spec PyProof.Rows L2

/-- data as the proof sees it: plain data; a list of data; a dict from texts to ints; a dict whose keys are data (its values True); an address -/
inductive DV where
  | p (d : PyData)
  | l (ds : List DV)
  | dk (m : List (Str × Int))
  | ks (ks : List PyData)
  | at_ (a : Addr)
  /-- an instance; a dict from ints -/
  | obj (C : Addr) (ns : List Str) (ds : List DV)
  | nd (ks : List Int) (ds : List DV)
  /-- a tuple of texts, its object known; a tuple of anything -/
  | tN (xs : List Str)
  | tp (ds : List DV)
  /-- the instance at x -/
  | me (x C : Addr) (ns : List Str) (ds : List DV)
  /-- a node of nested dicts from ints: A says where the node of a path stands -/
  | tri (A : List Int → Option Addr) (q : List Int)

/-- the written part; what stands for a dict of data keys -/
structure Cf where
  K : PySem.W.Frag
  keyO : Addr → List (Addr × PyData) → HO
  setO : Addr → List (Addr × PyData) → HO
  keyNT : ∀ a L xs, keyO a L ≠ .tup xs

def kvD (m : List (Str × Int)) : List (Key × V) := m.map fun q => (Sum.inr q.1, V.int q.2)

/-- at p stands a tuple of the texts ys, without a dict of its own -/
def TN (H : Hp) (p : Addr) (ys : List Str) : Prop := ∃ o, H p = some (.frz o (.tup (ys.map V.str))) ∧ o.dict = none
theorem TN.sq {K : PySem.W.Frag} {H : Hp} {p : Addr} {ys : List Str} (h : TN H p ys) : SqT K H p (ys.map V.str) := by
  obtain ⟨o, h, _⟩ := h
  exact .inl (.inr ⟨o, h⟩)
/-- nested dicts from ints: A q is where the node of the path q stands -/
def FlatT (H : Hp) (A : List Int → Option Addr) : Prop := ∀ q b, A q = some b → ∃ (ks : List Int) (bs : List Addr), ks.Nodup ∧ (∀ x ∈ ks, 0 ≤ x ∧ x < 10) ∧ ks.length = bs.length ∧ H b = some (.dK ((ks.map Sum.inl).zip (bs.map V.ref))) ∧
  (∀ x, x ∈ ks ↔ (A (q ++ [x])).isSome = true) ∧ ∀ (i : Nat) (x : Int) (b' : Addr), ks[i]? = some x → bs[i]? = some b' → A (q ++ [x]) = some b'
theorem FlatT.mono {H H' : Hp} {A : List Int → Option Addr} (e : Same H H') (h : FlatT H A) : FlatT H' A := fun q b hb => by
  obtain ⟨ks, bs, h1, h2, h3, h4, h5⟩ := h q b hb
  exact ⟨ks, bs, h1, h2, h3, e _ _ h4, h5⟩
mutual
inductive Rv (c : Cf) (H : Hp) : V → DV → Prop
  | p {v : V} {d : PyData} : Dp c.K H v d → Rv c H v (.p d)
  | l {a : Addr} {vs : List V} {ds : List DV} : H a = some (.lst vs) → RvAll c H vs ds → Rv c H (.ref a) (.l ds)
  | dk {a : Addr} {m : List (Str × Int)} : H a = some (.dK (kvD m)) → Rv c H (.ref a) (.dk m)
  | ks {a : Addr} {L : List (Addr × PyData)} : H a = some (c.keyO a L) → (∀ q ∈ L, Dp c.K H (.ref q.1) q.2) → Rv c H (.ref a) (.ks (L.map (·.2)))
  | at_ {a : Addr} : Rv c H (.ref a) (.at_ a)
  | obj {a C dx : Addr} {ns : List Str} {vs : List V} {ds : List DV} : H a = some (.ins C dx (ns.zip vs)) → ns.length = vs.length → RvAll c H vs ds → Rv c H (.ref a) (.obj C ns ds)
  | nd {a : Addr} {ks : List Int} {vs : List V} {ds : List DV} : H a = some (.dK ((ks.map Sum.inl).zip vs)) → ks.length = vs.length → RvAll c H vs ds → Rv c H (.ref a) (.nd ks ds)
  | tN {a : Addr} {xs : List Str} : TN H a xs → Rv c H (.ref a) (.tN xs)
  | tp {a : Addr} {vs : List V} {ds : List DV} : SqT c.K H a vs → RvAll c H vs ds → Rv c H (.ref a) (.tp ds)
  | me {a C dx : Addr} {ns : List Str} {vs : List V} {ds : List DV} : H a = some (.ins C dx (ns.zip vs)) → ns.length = vs.length → RvAll c H vs ds → Rv c H (.ref a) (.me a C ns ds)
  | tri {a : Addr} {A : List Int → Option Addr} {q : List Int} : FlatT H A → A q = some a → Rv c H (.ref a) (.tri A q)
inductive RvAll (c : Cf) (H : Hp) : List V → List DV → Prop
  | nil : RvAll c H [] []
  | cons {v : V} {vs : List V} {d : DV} {ds : List DV} : Rv c H v d → RvAll c H vs ds → RvAll c H (v :: vs) (d :: ds)
end

theorem same_rd {H H' : Hp} {a : Addr} {u : HO} (e : Same H H') (h : Rd H a u) : Rd H' a u := by
  rcases h with h | ⟨o, h⟩
  · exact Or.inl (e a _ h)
  · exact Or.inr ⟨o, e a _ h⟩
theorem same_l {K : PySem.W.Frag} {H H' : Hp} {a : Addr} {xs : List V} (e : Same H H') (h : SqL K H a xs) : SqL K H' a xs := by
  rcases h with h | h
  · exact Or.inl (same_rd e h)
  · exact Or.inr h
theorem same_t {K : PySem.W.Frag} {H H' : Hp} {a : Addr} {xs : List V} (e : Same H H') (h : SqT K H a xs) : SqT K H' a xs := by
  rcases h with h | h
  · exact Or.inl (same_rd e h)
  · exact Or.inr h
mutual
theorem dp_mono {K : PySem.W.Frag} {H H' : Hp} (e : Same H H') : ∀ {v : V} {d : PyData}, Dp K H v d → Dp K H' v d
  | _, _, .non => .non
  | _, _, .bl b => .bl b
  | _, _, .int i => .int i
  | _, _, .str x => .str x
  | _, _, .lst h r => .lst (same_l e h) (dpa_mono e r)
  | _, _, .tup h r => .tup (same_t e h) (dpa_mono e r)
theorem dpa_mono {K : PySem.W.Frag} {H H' : Hp} (e : Same H H') : ∀ {vs : List V} {ds : List PyData}, DpAll K H vs ds → DpAll K H' vs ds
  | _, _, .nil => .nil
  | _, _, .cons h r => .cons (dp_mono e h) (dpa_mono e r)
end
mutual
theorem rv_mono {c : Cf} {H H' : Hp} (e : Same H H') : ∀ {v : V} {d : DV}, Rv c H v d → Rv c H' v d
  | _, _, .p h => .p (dp_mono e h)
  | _, _, .l h r => .l (e _ _ h) (rva_mono e r)
  | _, _, .dk h => .dk (e _ _ h)
  | _, _, .ks h r => .ks (e _ _ h) fun q hq => dp_mono e (r q hq)
  | _, _, .at_ => .at_
  | _, _, .obj h l r => .obj (e _ _ h) l (rva_mono e r)
  | _, _, .nd h l r => .nd (e _ _ h) l (rva_mono e r)
  | _, _, .tN ⟨o, h, d⟩ => .tN ⟨o, e _ _ h, d⟩
  | _, _, .tp h r => .tp (same_t e h) (rva_mono e r)
  | _, _, .me h l r => .me (e _ _ h) l (rva_mono e r)
  | _, _, .tri h q => .tri (h.mono e) q
theorem rva_mono {c : Cf} {H H' : Hp} (e : Same H H') : ∀ {vs : List V} {ds : List DV}, RvAll c H vs ds → RvAll c H' vs ds
  | _, _, .nil => .nil
  | _, _, .cons h r => .cons (rv_mono e h) (rva_mono e r)
end
theorem rv_p {c : Cf} {H : Hp} {v : V} {d : PyData} (h : Rv c H v (.p d)) : Dp c.K H v d := by cases h; assumption
theorem rva_p {c : Cf} {H : Hp} : ∀ {vs : List V} {ds : List PyData}, RvAll c H vs (ds.map .p) → DpAll c.K H vs ds
  | _, [], h => by cases h; exact .nil
  | _, d :: ds, h => by
    have h' : RvAll c H _ (.p d :: ds.map .p) := h
    cases h' with
    | cons h1 h2 => exact .cons (rv_p h1) (rva_p h2)
theorem dpa_rva {c : Cf} {H : Hp} : ∀ {vs : List V} {ds : List PyData}, DpAll c.K H vs ds → RvAll c H vs (ds.map .p)
  | _, _, .nil => .nil
  | _, _, .cons h r => .cons (.p h) (dpa_rva r)
theorem dpa_len {K : PySem.W.Frag} {H : Hp} : ∀ {vs : List V} {ds : List PyData}, DpAll K H vs ds → vs.length = ds.length
  | _, _, .nil => rfl
  | _, _, .cons _ r => congrArg (· + 1) (dpa_len r)
theorem rva_len {c : Cf} {H : Hp} : ∀ {vs : List V} {ds : List DV}, RvAll c H vs ds → vs.length = ds.length
  | _, _, .nil => rfl
  | _, _, .cons _ r => congrArg (· + 1) (rva_len r)
theorem dpa_get {K : PySem.W.Frag} {H : Hp} : ∀ {vs : List V} {ds : List PyData} {i : Nat} {d : PyData}, DpAll K H vs ds → ds[i]? = some d → ∃ v, vs[i]? = some v ∧ Dp K H v d
  | _, _, _, _, .nil, e => by simp at e
  | _, _, 0, _, .cons h _, e => by simp at e; subst e; exact ⟨_, rfl, h⟩
  | _, _, i + 1, _, .cons _ r, e => by
    obtain ⟨v, h1, h2⟩ := dpa_get (i := i) r (by simpa using e)
    exact ⟨v, by simpa using h1, h2⟩
theorem dpa_get' {K : PySem.W.Frag} {H : Hp} : ∀ {vs : List V} {ds : List PyData} {i : Nat} {v : V}, DpAll K H vs ds → vs[i]? = some v → ∃ d, ds[i]? = some d ∧ Dp K H v d
  | _, _, _, _, .nil, e => by simp at e
  | _, _, 0, _, .cons h _, e => by simp at e; subst e; exact ⟨_, rfl, h⟩
  | _, _, i + 1, _, .cons _ r, e => by
    obtain ⟨v, h1, h2⟩ := dpa_get' (i := i) r (by simpa using e)
    exact ⟨v, by simpa using h1, h2⟩
theorem rva_get' {c : Cf} {H : Hp} : ∀ {vs : List V} {ds : List DV} {i : Nat} {v : V}, RvAll c H vs ds → vs[i]? = some v → ∃ d, ds[i]? = some d ∧ Rv c H v d
  | _, _, _, _, .nil, e => by simp at e
  | _, _, 0, _, .cons h _, e => by simp at e; subst e; exact ⟨_, rfl, h⟩
  | _, _, i + 1, _, .cons _ r, e => by
    obtain ⟨v, h1, h2⟩ := rva_get' (i := i) r (by simpa using e)
    exact ⟨v, by simpa using h1, h2⟩
theorem rva_get {c : Cf} {H : Hp} : ∀ {vs : List V} {ds : List DV} {i : Nat} {d : DV}, RvAll c H vs ds → ds[i]? = some d → ∃ v, vs[i]? = some v ∧ Rv c H v d
  | _, _, _, _, .nil, e => by simp at e
  | _, _, 0, _, .cons h _, e => by simp at e; subst e; exact ⟨_, rfl, h⟩
  | _, _, i + 1, _, .cons _ r, e => by
    obtain ⟨v, h1, h2⟩ := rva_get (i := i) r (by simpa using e)
    exact ⟨v, by simpa using h1, h2⟩
theorem dpa_app {K : PySem.W.Frag} {H : Hp} : ∀ {vs ws : List V} {ds es : List PyData}, DpAll K H vs ds → DpAll K H ws es → DpAll K H (vs ++ ws) (ds ++ es)
  | _, _, _, _, .nil, s => s
  | _, _, _, _, .cons h r, s => .cons h (dpa_app r s)
theorem rva_app {c : Cf} {H : Hp} : ∀ {vs ws : List V} {ds es : List DV}, RvAll c H vs ds → RvAll c H ws es → RvAll c H (vs ++ ws) (ds ++ es)
  | _, _, _, _, .nil, s => s
  | _, _, _, _, .cons h r, s => .cons h (rva_app r s)
theorem dpa_take {K : PySem.W.Frag} {H : Hp} : ∀ {vs : List V} {ds : List PyData} (n : Nat), DpAll K H vs ds → DpAll K H (vs.take n) (ds.take n)
  | _, _, 0, _ => .nil
  | _, _, _ + 1, .nil => .nil
  | _, _, n + 1, .cons h r => .cons h (dpa_take n r)
theorem dpa_drop {K : PySem.W.Frag} {H : Hp} : ∀ {vs : List V} {ds : List PyData} (n : Nat), DpAll K H vs ds → DpAll K H (vs.drop n) (ds.drop n)
  | _, _, 0, r => r
  | _, _, _ + 1, .nil => .nil
  | _, _, n + 1, .cons _ r => dpa_drop n r
theorem dpa_set {K : PySem.W.Frag} {H : Hp} {v : V} {d : PyData} (h : Dp K H v d) : ∀ {vs : List V} {ds : List PyData} (n : Nat), DpAll K H vs ds → DpAll K H (vs.set n v) (ds.set n d)
  | _, _, _, .nil => .nil
  | _, _, 0, .cons _ r => .cons h r
  | _, _, n + 1, .cons h0 r => .cons h0 (dpa_set h n r)
theorem dpa_ints {K : PySem.W.Frag} {H : Hp} : ∀ {vs : List V} {ns : List Int}, DpAll K H vs (ns.map .int) → vs = ns.map V.int
  | _, [], h => by cases h; rfl
  | _, n :: ns, h => by
    have h' : DpAll K H _ (.int n :: ns.map .int) := h
    cases h' with
    | cons h1 h2 => cases h1; rw [dpa_ints h2]; rfl
theorem ints_dpa {K : PySem.W.Frag} {H : Hp} : ∀ (ns : List Int), DpAll K H (ns.map V.int) (ns.map .int)
  | [] => .nil
  | n :: ns => .cons (.int n) (ints_dpa ns)
theorem dpa_bools {K : PySem.W.Frag} {H : Hp} : ∀ {vs : List V} {ns : List Bool}, DpAll K H vs (ns.map .bool) → vs = ns.map V.bl
  | _, [], h => by cases h; rfl
  | _, n :: ns, h => by
    have h' : DpAll K H _ (.bool n :: ns.map .bool) := h
    cases h' with
    | cons h1 h2 => cases h1; rw [dpa_bools h2]; rfl
theorem dpa_strs {K : PySem.W.Frag} {H : Hp} : ∀ {vs : List V} {ns : List Str}, DpAll K H vs (ns.map .str) → vs = ns.map V.str
  | _, [], h => by cases h; rfl
  | _, n :: ns, h => by
    have h' : DpAll K H _ (.str n :: ns.map .str) := h
    cases h' with
    | cons h1 h2 => cases h1; rw [dpa_strs h2]; rfl

/-! ### hidden addresses -/
def hid (M : Addr → Bool) (H : Hp) : Hp := fun a => if M a = true then none else H a
theorem hid_get {M : Addr → Bool} {H : Hp} {a : Addr} (h : M a = false) : hid M H a = H a := by unfold hid; rw [h, if_neg Bool.false_ne_true]
theorem hid_some {M : Addr → Bool} {H : Hp} {a : Addr} {o : HO} (h : hid M H a = some o) : M a = false ∧ H a = some o := by
  cases e : M a with
  | false => exact ⟨rfl, by rw [hid_get e] at h; exact h⟩
  | true => unfold hid at h; rw [e, if_pos rfl] at h; cases h
theorem hid_same {M : Addr → Bool} {H : Hp} : Same (hid M H) H := fun _ _ h => (hid_some h).2
theorem hid_less {M M' : Addr → Bool} {H : Hp} (h : ∀ a, M' a = true → M a = true) : Same (hid M H) (hid M' H) := fun a o q => by
  obtain ⟨q1, q2⟩ := hid_some q
  rw [hid_get, q2]
  cases e : M' a with
  | false => rfl
  | true => rw [h a e] at q1; cases q1

/-! ### what else is carried: addresses that may change (g), what holds of them (J) -/
structure Gx where
  g : Addr → Bool
  J : Hp → Prop
  st : ∀ H H', J H → (∀ a o, g a = true → H a = some o → H' a = some o) → J H'
  al : ∀ H a, J H → g a = true → ∃ o, H a = some o
/-- nothing -/
def G0 : Gx := ⟨fun _ => false, fun _ => True, fun _ _ _ _ => trivial, fun _ _ _ h => nomatch h⟩
/-- all but the g stands -/
def Fx (G : Gx) (H H' : Hp) : Prop := ∀ a o, G.g a = false → H a = some o → H' a = some o
theorem Fx.refl {G : Gx} {H : Hp} : Fx G H H := fun _ _ _ h => h
theorem Fx.trans {G : Gx} {H H1 H2 : Hp} (a : Fx G H H1) (b : Fx G H1 H2) : Fx G H H2 := fun x o g h => b x o g (a x o g h)
theorem Fx.of {G : Gx} {H H' : Hp} (h : Same H H') : Fx G H H' := fun a o _ q => h a o q
/-- the heap as it is held: M the hidden addresses -/
structure Hk (G : Gx) (M : Addr → Bool) (H : Hp) : Prop where
  J : G.J H
  al : ∀ a, M a = true → ∃ o, H a = some o
  gm : ∀ a, G.g a = true → M a = true
theorem Hk.fx {G : Gx} {M : Addr → Bool} {H H' : Hp} (k : Hk G M H) (f : Fx G H H') (j : G.J H') : Hk G M H' :=
  ⟨j, fun a h => by
    cases e : G.g a with
    | true => exact G.al H' a j e
    | false => obtain ⟨o, q⟩ := k.al a h; exact ⟨o, f a o e q⟩, k.gm⟩
theorem Hk.hidS {G : Gx} {M : Addr → Bool} {H H' : Hp} (k : Hk G M H) (f : Fx G H H') : Same (hid M H) (hid M H') := fun a o q => by
  obtain ⟨q1, q2⟩ := hid_some q
  rw [hid_get q1]
  refine f a o ?_ q2
  cases e : G.g a with
  | false => rfl
  | true => rw [k.gm a e] at q1; cases q1
theorem Hk.free {G : Gx} {M : Addr → Bool} {H : Hp} (k : Hk G M H) {p : Addr} (h : H p = none) : M p = false := by
  cases e : M p with
  | false => rfl
  | true => obtain ⟨o, q⟩ := k.al p e; rw [h] at q; cases q
theorem same_new {H : Hp} {p : Addr} {o : HO} (h : H p = none) : Same H (upd H p o) := fun a u e => by
  rw [upd_ne (ne_of_none e h)]; exact e
theorem Hk.jnew {G : Gx} {M : Addr → Bool} {H : Hp} (k : Hk G M H) {p : Addr} {o : HO} (h : H p = none) : G.J (upd H p o) := G.st _ _ k.J fun a u _ e => same_new h a u e
/-- M with p -/
def ins (p : Addr) (M : Addr → Bool) : Addr → Bool := fun a => M a || a == p
theorem ins_self {p : Addr} {M : Addr → Bool} : ins p M p = true := by simp [ins]
theorem ins_of {p a : Addr} {M : Addr → Bool} (h : M a = true) : ins p M a = true := by simp [ins, h]
theorem ins_ne {p a : Addr} {M : Addr → Bool} (h : a ≠ p) : ins p M a = M a := by simp [ins, h]
/-- M without p -/
def out (p : Addr) (M : Addr → Bool) : Addr → Bool := fun a => M a && !(a == p)
theorem out_self {p : Addr} {M : Addr → Bool} : out p M p = false := by simp [out]
theorem out_of {p a : Addr} {M : Addr → Bool} (h : out p M a = true) : M a = true := by simp [out] at h; exact h.1
theorem out_ne {p a : Addr} {M : Addr → Bool} (h : a ≠ p) : out p M a = M a := by simp [out, h]

/-- what stands at a hidden address of one's own: its object; what it holds is not hidden -/
def Ow (c : Cf) (M : Addr → Bool) (H : Hp) (a : Addr) : DV → Prop
  | .p (.list ds) => ∃ vs, H a = some (.lst vs) ∧ DpAll c.K (hid M H) vs ds
  | .l ds => ∃ vs, H a = some (.lst vs) ∧ RvAll c (hid M H) vs ds
  | .dk m => H a = some (.dK (kvD m))
  | .ks ks => ∃ L : List (Addr × PyData), H a = some (c.keyO a L) ∧ L.map (·.2) = ks ∧ ∀ q ∈ L, Dp c.K (hid M H) (.ref q.1) q.2
  | .obj C ns ds => ∃ dx vs, H a = some (.ins C dx (ns.zip vs)) ∧ ns.length = vs.length ∧ RvAll c (hid M H) vs ds
  | .me x C ns ds => a = x ∧ ∃ dx vs, H a = some (.ins C dx (ns.zip vs)) ∧ ns.length = vs.length ∧ RvAll c (hid M H) vs ds
  | _ => False
theorem Ow.mono {c : Cf} {M M' : Addr → Bool} {H H' : Hp} {a : Addr} {d : DV} (h : Ow c M H a d) (ha : ∀ o, H a = some o → H' a = some o) (hs : Same (hid M H) (hid M' H')) : Ow c M' H' a d := by
  cases d with
  | p d =>
    cases d with
    | list ds => obtain ⟨vs, h1, h2⟩ := h; exact ⟨vs, ha _ h1, dpa_mono hs h2⟩
    | _ => exact h.elim
  | l ds => obtain ⟨vs, h1, h2⟩ := h; exact ⟨vs, ha _ h1, rva_mono hs h2⟩
  | dk m => exact ha _ h
  | ks ks => obtain ⟨L, h1, h2, h3⟩ := h; exact ⟨L, ha _ h1, h2, fun q hq => dp_mono hs (h3 q hq)⟩
  | at_ a => exact h.elim
  | obj C ns ds => obtain ⟨dx, vs, h1, h2, h3⟩ := h; exact ⟨dx, vs, ha _ h1, h2, rva_mono hs h3⟩
  | me x C ns ds => obtain ⟨e, dx, vs, h1, h2, h3⟩ := h; exact ⟨e, dx, vs, ha _ h1, h2, rva_mono hs h3⟩
  | nd ks ds => exact h.elim
  | tN xs => exact h.elim
  | tp ds => exact h.elim
  | tri A q => exact h.elim
/-- it may be let go of: then it is plain data -/
theorem Ow.rv {c : Cf} {M M' : Addr → Bool} {H : Hp} {a : Addr} {d : DV} (h : Ow c M H a d) (hM : ∀ b, M' b = true → M b = true) (ha : M' a = false) : Rv c (hid M' H) (.ref a) d := by
  have hs : Same (hid M H) (hid M' H) := hid_less hM
  cases d with
  | p d =>
    cases d with
    | list ds => obtain ⟨vs, h1, h2⟩ := h; exact .p (.lst (SqL.of (by rw [hid_get ha]; exact h1)) (dpa_mono hs h2))
    | _ => exact h.elim
  | l ds => obtain ⟨vs, h1, h2⟩ := h; exact .l (by rw [hid_get ha]; exact h1) (rva_mono hs h2)
  | dk m => exact .dk (by rw [hid_get ha]; exact h)
  | ks ks =>
    obtain ⟨L, h1, h2, h3⟩ := h
    subst h2
    exact .ks (by rw [hid_get ha]; exact h1) fun q hq => dp_mono hs (h3 q hq)
  | at_ a => exact h.elim
  | obj C ns ds => obtain ⟨dx, vs, h1, h2, h3⟩ := h; exact .obj (by rw [hid_get ha]; exact h1) h2 (rva_mono hs h3)
  | me x C ns ds => obtain ⟨rfl, dx, vs, h1, h2, h3⟩ := h; exact .me (by rw [hid_get ha]; exact h1) h2 (rva_mono hs h3)
  | nd ks ds => exact h.elim
  | tN xs => exact h.elim
  | tp ds => exact h.elim
  | tri A q => exact h.elim
theorem Ow.full {c : Cf} {M : Addr → Bool} {H : Hp} {a : Addr} {d : DV} (h : Ow c M H a d) : Rv c H (.ref a) d := by
  have e : hid (fun _ => false) H = H := funext fun b => hid_get rfl
  have q := h.rv (M' := fun _ => false) (fun b hb => nomatch hb) rfl
  rw [e] at q
  exact q

/-- a slot: nothing known; data; a thing of one's own, that may be changed -/
inductive Slot where
  | no
  | fz (d : DV)
  | ow (d : DV)
abbrev Rho := List Slot

structure EnvM (c : Cf) (G : Gx) (m0 M : Addr → Bool) (H : Hp) (σ : L2.St) (ρ : Rho) : Prop where
  k : Hk G M H
  gm : ∀ a, G.g a = true → m0 a = true
  sub : ∀ a, m0 a = true → M a = true
  len : σ.length = ρ.length
  fz : ∀ (i : Nat) (d : DV), ρ[i]? = some (Slot.fz d) → ∃ v, σ[i]? = some (some v) ∧ Rv c (hid M H) v d
  ow : ∀ (i : Nat) (d : DV), ρ[i]? = some (Slot.ow d) → ∃ a, σ[i]? = some (some (.ref a)) ∧ M a = true ∧ m0 a = false ∧ Ow c M H a d
  sep : ∀ (i j : Nat) (d e : DV) (a : Addr), ρ[i]? = some (.ow d) → ρ[j]? = some (.ow e) → σ[i]? = some (some (.ref a)) → σ[j]? = some (some (.ref a)) → i = j
theorem EnvM.fx {c : Cf} {G : Gx} {m0 M : Addr → Bool} {H H' : Hp} {σ : L2.St} {ρ : Rho} (E : EnvM c G m0 M H σ ρ) (f : Fx G H H') (j : G.J H') : EnvM c G m0 M H' σ ρ where
  k := E.k.fx f j
  gm := E.gm
  sub := E.sub
  len := E.len
  fz := fun i d e => by
    obtain ⟨v, h1, h2⟩ := E.fz i d e
    exact ⟨v, h1, rv_mono (E.k.hidS f) h2⟩
  ow := fun i d e => by
    obtain ⟨a, h1, h2, h3, h4⟩ := E.ow i d e
    refine ⟨a, h1, h2, h3, h4.mono (fun o q => f a o ?_ q) (E.k.hidS f)⟩
    cases e : G.g a with
    | false => rfl
    | true => rw [E.gm a e] at h3; cases h3
  sep := E.sep

/-- a value that is seen: plain data, or a thing of one's own -/
def Rs (c : Cf) (G : Gx) (M : Addr → Bool) (H : Hp) (v : V) (d : DV) : Prop := Rv c (hid M H) v d ∨ ∃ a, v = .ref a ∧ M a = true ∧ G.g a = false ∧ Ow c M H a d
theorem Rs.full {c : Cf} {G : Gx} {M : Addr → Bool} {H : Hp} {v : V} {d : DV} (h : Rs c G M H v d) : Rv c H v d := by
  rcases h with h | ⟨a, rfl, _, _, h⟩
  · exact rv_mono hid_same h
  · exact h.full
theorem Rs.dp {c : Cf} {G : Gx} {M : Addr → Bool} {H : Hp} {v : V} {d : PyData} (h : Rs c G M H v (.p d)) : Dp c.K H v d := rv_p h.full
theorem Rs.fx {c : Cf} {G : Gx} {M : Addr → Bool} {H H' : Hp} {v : V} {d : DV} (h : Rs c G M H v d) (k : Hk G M H) (f : Fx G H H') : Rs c G M H' v d := by
  rcases h with h | ⟨a, rfl, hm, hg, h⟩
  · exact .inl (rv_mono (k.hidS f) h)
  · exact .inr ⟨a, rfl, hm, hg, h.mono (fun o q => f a o hg q) (k.hidS f)⟩
/-- a list that is seen: its items are not hidden -/
theorem Rs.lst {c : Cf} {G : Gx} {M : Addr → Bool} {H : Hp} {v : V} {ds : List PyData} (h : Rs c G M H v (.p (.list ds))) : ∃ a vs, v = .ref a ∧ SqL c.K H a vs ∧ DpAll c.K (hid M H) vs ds := by
  rcases h with h | ⟨a, rfl, _, _, vs, h1, h2⟩
  · have h := rv_p h
    cases h with
    | lst h1 h2 => exact ⟨_, _, rfl, same_l hid_same h1, h2⟩
  · exact ⟨a, vs, rfl, SqL.of h1, h2⟩
theorem Rs.tup {c : Cf} {G : Gx} {M : Addr → Bool} {H : Hp} {v : V} {ds : List PyData} (h : Rs c G M H v (.p (.tuple ds))) : ∃ a vs, v = .ref a ∧ SqT c.K H a vs ∧ DpAll c.K (hid M H) vs ds := by
  rcases h with h | ⟨a, rfl, _, _, h⟩
  · have h := rv_p h
    cases h with
    | tup h1 h2 => exact ⟨_, _, rfl, same_t hid_same h1, h2⟩
  · exact h.elim
theorem Rs.int {c : Cf} {G : Gx} {M : Addr → Bool} {H : Hp} {v : V} {i : Int} (h : Rs c G M H v (.p (.int i))) : v = .int i := by have h := h.dp; cases h; rfl
theorem Rs.bl {c : Cf} {G : Gx} {M : Addr → Bool} {H : Hp} {v : V} {i : Bool} (h : Rs c G M H v (.p (.bool i))) : v = .bl i := by have h := h.dp; cases h; rfl
theorem Rs.str {c : Cf} {G : Gx} {M : Addr → Bool} {H : Hp} {v : V} {i : Str} (h : Rs c G M H v (.p (.str i))) : v = .str i := by have h := h.dp; cases h; rfl
theorem Rs.non {c : Cf} {G : Gx} {M : Addr → Bool} {H : Hp} {v : V} (h : Rs c G M H v (.p .none)) : v = .non := by have h := h.dp; cases h; rfl
theorem Rs.dk {c : Cf} {G : Gx} {M : Addr → Bool} {H : Hp} {v : V} {m : List (Str × Int)} (h : Rs c G M H v (.dk m)) : ∃ a, v = .ref a ∧ H a = some (.dK (kvD m)) := by
  have h := h.full; cases h; exact ⟨_, rfl, by assumption⟩
theorem Rs.ll {c : Cf} {G : Gx} {M : Addr → Bool} {H : Hp} {v : V} {ds : List DV} (h : Rs c G M H v (.l ds)) : ∃ a vs, v = .ref a ∧ H a = some (.lst vs) ∧ RvAll c (hid M H) vs ds := by
  rcases h with h | ⟨a, rfl, _, _, vs, h1, h2⟩
  · cases h with
    | l h1 h2 => exact ⟨_, _, rfl, hid_same _ _ h1, h2⟩
  · exact ⟨a, vs, rfl, h1, h2⟩
theorem Rs.kss {c : Cf} {G : Gx} {M : Addr → Bool} {H : Hp} {v : V} {ks : List PyData} (h : Rs c G M H v (.ks ks)) : ∃ a L, v = .ref a ∧ H a = some (c.keyO a L) ∧ L.map (·.2) = ks ∧ ∀ q ∈ L, Dp c.K (hid M H) (.ref q.1) q.2 := by
  rcases h with h | ⟨a, rfl, _, _, L, h1, h2, h3⟩
  · cases h with
    | ks h1 h2 => exact ⟨_, _, rfl, hid_same _ _ h1, rfl, h2⟩
  · exact ⟨a, L, rfl, h1, h2, h3⟩
theorem Rs.ob {c : Cf} {G : Gx} {M : Addr → Bool} {H : Hp} {v : V} {C : Addr} {ns : List Str} {ds : List DV} (h : Rs c G M H v (.obj C ns ds)) : ∃ a dx vs, v = .ref a ∧ H a = some (.ins C dx (ns.zip vs)) ∧ ns.length = vs.length ∧ RvAll c (hid M H) vs ds := by
  rcases h with h | ⟨a, rfl, _, _, dx, vs, h1, h2, h3⟩
  · cases h with
    | obj h1 h2 h3 => exact ⟨_, _, _, rfl, hid_same _ _ h1, h2, h3⟩
  · exact ⟨a, dx, vs, rfl, h1, h2, h3⟩
theorem Rs.mine {c : Cf} {G : Gx} {M : Addr → Bool} {H : Hp} {v : V} {x C : Addr} {ns : List Str} {ds : List DV} (h : Rs c G M H v (.me x C ns ds)) : ∃ dx vs, v = .ref x ∧ H x = some (.ins C dx (ns.zip vs)) ∧ ns.length = vs.length ∧ RvAll c (hid M H) vs ds := by
  rcases h with h | ⟨a, rfl, _, _, rfl, dx, vs, h1, h2, h3⟩
  · cases h with
    | me h1 h2 h3 => exact ⟨_, _, rfl, hid_same _ _ h1, h2, h3⟩
  · exact ⟨dx, vs, rfl, h1, h2, h3⟩
theorem Rs.tri {c : Cf} {G : Gx} {M : Addr → Bool} {H : Hp} {v : V} {A : List Int → Option Addr} {q : List Int} (h : Rs c G M H v (.tri A q)) : ∃ a, v = .ref a ∧ FlatT (hid M H) A ∧ A q = some a := by
  rcases h with h | ⟨a, rfl, _, _, h⟩
  · cases h with
    | tri h1 h2 => exact ⟨_, rfl, h1, h2⟩
  · exact h.elim
theorem Rs.nd {c : Cf} {G : Gx} {M : Addr → Bool} {H : Hp} {v : V} {ks : List Int} {ds : List DV} (h : Rs c G M H v (.nd ks ds)) : ∃ a vs, v = .ref a ∧ H a = some (.dK ((ks.map Sum.inl).zip vs)) ∧ ks.length = vs.length ∧ RvAll c (hid M H) vs ds := by
  rcases h with h | ⟨a, rfl, _, _, h⟩
  · cases h with
    | nd h1 h2 h3 => exact ⟨_, _, rfl, hid_same _ _ h1, h2, h3⟩
  · exact h.elim

/-! ### what a reading evaluates to -/
section
variable (c : Cf) (G : Gx)
def Ev (te : TE) (ρ : Rho) (P : DV → Prop) : Prop := ∀ m0 M H σ, EnvM c G m0 M H σ ρ → ∀ Q : VK, (∀ v H' d, Fx G H H' → G.J H' → Rv c (hid M H') v d → P d → Q v H') → te σ H Q
def EvS (te : TE) (ρ : Rho) (P : DV → Prop) : Prop := ∀ m0 M H σ, EnvM c G m0 M H σ ρ → ∀ Q : VK, (∀ v H' d, Fx G H H' → G.J H' → Rs c G M H' v d → P d → Q v H') → te σ H Q
/-- a new thing -/
def EvN (te : TE) (ρ : Rho) (P : DV → Prop) : Prop := ∀ m0 M H σ, EnvM c G m0 M H σ ρ → ∀ Q : VK, (∀ p H' d, H p = none → Fx G H H' → G.J H' → Ow c (ins p M) H' p d → P d → Q (.ref p) H') → te σ H Q
def EvT (tt : TT) (ρ : Rho) (P : Bool → Prop) : Prop := ∀ m0 M H σ, EnvM c G m0 M H σ ρ → ∀ Q : Bool → Hp → Prop, (∀ b H', Fx G H H' → G.J H' → P b → Q b H') → tt σ H Q
def EvA (ta : TA) (ρ : Rho) (P : List DV → Prop) : Prop := ∀ m0 M H σ, EnvM c G m0 M H σ ρ → ∀ Q : List V → Hp → Prop, (∀ vs H' ds, Fx G H H' → G.J H' → RvAll c (hid M H') vs ds → P ds → Q vs H') → ta σ H Q
/-- plain data, told -/
abbrev Ed (te : TE) (ρ : Rho) (d : PyData) : Prop := Ev c G te ρ (· = .p d)
abbrev Es (te : TE) (ρ : Rho) (d : PyData) : Prop := EvS c G te ρ (· = .p d)
abbrev En (te : TE) (ρ : Rho) (d : PyData) : Prop := EvN c G te ρ (· = .p d)
abbrev Et (tt : TT) (ρ : Rho) (b : Bool) : Prop := EvT c G tt ρ (· = b)
abbrev Ea (ta : TA) (ρ : Rho) (ds : List PyData) : Prop := EvA c G ta ρ (· = ds.map .p)
/-- an operation on two values -/
def OpD (r : R2) (x y : DV) (P : DV → Prop) : Prop := ∀ M H u v, Hk G M H → Rs c G M H u x → Rs c G M H v y → ∀ Q : VK, (∀ z H' d, Fx G H H' → G.J H' → Rv c (hid M H') z d → P d → Q z H') → r u v H Q
def OpN (r : R2) (x y : DV) (P : DV → Prop) : Prop := ∀ M H u v, Hk G M H → Rs c G M H u x → Rs c G M H v y → ∀ Q : VK, (∀ p H' d, H p = none → Fx G H H' → G.J H' → Ow c (ins p M) H' p d → P d → Q (.ref p) H') → r u v H Q
/-- a call on one value -/
def CbD (r : List V → Hp → VK → Prop) (x : DV) (P : DV → Prop) : Prop := ∀ M H u, Hk G M H → Rs c G M H u x → ∀ Q : VK, (∀ z H' d, Fx G H H' → G.J H' → Rv c (hid M H') z d → P d → Q z H') → r [u] H Q
def CbN (r : List V → Hp → VK → Prop) (x : DV) (P : DV → Prop) : Prop := ∀ M H u, Hk G M H → Rs c G M H u x → ∀ Q : VK, (∀ p H' d, H p = none → Fx G H H' → G.J H' → Ow c (ins p M) H' p d → P d → Q (.ref p) H') → r [u] H Q
end
section
variable {c : Cf} {G : Gx} {te ta tb : TE} {ρ : Rho} {P P1 P2 : DV → Prop} {r : R2}
theorem Ev.s (h : Ev c G te ρ P) : EvS c G te ρ P := fun m0 M H σ E Q q => h m0 M H σ E Q fun v H' d f j r hp => q v H' d f j (.inl r) hp
theorem Ev.imp (h : Ev c G te ρ P) (i : ∀ d, P d → P1 d) : Ev c G te ρ P1 := fun m0 M H σ E Q q => h m0 M H σ E Q fun v H' d f j r hp => q v H' d f j r (i d hp)
theorem EvS.imp (h : EvS c G te ρ P) (i : ∀ d, P d → P1 d) : EvS c G te ρ P1 := fun m0 M H σ E Q q => h m0 M H σ E Q fun v H' d f j r hp => q v H' d f j r (i d hp)
theorem EvN.imp (h : EvN c G te ρ P) (i : ∀ d, P d → P1 d) : EvN c G te ρ P1 := fun m0 M H σ E Q q => h m0 M H σ E Q fun v H' d n f j r hp => q v H' d n f j r (i d hp)
theorem Ed.is {d e : PyData} (h : Ed c G te ρ d) (x : d = e) : Ed c G te ρ e := by rw [← x]; exact h
theorem Es.is {d e : PyData} (h : Es c G te ρ d) (x : d = e) : Es c G te ρ e := by rw [← x]; exact h
theorem En.is {d e : PyData} (h : En c G te ρ d) (x : d = e) : En c G te ρ e := by rw [← x]; exact h
theorem Et.is {tt : TT} {d e : Bool} (h : Et c G tt ρ d) (x : d = e) : Et c G tt ρ e := by rw [← x]; exact h
theorem ins_less {p : Addr} {M : Addr → Bool} : ∀ b, M b = true → ins p M b = true := fun b h => ins_of h
/-- a new thing, let go of at once -/
theorem EvN.e (h : EvN c G te ρ P) : Ev c G te ρ P := fun m0 M H σ E Q q => h m0 M H σ E Q fun p H' d n f j o hp => q (.ref p) H' d f j (o.rv ins_less (E.k.free n)) hp
theorem EvN.s (h : EvN c G te ρ P) : EvS c G te ρ P := h.e.s
theorem ev_var {i : Nat} {d : DV} (h : ρ[i]? = some (.fz d)) : Ev c G (tVar i) ρ (· = d) := fun m0 M H σ E Q q => by
  obtain ⟨v, h1, h2⟩ := E.fz i d h
  exact ⟨v, h1, q v H d Fx.refl E.k.J h2 rfl⟩
theorem evs_own {i : Nat} {d : DV} (h : ρ[i]? = some (.ow d)) : EvS c G (tVar i) ρ (· = d) := fun m0 M H σ E Q q => by
  obtain ⟨a, h1, h2, h3, h4⟩ := E.ow i d h
  refine ⟨.ref a, h1, q _ H d Fx.refl E.k.J (.inr ⟨a, rfl, h2, ?_, h4⟩) rfl⟩
  cases e : G.g a with
  | false => rfl
  | true => rw [E.gm a e] at h3; cases h3
theorem ed_int {i : Int} : Ed c G (tC (.int i)) ρ (.int i) := fun m0 M H σ E Q q => q _ H _ Fx.refl E.k.J (.p (.int i)) rfl
theorem ed_bool {b : Bool} : Ed c G (tC (.bl b)) ρ (.bool b) := fun m0 M H σ E Q q => q _ H _ Fx.refl E.k.J (.p (.bl b)) rfl
theorem ed_str {x : Str} : Ed c G (tC (.str x)) ρ (.str x) := fun m0 M H σ E Q q => q _ H _ Fx.refl E.k.J (.p (.str x)) rfl
theorem ed_none : Ed c G (tC .non) ρ .none := fun m0 M H σ E Q q => q _ H _ Fx.refl E.k.J (.p .non) rfl
/-- an operation -/
theorem ev_op (ha : EvS c G ta ρ P1) (hb : EvS c G tb ρ P2) (hr : ∀ x y, P1 x → P2 y → OpD c G r x y P) : Ev c G (tOp r ta tb) ρ P := fun m0 M H σ E Q q =>
  ha m0 M H σ E _ fun v H1 x f1 j1 r1 p1 => hb m0 M H1 σ (E.fx f1 j1) _ fun u H2 y f2 j2 r2 p2 =>
    hr x y p1 p2 M H2 v u ((E.k.fx f1 j1).fx f2 j2) (r1.fx (E.k.fx f1 j1) f2) r2 Q fun z H3 d f3 j3 r3 p3 => q z H3 d ((f1.trans f2).trans f3) j3 r3 p3
theorem evn_op (ha : EvS c G ta ρ P1) (hb : EvS c G tb ρ P2) (hr : ∀ x y, P1 x → P2 y → OpN c G r x y P) : EvN c G (tOp r ta tb) ρ P := fun m0 M H σ E Q q =>
  ha m0 M H σ E _ fun v H1 x f1 j1 r1 p1 => hb m0 M H1 σ (E.fx f1 j1) _ fun u H2 y f2 j2 r2 p2 =>
    hr x y p1 p2 M H2 v u ((E.k.fx f1 j1).fx f2 j2) (r1.fx (E.k.fx f1 j1) f2) r2 Q fun p H3 d n f3 j3 r3 p3 => q p H3 d (by
      cases e : H p with
      | none => rfl
      | some o =>
        cases eg : G.g p with
        | false => rw [f2 p o eg (f1 p o eg e)] at n; cases n
        | true => obtain ⟨o', e'⟩ := G.al H2 p j2 eg; rw [n] at e'; cases e') ((f1.trans f2).trans f3) j3 r3 p3
theorem ed_op {x y : DV} {z : PyData} (ha : EvS c G ta ρ (· = x)) (hb : EvS c G tb ρ (· = y)) (hr : OpD c G r x y (· = .p z)) : Ed c G (tOp r ta tb) ρ z :=
  ev_op ha hb fun _ _ e1 e2 => by subst e1; subst e2; exact hr
theorem en_op {x y : DV} {z : PyData} (ha : EvS c G ta ρ (· = x)) (hb : EvS c G tb ρ (· = y)) (hr : OpN c G r x y (· = .p z)) : En c G (tOp r ta tb) ρ z :=
  evn_op ha hb fun _ _ e1 e2 => by subst e1; subst e2; exact hr
/-! arguments, displays -/
theorem ea_nil : Ea c G tNil ρ [] := fun m0 M H σ E Q q => q [] H _ Fx.refl E.k.J .nil rfl
theorem ea_cons {tr : TA} {d : PyData} {ds : List PyData} (h : Ed c G ta ρ d) (hr : Ea c G tr ρ ds) : Ea c G (tCons ta tr) ρ (d :: ds) := fun m0 M H σ E Q q =>
  h m0 M H σ E _ fun v H1 x f1 j1 r1 p1 => hr m0 M H1 σ (E.fx f1 j1) _ fun vs H2 ys f2 j2 r2 p2 => by
    subst p1; subst p2
    exact q _ H2 _ (f1.trans f2) j2 (.cons (rv_mono ((E.k.fx f1 j1).hidS f2) r1) r2) rfl
theorem eva_nil : EvA c G tNil ρ (· = []) := fun m0 M H σ E Q q => q [] H _ Fx.refl E.k.J .nil rfl
theorem eva_cons {tr : TA} {PA : List DV → Prop} (h : Ev c G ta ρ P) (hr : EvA c G tr ρ PA) : EvA c G (tCons ta tr) ρ (fun l => ∃ d ds, l = d :: ds ∧ P d ∧ PA ds) := fun m0 M H σ E Q q =>
  h m0 M H σ E _ fun v H1 x f1 j1 r1 p1 => hr m0 M H1 σ (E.fx f1 j1) _ fun vs H2 ys f2 j2 r2 p2 =>
    q _ H2 _ (f1.trans f2) j2 (.cons (rv_mono ((E.k.fx f1 j1).hidS f2) r1) r2) ⟨x, ys, rfl, p1, p2⟩
theorem eva_imp {t : TA} {PA PB : List DV → Prop} (h : EvA c G t ρ PA) (i : ∀ d, PA d → PB d) : EvA c G t ρ PB := fun m0 M H σ E Q q => h m0 M H σ E Q fun v H' d f j r hp => q v H' d f j r (i d hp)
theorem eva_cons1 {tr : TA} {d : DV} {ds : List DV} (h : Ev c G ta ρ (· = d)) (hr : EvA c G tr ρ (· = ds)) : EvA c G (tCons ta tr) ρ (· = d :: ds) :=
  eva_imp (eva_cons h hr) fun l ⟨x, ys, e, e1, e2⟩ => by rw [e, e1, e2]
/-- a tuple is made; where it may not be hidden -/
theorem free_of {M : Addr → Bool} {H H' : Hp} (k : Hk G M H) (f : Fx G H H') {p : Addr} (n : H' p = none) (j : G.J H') : H p = none := by
  cases e : H p with
  | none => rfl
  | some o =>
    cases eg : G.g p with
    | false => rw [f p o eg e] at n; cases n
    | true => obtain ⟨o', e'⟩ := G.al H' p j eg; rw [n] at e'; cases e'
theorem rv_newT {M : Addr → Bool} {H : Hp} {p : Addr} {vs : List V} {ds : List PyData} (k : Hk G M H) (n : H p = none) (h : DpAll c.K (hid M H) vs ds) : Rv c (hid M (upd H p (.tup vs))) (.ref p) (.p (.tuple ds)) :=
  .p (.tup (SqT.of (by rw [hid_get (k.free n)]; exact upd_same)) (dpa_mono (k.hidS (Fx.of (same_new n))) h))
theorem ev_tup {t : TA} {PA : List DV → Prop} (h : EvA c G t ρ PA) (hl : ∀ l, PA l → l.length ≤ sizeLine ∧ ∃ ds, l = ds.map .p ∧ P (.p (.tuple ds))) : Ev c G (tTup t) ρ P := fun m0 M H σ E Q q =>
  h m0 M H σ E _ fun vs H1 xs f1 j1 r1 p1 => by
    obtain ⟨z, ds, e, hp⟩ := hl xs p1
    subst e
    refine ⟨by rw [rva_len r1]; exact z, fun p n => ?_⟩
    have k1 := E.k.fx f1 j1
    exact q _ _ _ (f1.trans (Fx.of (same_new n))) (k1.jnew n) (rv_newT k1 n (rva_p r1)) hp
theorem ed_tup {t : TA} {ds : List PyData} (h : Ea c G t ρ ds) (hl : ds.length ≤ sizeLine := by first | decide | (rw [PySem.sizeLine_eq]; exact Nat.le_of_ble_eq_true rfl)) : Ed c G (tTup t) ρ (.tuple ds) :=
  ev_tup h fun l e => by subst e; exact ⟨by rw [List.length_map]; exact hl, ds, rfl, rfl⟩
theorem ow_newL {M : Addr → Bool} {H : Hp} {p : Addr} {vs : List V} {ds : List PyData} (k : Hk G M H) (n : H p = none) (h : DpAll c.K (hid M H) vs ds) : Ow c (ins p M) (upd H p (.lst vs)) p (.p (.list ds)) :=
  ⟨vs, upd_same, dpa_mono (fun a o e => by
    obtain ⟨e1, e2⟩ := hid_some e
    have hne : a ≠ p := ne_of_none e2 n
    rw [hid_get (by rw [ins_ne hne]; exact e1), upd_ne hne]; exact e2) h⟩
theorem en_lst {t : TA} {ds : List PyData} (h : Ea c G t ρ ds) (hl : ds.length ≤ sizeLine := by first | decide | (rw [PySem.sizeLine_eq]; exact Nat.le_of_ble_eq_true rfl)) : En c G (tLst t) ρ (.list ds) := fun m0 M H σ E Q q =>
  h m0 M H σ E _ fun vs H1 xs f1 j1 r1 p1 => by
    subst p1
    refine ⟨by rw [rva_len r1, List.length_map]; exact hl, fun p n => ?_⟩
    have k1 := E.k.fx f1 j1
    exact q p _ _ (free_of E.k f1 n j1) (f1.trans (Fx.of (same_new n))) (k1.jnew n) (ow_newL k1 n (rva_p r1)) rfl
/-! tests -/
theorem et_test {b : Bool} (h : Es c G te ρ (.bool b)) : Et c G (tTest te) ρ b := fun m0 M H σ E Q q => h m0 M H σ E _ fun v H1 d f j r e => by
  subst e
  exact ⟨b, r.bl, q b H1 f j rfl⟩
theorem et_B {b : Bool} (h : Es c G te ρ (.bool b)) : Et c G (tB te) ρ b := et_test (te := te) h
theorem evt_test {PB : Bool → Prop} (h : EvS c G te ρ (fun d => ∃ b, d = .p (.bool b) ∧ PB b)) : EvT c G (tTest te) ρ PB := fun m0 M H σ E Q q => h m0 M H σ E _ fun v H1 d f j r ⟨b, e, hb⟩ => by
  subst e
  exact ⟨b, r.bl, q b H1 f j hb⟩
theorem et_and {t u : TT} {a b : Bool} (h1 : Et c G t ρ a) (h2 : a = true → Et c G u ρ b) : Et c G (tAnd t u) ρ (a && b) := fun m0 M H σ E Q q => h1 m0 M H σ E _ fun k H1 f j e => by
  subst e
  cases k with
  | true => exact h2 rfl m0 M H1 σ (E.fx f j) Q fun b' H2 f2 j2 e2 => q _ H2 (f.trans f2) j2 (by rw [e2]; rfl)
  | false => exact q _ H1 f j rfl
theorem et_or {t u : TT} {a b : Bool} (h1 : Et c G t ρ a) (h2 : a = false → Et c G u ρ b) : Et c G (tOr t u) ρ (a || b) := fun m0 M H σ E Q q => h1 m0 M H σ E _ fun k H1 f j e => by
  subst e
  cases k with
  | true => exact q _ H1 f j rfl
  | false => exact h2 rfl m0 M H1 σ (E.fx f j) Q fun b' H2 f2 j2 e2 => q _ H2 (f.trans f2) j2 (by rw [e2]; rfl)
theorem et_not {t : TT} {a : Bool} (h1 : Et c G t ρ a) : Et c G (tNot t) ρ (!a) := fun m0 M H σ E Q q => h1 m0 M H σ E _ fun k H1 f j e => q _ H1 f j (by rw [e])
theorem evt_and {t u : TT} {PA PB : Bool → Prop} (h1 : EvT c G t ρ PA) (h2 : PA true → EvT c G u ρ PB) : EvT c G (tAnd t u) ρ (fun b => (PA true ∧ PB b) ∨ (PA false ∧ b = false)) := fun m0 M H σ E Q q => h1 m0 M H σ E _ fun k H1 f j e => by
  cases k with
  | true => exact h2 e m0 M H1 σ (E.fx f j) Q fun b' H2 f2 j2 e2 => q _ H2 (f.trans f2) j2 (.inl ⟨e, e2⟩)
  | false => exact q _ H1 f j (.inr ⟨e, rfl⟩)
theorem ed_andV {a b : Bool} (h1 : Es c G ta ρ (.bool a)) (h2 : a = true → Ed c G tb ρ (.bool b)) : Ed c G (tAndV ta tb) ρ (.bool (a && b)) := fun m0 M H σ E Q q => h1 m0 M H σ E _ fun v H1 d f j r e => by
  subst e
  refine ⟨a, r.bl, ?_⟩
  cases a with
  | true => exact h2 rfl m0 M H1 σ (E.fx f j) Q fun v2 H2 d2 f2 j2 r2 e2 => q _ H2 _ (f.trans f2) j2 r2 e2
  | false => exact q _ H1 _ f j (.p (.bl false)) rfl
theorem ed_orV {a b : Bool} (h1 : Es c G ta ρ (.bool a)) (h2 : a = false → Ed c G tb ρ (.bool b)) : Ed c G (tOrV ta tb) ρ (.bool (a || b)) := fun m0 M H σ E Q q => h1 m0 M H σ E _ fun v H1 d f j r e => by
  subst e
  refine ⟨a, r.bl, ?_⟩
  cases a with
  | true => exact q _ H1 _ f j (.p (.bl true)) rfl
  | false => exact h2 rfl m0 M H1 σ (E.fx f j) Q fun v2 H2 d2 f2 j2 r2 e2 => q _ H2 _ (f.trans f2) j2 r2 e2
theorem ed_notV {a : Bool} (h1 : Es c G ta ρ (.bool a)) : Ed c G (tNotV ta) ρ (.bool (!a)) := fun m0 M H σ E Q q => h1 m0 M H σ E _ fun v H1 d f j r e => by
  subst e
  exact ⟨a, r.bl, q _ H1 _ f j (.p (.bl _)) rfl⟩
theorem ev_if {t : TT} {b : Bool} (h : Et c G t ρ b) (h1 : b = true → Ev c G ta ρ P) (h2 : b = false → Ev c G tb ρ P) : Ev c G (tIf t ta tb) ρ P := fun m0 M H σ E Q q => h m0 M H σ E _ fun k H1 f j e => by
  subst e
  cases k with
  | true => exact h1 rfl m0 M H1 σ (E.fx f j) Q fun v2 H2 d2 f2 j2 r2 e2 => q _ H2 _ (f.trans f2) j2 r2 e2
  | false => exact h2 rfl m0 M H1 σ (E.fx f j) Q fun v2 H2 d2 f2 j2 r2 e2 => q _ H2 _ (f.trans f2) j2 r2 e2
/-! calls of one value -/
theorem ev_cb1 {rc : List V → Hp → VK → Prop} (ha : EvS c G ta ρ P1) (hr : ∀ x, P1 x → CbD c G rc x P) : Ev c G (tCB rc (tCons ta tNil)) ρ P := fun m0 M H σ E Q q =>
  ha m0 M H σ E _ fun v H1 x f1 j1 r1 p1 => hr x p1 M H1 v (E.k.fx f1 j1) r1 Q fun z H3 d f3 j3 r3 p3 => q z H3 d (f1.trans f3) j3 r3 p3
theorem evn_cb1 {rc : List V → Hp → VK → Prop} (ha : EvS c G ta ρ P1) (hr : ∀ x, P1 x → CbN c G rc x P) : EvN c G (tCB rc (tCons ta tNil)) ρ P := fun m0 M H σ E Q q =>
  ha m0 M H σ E _ fun v H1 x f1 j1 r1 p1 => hr x p1 M H1 v (E.k.fx f1 j1) r1 Q fun z H3 d n f3 j3 r3 p3 => q z H3 d (free_of E.k f1 n j1) (f1.trans f3) j3 r3 p3
theorem ed_cb1 {rc : List V → Hp → VK → Prop} {x : DV} {z : PyData} (ha : EvS c G ta ρ (· = x)) (hr : CbD c G rc x (· = .p z)) : Ed c G (tCB rc (tCons ta tNil)) ρ z := ev_cb1 ha fun _ e => by subst e; exact hr
theorem en_cb1 {rc : List V → Hp → VK → Prop} {x : DV} {z : PyData} (ha : EvS c G ta ρ (· = x)) (hr : CbN c G rc x (· = .p z)) : En c G (tCB rc (tCons ta tNil)) ρ z := evn_cb1 ha fun _ e => by subst e; exact hr
end
end JQ

-- part Pb
set_option Elab.async false
set_option linter.all false
set_option maxRecDepth 100000
set_option maxHeartbeats 2000000
/-! Statements over the plain layer. -/
namespace JQ
open PySem PySem.Spec PyProof.Rows L2
section
variable {c : Cf} {G : Gx} {m0 M : Addr → Bool} {H : Hp} {σ : L2.St} {ρ : Rho}
theorem set_get {α : Type} {l : List α} {i j : Nat} {x y : α} (h : (l.set i x)[j]? = some y) : (j = i ∧ i < l.length ∧ y = x) ∨ (j ≠ i ∧ l[j]? = some y) := by
  by_cases e : j = i
  · subst e
    by_cases hl : j < l.length
    · rw [List.getElem?_set_self hl] at h; exact .inl ⟨rfl, hl, (Option.some.inj h).symm⟩
    · rw [List.getElem?_eq_none (by simpa using hl)] at h; cases h
  · rw [List.getElem?_set_ne (Ne.symm e)] at h; exact .inr ⟨e, h⟩
/-- a slot takes data -/
theorem EnvM.setF (E : EnvM c G m0 M H σ ρ) {i : Nat} (hi : i < ρ.length) {v : V} {d : DV} (r : Rv c (hid M H) v d) : EnvM c G m0 M H (σ.set i (some v)) (ρ.set i (.fz d)) where
  k := E.k
  gm := E.gm
  sub := E.sub
  len := by rw [List.length_set, List.length_set]; exact E.len
  fz := fun j e h => by
    rcases set_get h with ⟨rfl, hl, q⟩ | ⟨hne, q⟩
    · cases q
      exact ⟨v, List.getElem?_set_self (by rw [E.len]; exact hl), r⟩
    · obtain ⟨u, h1, h2⟩ := E.fz j e q
      exact ⟨u, by rw [List.getElem?_set_ne (Ne.symm hne)]; exact h1, h2⟩
  ow := fun j e h => by
    rcases set_get h with ⟨rfl, hl, q⟩ | ⟨hne, q⟩
    · cases q
    · obtain ⟨u, h1, h2⟩ := E.ow j e q
      exact ⟨u, by rw [List.getElem?_set_ne (Ne.symm hne)]; exact h1, h2⟩
  sep := fun j j' e e' a h h' s s' => by
    rcases set_get h with ⟨rfl, hl, q⟩ | ⟨hne, q⟩
    · cases q
    rcases set_get h' with ⟨rfl, hl, q'⟩ | ⟨hne', q'⟩
    · cases q'
    rw [List.getElem?_set_ne (Ne.symm hne)] at s
    rw [List.getElem?_set_ne (Ne.symm hne')] at s'
    exact E.sep j j' e e' a q q' s s'
/-- a slot is forgotten -/
theorem EnvM.setN (E : EnvM c G m0 M H σ ρ) {i : Nat} : EnvM c G m0 M H σ (ρ.set i .no) where
  k := E.k
  gm := E.gm
  sub := E.sub
  len := by rw [List.length_set]; exact E.len
  fz := fun j e h => by
    rcases set_get h with ⟨rfl, hl, q⟩ | ⟨hne, q⟩
    · cases q
    · exact E.fz j e q
  ow := fun j e h => by
    rcases set_get h with ⟨rfl, hl, q⟩ | ⟨hne, q⟩
    · cases q
    · exact E.ow j e q
  sep := fun j j' e e' a h h' s s' => by
    rcases set_get h with ⟨rfl, hl, q⟩ | ⟨hne, q⟩
    · cases q
    rcases set_get h' with ⟨rfl, hl, q'⟩ | ⟨hne', q'⟩
    · cases q'
    exact E.sep j j' e e' a q q' s s'
theorem ow_there {a : Addr} {d : DV} (h : Ow c M H a d) : ∃ o, H a = some o := by
  cases d with
  | p d => cases d with
    | list ds => obtain ⟨vs, h1, _⟩ := h; exact ⟨_, h1⟩
    | _ => exact h.elim
  | l ds => obtain ⟨vs, h1, _⟩ := h; exact ⟨_, h1⟩
  | dk m => exact ⟨_, h⟩
  | ks ks => obtain ⟨L, h1, _⟩ := h; exact ⟨_, h1⟩
  | at_ a => exact h.elim
  | obj C ns ds => obtain ⟨dx, vs, h1, _⟩ := h; exact ⟨_, h1⟩
  | me x C ns ds => obtain ⟨_, dx, vs, h1, _⟩ := h; exact ⟨_, h1⟩
  | nd ks ds => exact h.elim
  | tN xs => exact h.elim
  | tp ds => exact h.elim
  | tri A q => exact h.elim
/-- a new thing is hidden -/
theorem EnvM.grow (E : EnvM c G m0 M H σ ρ) {H' : Hp} {p : Addr} {d : DV} (n : H p = none) (f : Fx G H H') (j : G.J H') (o : Ow c (ins p M) H' p d) : EnvM c G m0 (ins p M) H' σ ρ := by
  have hs : Same (hid M H) (hid (ins p M) H') := fun a u q => by
    obtain ⟨q1, q2⟩ := hid_some q
    have hne : a ≠ p := ne_of_none q2 n
    rw [hid_get (by rw [ins_ne hne]; exact q1)]
    refine f a u ?_ q2
    cases e : G.g a with
    | false => rfl
    | true => rw [E.k.gm a e] at q1; cases q1
  refine ⟨⟨j, fun a h => ?_, fun a h => ins_of (E.k.gm a h)⟩, E.gm, fun a h => ins_of (E.sub a h), E.len, fun i e q => ?_, fun i e q => ?_, E.sep⟩
  · by_cases e : a = p
    · subst e; exact ow_there o
    · rw [ins_ne e] at h; exact (E.k.fx f j).al a h
  · obtain ⟨v, h1, h2⟩ := E.fz i e q
    exact ⟨v, h1, rv_mono hs h2⟩
  · obtain ⟨a, h1, h2, h3, h4⟩ := E.ow i e q
    refine ⟨a, h1, ins_of h2, h3, h4.mono (fun u q => f a u ?_ q) hs⟩
    cases e : G.g a with
    | false => rfl
    | true => rw [E.gm a e] at h3; cases h3
theorem EnvM.setO (E : EnvM c G m0 M H σ ρ) {H' : Hp} {p : Addr} {d : DV} {i : Nat} (hi : i < ρ.length) (n : H p = none) (f : Fx G H H') (j : G.J H') (o : Ow c (ins p M) H' p d) :
    EnvM c G m0 (ins p M) H' (σ.set i (some (.ref p))) (ρ.set i (.ow d)) := by
  have E2 := E.grow n f j o
  have hp0 : m0 p = false := by
    cases e : m0 p with
    | false => rfl
    | true => obtain ⟨u, q⟩ := E.k.al p (E.sub p e); rw [n] at q; cases q
  have hnew : ∀ (j : Nat) (e : DV), ρ[j]? = some (Slot.ow e) → σ[j]? ≠ some (some (.ref p)) := fun j e q z => by
    obtain ⟨a, h1, h2, _, _⟩ := E.ow j e q
    rw [h1] at z
    have z' : a = p := by injection z with z; injection z with z; injection z
    subst z'
    obtain ⟨u, q⟩ := E.k.al a h2; rw [n] at q; cases q
  refine ⟨E2.k, E2.gm, E2.sub, by rw [List.length_set, List.length_set]; exact E.len, fun j e h => ?_, fun j e h => ?_, fun j j' e e' a h h' s s' => ?_⟩
  · rcases set_get h with ⟨rfl, hl, q⟩ | ⟨hne, q⟩
    · cases q
    · obtain ⟨u, h1, h2⟩ := E2.fz j e q
      exact ⟨u, by rw [List.getElem?_set_ne (Ne.symm hne)]; exact h1, h2⟩
  · rcases set_get h with ⟨rfl, hl, q⟩ | ⟨hne, q⟩
    · cases q
      exact ⟨p, List.getElem?_set_self (by rw [E.len]; exact hl), ins_self, hp0, o⟩
    · obtain ⟨u, h1, h2⟩ := E2.ow j e q
      exact ⟨u, by rw [List.getElem?_set_ne (Ne.symm hne)]; exact h1, h2⟩
  · rcases set_get h with ⟨rfl, hl, q⟩ | ⟨hne, q⟩
    · rcases set_get h' with ⟨rfl, hl', q'⟩ | ⟨hne', q'⟩
      · rfl
      · rw [List.getElem?_set_self (by rw [E.len]; exact hl)] at s
        rw [List.getElem?_set_ne (Ne.symm hne')] at s'
        injection s with s; injection s with s; injection s with s
        subst s
        exact absurd s' (hnew j' e' q')
    · rw [List.getElem?_set_ne (Ne.symm hne)] at s
      rcases set_get h' with ⟨rfl, hl', q'⟩ | ⟨hne', q'⟩
      · rw [List.getElem?_set_self (by rw [E.len]; exact hl')] at s'
        injection s' with s'; injection s' with s'; injection s' with s'
        subst s'
        exact absurd s (hnew j e q)
      · rw [List.getElem?_set_ne (Ne.symm hne')] at s'
        exact E.sep j j' e e' a q q' s s'
/-- a thing of one's own is changed -/
theorem EnvM.setW (E : EnvM c G m0 M H σ ρ) {i : Nat} {d d' : DV} {a : Addr} {ho : HO} (hi : ρ[i]? = some (.ow d)) (hs : σ[i]? = some (some (.ref a))) (ht : ∀ xs, H a ≠ some (.tup xs)) (o : Ow c M (upd H a ho) a d') :
    EnvM c G m0 M (upd H a ho) σ (ρ.set i (.ow d')) := by
  obtain ⟨a', h1, h2, h3, h4⟩ := E.ow i d hi
  have ea : a' = a := by rw [h1] at hs; injection hs with hs; injection hs with hs; injection hs
  subst ea
  have hg : G.g a' = false := by
    cases e : G.g a' with
    | false => rfl
    | true => rw [E.gm a' e] at h3; cases h3
  have hsame : Same (hid M H) (hid M (upd H a' ho)) := fun b u q => by
    obtain ⟨q1, q2⟩ := hid_some q
    have hne : b ≠ a' := fun z => by subst z; rw [h2] at q1; cases q1
    rw [hid_get q1, upd_ne hne]; exact q2
  refine ⟨⟨G.st _ _ E.k.J fun b u gb q => ?_, fun b hb => ?_, E.k.gm⟩, E.gm, E.sub, by rw [List.length_set]; exact E.len, fun j e h => ?_, fun j e h => ?_, fun j j' e e' b h h' s s' => ?_⟩
  · have hne : b ≠ a' := fun z => by subst z; rw [hg] at gb; cases gb
    rw [upd_ne hne]; exact q
  · by_cases e : b = a'
    · subst e; exact ⟨ho, upd_same⟩
    · rw [upd_ne e]; exact E.k.al b hb
  · rcases set_get h with ⟨rfl, hl, q⟩ | ⟨hne, q⟩
    · cases q
    · obtain ⟨u, q1, q2⟩ := E.fz j e q
      exact ⟨u, q1, rv_mono hsame q2⟩
  · rcases set_get h with ⟨rfl, hl, q⟩ | ⟨hne, q⟩
    · cases q
      exact ⟨a', h1, h2, h3, o⟩
    · obtain ⟨b, q1, q2, q3, q4⟩ := E.ow j e q
      have hb : b ≠ a' := fun z => by subst z; exact hne (E.sep j i e d b q hi q1 h1)
      exact ⟨b, q1, q2, q3, q4.mono (fun u q => by rw [upd_ne hb]; exact q) hsame⟩
  · have get : ∀ (j : Nat) (e : DV), (ρ.set i (Slot.ow d'))[j]? = some (Slot.ow e) → ∃ e2, ρ[j]? = some (Slot.ow e2) := fun j e h => by
      rcases set_get h with ⟨rfl, hl, q⟩ | ⟨hne, q⟩
      · exact ⟨d, hi⟩
      · exact ⟨e, q⟩
    obtain ⟨e1, q1⟩ := get j e h
    obtain ⟨e2, q2⟩ := get j' e' h'
    exact E.sep j j' e1 e2 b q1 q2 s s'
/-- a thing of one's own is let go of -/
theorem EnvM.freeze (E : EnvM c G m0 M H σ ρ) {i : Nat} {d : DV} (hi : ρ[i]? = some (.ow d)) : ∃ M', (∀ a, M' a = true → M a = true) ∧ EnvM c G m0 M' H σ (ρ.set i (.fz d)) := by
  obtain ⟨a, h1, h2, h3, h4⟩ := E.ow i d hi
  have less : ∀ b, out a M b = true → M b = true := fun b h => out_of h
  refine ⟨out a M, less, ⟨E.k.J, fun b h => E.k.al b (less b h), fun b h => ?_⟩, E.gm, fun b h => ?_, by rw [List.length_set]; exact E.len, fun j e h => ?_, fun j e h => ?_, fun j j' e e' b h h' s s' => ?_⟩
  · have hne : b ≠ a := fun z => by subst z; rw [E.gm b h] at h3; cases h3
    rw [out_ne hne]; exact E.k.gm b h
  · have hne : b ≠ a := fun z => by subst z; rw [h] at h3; cases h3
    rw [out_ne hne]; exact E.sub b h
  · rcases set_get h with ⟨rfl, hl, q⟩ | ⟨hne, q⟩
    · cases q
      exact ⟨.ref a, h1, h4.rv less out_self⟩
    · obtain ⟨u, q1, q2⟩ := E.fz j e q
      exact ⟨u, q1, rv_mono (hid_less less) q2⟩
  · rcases set_get h with ⟨rfl, hl, q⟩ | ⟨hne, q⟩
    · cases q
    · obtain ⟨b, q1, q2, q3, q4⟩ := E.ow j e q
      have hb : b ≠ a := fun z => by subst z; exact hne (E.sep j i e d b q hi q1 h1)
      exact ⟨b, q1, by rw [out_ne hb]; exact q2, q3, q4.mono (fun _ q => q) (hid_less less)⟩
  · rcases set_get h with ⟨rfl, hl, q⟩ | ⟨hne, q⟩
    · cases q
    rcases set_get h' with ⟨rfl, hl, q'⟩ | ⟨hne', q'⟩
    · cases q'
    exact E.sep j j' e e' b q q' s s'
end

/-! ### what stood at the entry -/
structure Bs (G : Gx) (m0 : Addr → Bool) (H0 : Hp) (M : Addr → Bool) (H : Hp) : Prop where
  own : ∀ a, M a = true → m0 a = false → H0 a = none
  fx : Fx G H0 H
theorem Bs.fxx {G : Gx} {m0 M : Addr → Bool} {H0 H H' : Hp} (b : Bs G m0 H0 M H) (f : Fx G H H') : Bs G m0 H0 M H' := ⟨b.own, b.fx.trans f⟩
theorem Bs.less {G : Gx} {m0 M M' : Addr → Bool} {H0 H : Hp} (b : Bs G m0 H0 M H) (h : ∀ a, M' a = true → M a = true) : Bs G m0 H0 M' H := ⟨fun a q => b.own a (h a q), b.fx⟩
theorem Bs.grow {G : Gx} {m0 M : Addr → Bool} {H0 H H' : Hp} {p : Addr} (b : Bs G m0 H0 M H) (k : Hk G M H) (n : H p = none) (f : Fx G H H') : Bs G m0 H0 (ins p M) H' := ⟨fun a q q0 => by
    by_cases e : a = p
    · subst e
      cases z : H0 a with
      | none => rfl
      | some o =>
        cases eg : G.g a with
        | false => rw [b.fx a o eg z] at n; cases n
        | true => obtain ⟨u, q⟩ := k.al a (k.gm a eg); rw [n] at q; cases q
    · rw [ins_ne e] at q; exact b.own a q q0, b.fx.trans f⟩
theorem Bs.upd {G : Gx} {m0 M : Addr → Bool} {H0 H : Hp} {a : Addr} {ho : HO} (b : Bs G m0 H0 M H) (h1 : M a = true) (h2 : m0 a = false) : Bs G m0 H0 M (upd H a ho) := ⟨b.own, fun x o g q => by
    have hne : x ≠ a := fun z => by subst z; rw [b.own x h1 h2] at q; cases q
    rw [upd_ne hne]; exact b.fx x o g q⟩
/-- the base of a loop: all but one's own -/
def lb (m0 M : Addr → Bool) (H : Hp) : Hp := fun a => if M a = true ∧ m0 a = false then none else H a
theorem lb_bs {G : Gx} {m0 M : Addr → Bool} {H : Hp} : Bs G m0 (lb m0 M H) M H := ⟨fun a h1 h2 => by unfold lb; rw [if_pos ⟨h1, h2⟩], fun a o _ q => by
    unfold lb at q; split at q
    · cases q
    · exact q⟩
theorem lb_back {G : Gx} {m0 M M2 : Addr → Bool} {H0 H H2 : Hp} (gm : ∀ a, G.g a = true → m0 a = true) (b : Bs G m0 H0 M H) (b2 : Bs G m0 (lb m0 M H) M2 H2) : Bs G m0 H0 M2 H2 := by
  have key : ∀ a o, G.g a = false → H0 a = some o → lb m0 M H a = some o := fun a o g q => by
    unfold lb
    rw [if_neg]
    · exact b.fx a o g q
    · rintro ⟨h1, h2⟩
      rw [b.own a h1 h2] at q; cases q
  exact ⟨fun a h1 h2 => by
    cases z : H0 a with
    | none => rfl
    | some o =>
      cases eg : G.g a with
      | false => have q := key a o eg z; rw [b2.own a h1 h2] at q; cases q
      | true => exact absurd (gm a eg) (by rw [h2]; exact Bool.false_ne_true), fun a o g q => b2.fx a o g (key a o g q)⟩
/-- what was plain at the loop's start is so later -/
theorem lb_same {c : Cf} {G : Gx} {m0 M M2 : Addr → Bool} {H H2 : Hp} (gm : ∀ a, G.g a = true → M a = true) (sub : ∀ a, m0 a = true → M a = true) (b2 : Bs G m0 (lb m0 M H) M2 H2) : Same (hid M H) (hid M2 H2) := fun a o q => by
  obtain ⟨q1, q2⟩ := hid_some q
  have e : lb m0 M H a = some o := by
    unfold lb
    rw [if_neg (by rw [q1]; rintro ⟨h, _⟩; cases h)]; exact q2
  have g : G.g a = false := by
    cases e : G.g a with
    | false => rfl
    | true => rw [gm a e] at q1; cases q1
  have m : M2 a = false := by
    cases z : M2 a with
    | false => rfl
    | true =>
      cases y : m0 a with
      | false => rw [b2.own a z y] at e; cases e
      | true => rw [sub a y] at q1; cases q1
  rw [hid_get m]; exact b2.fx a o g e

/-! ### running a statement -/
inductive Out where
  | nx (ρ : Rho)
  | rt (d : DV)
  | bk (ρ : Rho)
  | ct (ρ : Rho)
section
variable (c : Cf) (G : Gx)
def endP (m0 : Addr → Bool) (H0 : Hp) (R : Rho → Prop) (σ : L2.St) (H : Hp) : Prop := ∃ M ρ, EnvM c G m0 M H σ ρ ∧ Bs G m0 H0 M H ∧ R ρ
def retP (m0 : Addr → Bool) (H0 : Hp) (R : DV → Prop) (v : V) (H : Hp) : Prop := ∃ d, G.J H ∧ Fx G H0 H ∧ Rv c (hid m0 H) v d ∧ R d
structure Le (m0 : Addr → Bool) (H0 : Hp) (Φ : Out → Prop) (D : Ends) : Prop where
  nx : ∀ σ H, endP c G m0 H0 (fun ρ => Φ (.nx ρ)) σ H → D.nx σ H
  rt : ∀ v H, retP c G m0 H0 (fun d => Φ (.rt d)) v H → D.rt v H
  bk : ∀ σ H, endP c G m0 H0 (fun ρ => Φ (.bk ρ)) σ H → D.bk σ H
  ct : ∀ σ H, endP c G m0 H0 (fun ρ => Φ (.ct ρ)) σ H → D.ct σ H
def Run (t : TS) (ρ : Rho) (Φ : Out → Prop) : Prop := ∀ m0 H0 M H σ D, EnvM c G m0 M H σ ρ → Bs G m0 H0 M H → Le c G m0 H0 Φ D → t D σ H
end
section
variable {c : Cf} {G : Gx} {t u : TS} {te : TE} {tt : TT} {ρ : Rho} {Φ Ψ : Out → Prop} {P : DV → Prop}
theorem Run.imp (h : Run c G t ρ Φ) (i : ∀ o, Φ o → Ψ o) : Run c G t ρ Ψ := fun m0 H0 M H σ D E B L => h m0 H0 M H σ D E B
  ⟨fun σ H ⟨M, ρ, e, b, p⟩ => L.nx σ H ⟨M, ρ, e, b, i _ p⟩, fun v H ⟨d, j, f, r, p⟩ => L.rt v H ⟨d, j, f, r, i _ p⟩, fun σ H ⟨M, ρ, e, b, p⟩ => L.bk σ H ⟨M, ρ, e, b, i _ p⟩, fun σ H ⟨M, ρ, e, b, p⟩ => L.ct σ H ⟨M, ρ, e, b, i _ p⟩⟩
/-- then -/
def thenR (c : Cf) (G : Gx) (u : TS) (Φ : Out → Prop) : Out → Prop
  | .nx ρ => Run c G u ρ Φ
  | o => Φ o
theorem run_seq (h : Run c G t ρ (thenR c G u Φ)) : Run c G (tSeq t u) ρ Φ := fun m0 H0 M H σ D E B L => h m0 H0 M H σ { D with nx := u D } E B
  ⟨fun σ H ⟨M, ρ, e, b, p⟩ => p m0 H0 M H σ D e b L, L.rt, L.bk, L.ct⟩
theorem run_next (h : Φ (.nx ρ)) : Run c G tNext ρ Φ := fun m0 H0 M H σ D E B L => L.nx σ H ⟨M, ρ, E, B, h⟩
theorem run_break (h : Φ (.bk ρ)) : Run c G tBreak ρ Φ := fun m0 H0 M H σ D E B L => L.bk σ H ⟨M, ρ, E, B, h⟩
theorem run_cont (h : Φ (.ct ρ)) : Run c G tCont ρ Φ := fun m0 H0 M H σ D E B L => L.ct σ H ⟨M, ρ, E, B, h⟩
theorem run_asg {i : Nat} (h : Ev c G te ρ P) (hi : i < ρ.length) (k : ∀ d, P d → Φ (.nx (ρ.set i (.fz d)))) : Run c G (tAsg te (gName i)) ρ Φ := fun m0 H0 M H σ D E B L =>
  h m0 M H σ E _ fun v H' d f j r p => L.nx _ _ ⟨M, _, (E.fx f j).setF hi r, B.fxx f, k d p⟩
theorem run_set {i : Nat} {d : PyData} (h : Ed c G te ρ d) (hi : i < ρ.length) (k : Φ (.nx (ρ.set i (.fz (.p d))))) : Run c G (tAsg te (gName i)) ρ Φ := run_asg h hi fun _ e => by subst e; exact k
theorem run_asgN {i : Nat} (h : EvN c G te ρ P) (hi : i < ρ.length) (k : ∀ d, P d → Φ (.nx (ρ.set i (.ow d)))) : Run c G (tAsg te (gName i)) ρ Φ := fun m0 H0 M H σ D E B L =>
  h m0 M H σ E _ fun p H' d n f j o q => L.nx _ _ ⟨_, _, E.setO hi n f j o, B.grow E.k n f, k d q⟩
theorem run_own {i : Nat} {d : PyData} (h : En c G te ρ d) (hi : i < ρ.length) (k : Φ (.nx (ρ.set i (.ow (.p d))))) : Run c G (tAsg te (gName i)) ρ Φ := run_asgN h hi fun _ e => by subst e; exact k
theorem run_ifP {PB : Bool → Prop} (h : EvT c G tt ρ PB) (h1 : PB true → Run c G t ρ Φ) (h2 : PB false → Run c G u ρ Φ) : Run c G (tIfS tt t u) ρ Φ := fun m0 H0 M H σ D E B L =>
  h m0 M H σ E _ fun b H' f j p => by
    cases b with
    | true => exact h1 p m0 H0 M H' σ D (E.fx f j) (B.fxx f) L
    | false => exact h2 p m0 H0 M H' σ D (E.fx f j) (B.fxx f) L
theorem run_if {b : Bool} (h : Et c G tt ρ b) (h1 : b = true → Run c G t ρ Φ) (h2 : b = false → Run c G u ρ Φ) : Run c G (tIfS tt t u) ρ Φ := run_ifP h (fun e => h1 e.symm) fun e => h2 e.symm
theorem run_ret (h : Ev c G te ρ P) (k : ∀ d, P d → Φ (.rt d)) : Run c G (tRet te) ρ Φ := fun m0 H0 M H σ D E B L =>
  h m0 M H σ E _ fun v H' d f j r p => L.rt _ _ ⟨d, j, B.fx.trans f, rv_mono (hid_less E.sub) r, k d p⟩
theorem run_retD {d : PyData} (h : Ed c G te ρ d) (k : Φ (.rt (.p d))) : Run c G (tRet te) ρ Φ := run_ret h fun _ e => by subst e; exact k
theorem run_retO {i : Nat} {d : DV} (h : ρ[i]? = some (.ow d)) (k : Φ (.rt d)) : Run c G (tRet (tVar i)) ρ Φ := fun m0 H0 M H σ D E B L => by
  obtain ⟨a, h1, h2, h3, h4⟩ := E.ow i d h
  exact ⟨.ref a, h1, L.rt _ _ ⟨d, E.k.J, B.fx, h4.rv E.sub h3, k⟩⟩
theorem run_retN (k : Φ (.rt (.p .none))) : Run c G tRetN ρ Φ := fun m0 H0 M H σ D E B L => L.rt _ _ ⟨_, E.k.J, B.fx, .p .non, k⟩
theorem run_freeze {i : Nat} {d : DV} (h : ρ[i]? = some (.ow d)) (k : Run c G t (ρ.set i (.fz d)) Φ) : Run c G t ρ Φ := fun m0 H0 M H σ D E B L => by
  obtain ⟨M', h1, E'⟩ := E.freeze h
  exact k m0 H0 M' H σ D E' (B.less h1) L
theorem run_forget (i : Nat) (k : Run c G t (ρ.set i .no) Φ) : Run c G t ρ Φ := fun m0 H0 M H σ D E B L => k m0 H0 M H σ D E.setN B L
/-- slots forgotten -/
def clr : List Nat → Rho → Rho
  | [], ρ => ρ
  | j :: js, ρ => clr js (ρ.set j .no)
theorem EnvM.clr {m0 M : Addr → Bool} {H : Hp} {σ : L2.St} : ∀ (js : List Nat) {ρ : Rho}, EnvM c G m0 M H σ ρ → EnvM c G m0 M H σ (clr js ρ)
  | [], _, E => E
  | _ :: js, _, E => EnvM.clr js E.setN
/-- xs.append(e) -/
theorem run_app {i : Nat} {ds : List PyData} {d : PyData} (h : ρ[i]? = some (.ow (.p (.list ds)))) (he : Ed c G te ρ d) (hl : ds.length < sizeLine) (k : Φ (.nx (ρ.set i (.ow (.p (.list (ds ++ [d]))))))) :
    Run c G (tDrop (tBM c.K "list" rAppend (tVar i) (tCons te tNil))) ρ Φ := fun m0 H0 M H σ D E B L => by
  obtain ⟨a, h1, h2, h3, vs, h4, h5⟩ := E.ow i _ h
  refine ⟨.ref a, h1, Or.inl ⟨rfl, vs, SqL.of h4⟩, he m0 M H σ E _ fun v H' d' f j r e => ?_⟩
  subst e
  have E' := E.fx f j
  obtain ⟨a', q1, q2, q3, ws, q4, q5⟩ := E'.ow i _ h
  have ea : a' = a := by rw [h1] at q1; injection q1 with q1; injection q1 with q1; injection q1 with q1; exact q1.symm
  subst ea
  refine ⟨a', ws, v, rfl, rfl, q4, by rw [dpa_len q5]; exact hl, L.nx _ _ ⟨M, _, E'.setW (d' := .p (.list (ds ++ [d]))) h h1 (by rw [q4]; intro _ z; cases z) ⟨ws ++ [v], upd_same, ?_⟩, (B.fxx f).upd q2 q3, k⟩⟩
  refine dpa_app (dpa_mono ?_ q5) (.cons (dp_mono ?_ (rv_p r)) .nil) <;>
  · intro b u q
    obtain ⟨z1, z2⟩ := hid_some q
    rw [hid_get z1, upd_ne (fun z => by subst z; rw [h2] at z1; cases z1)]; exact z2
theorem run_appL {i : Nat} {ds : List DV} (h : ρ[i]? = some (.ow (.l ds))) (he : Ev c G te ρ P) (hl : ds.length < sizeLine) (k : ∀ d, P d → Φ (.nx (ρ.set i (.ow (.l (ds ++ [d])))))) :
    Run c G (tDrop (tBM c.K "list" rAppend (tVar i) (tCons te tNil))) ρ Φ := fun m0 H0 M H σ D E B L => by
  obtain ⟨a, h1, h2, h3, vs, h4, h5⟩ := E.ow i _ h
  refine ⟨.ref a, h1, Or.inl ⟨rfl, vs, SqL.of h4⟩, he m0 M H σ E _ fun v H' d f j r e => ?_⟩
  have E' := E.fx f j
  obtain ⟨a', q1, q2, q3, ws, q4, q5⟩ := E'.ow i _ h
  have ea : a' = a := by rw [h1] at q1; injection q1 with q1; injection q1 with q1; injection q1 with q1; exact q1.symm
  subst ea
  refine ⟨a', ws, v, rfl, rfl, q4, by rw [rva_len q5]; exact hl, L.nx _ _ ⟨M, _, E'.setW (d' := .l (ds ++ [d])) h h1 (by rw [q4]; intro _ z; cases z) ⟨ws ++ [v], upd_same, ?_⟩, (B.fxx f).upd q2 q3, k d e⟩⟩
  refine rva_app (rva_mono ?_ q5) (.cons (rv_mono ?_ r) .nil) <;>
  · intro b u q
    obtain ⟨z1, z2⟩ := hid_some q
    rw [hid_get z1, upd_ne (fun z => by subst z; rw [h2] at z1; cases z1)]; exact z2
/-- xs[j] = e -/
theorem run_setL {i j : Nat} {ds : List PyData} {d : PyData} {ti : TE} (h : ρ[i]? = some (.ow (.p (.list ds)))) (he : Ed c G te ρ d) (hj : Es c G ti ρ (.int (j : Int))) (hl : j < ds.length) (k : Φ (.nx (ρ.set i (.ow (.p (.list (ds.set j d))))))) :
    Run c G (tAsg te (gSub (tVar i) ti rSetL)) ρ Φ := fun m0 H0 M H σ D E B L => by
  refine he m0 M H σ E _ fun v H1 d' f1 j1 r1 e => ?_
  subst e
  have E1 := E.fx f1 j1
  obtain ⟨a, h1, h2, h3, vs, h4, h5⟩ := E1.ow i _ h
  refine ⟨.ref a, h1, hj m0 M H1 σ E1 _ fun u H2 d2 f2 j2 r2 e2 => ?_⟩
  subst e2
  have E2 := E1.fx f2 j2
  obtain ⟨a', q1, q2, q3, ws, q4, q5⟩ := E2.ow i _ h
  have ea : a' = a := by rw [h1] at q1; injection q1 with q1; injection q1 with q1; injection q1 with q1; exact q1.symm
  subst ea
  have hw : j < ws.length := by rw [dpa_len q5]; exact hl
  refine ⟨a', ws, (j : Int), j, rfl, r2.int, q4, ?_, L.nx _ _ ⟨M, _, E2.setW (d' := .p (.list (ds.set j d))) h h1 (by rw [q4]; intro _ z; cases z) ⟨ws.set j v, upd_same, ?_⟩, ((B.fxx f1).fxx f2).upd q2 q3, k⟩⟩
  · unfold ixN
    rw [if_pos (by omega), if_pos (by omega)]
    simp
  have hs : Same (hid M H2) (hid M (upd H2 a' (.lst (ws.set j v)))) := fun b u q => by
    obtain ⟨z1, z2⟩ := hid_some q
    rw [hid_get z1, upd_ne (fun z => by subst z; rw [h2] at z1; cases z1)]; exact z2
  exact dpa_set (dp_mono hs (dp_mono (E1.k.hidS f2) (rv_p r1))) _ (dpa_mono hs q5)

/-! ### targets -/
/-- the same but at ks -/
structure Agr (ks : List Nat) (σ σ' : L2.St) : Prop where
  len : σ'.length = σ.length
  get : ∀ i : Nat, i ∉ ks → σ'[i]? = σ[i]?
theorem Agr.refl {ks : List Nat} {σ : L2.St} : Agr ks σ σ := ⟨rfl, fun _ _ => rfl⟩
theorem Agr.trans {ks ls : List Nat} {σ σ1 σ2 : L2.St} (a : Agr ks σ σ1) (b : Agr ls σ1 σ2) : Agr (ks ++ ls) σ σ2 := ⟨b.len.trans a.len, fun i h => by
  rw [List.mem_append, not_or] at h
  exact (b.get i h.2).trans (a.get i h.1)⟩
theorem Agr.set {σ : L2.St} {i : Nat} {v : Option V} : Agr [i] σ (σ.set i v) := ⟨List.length_set, fun j h => List.getElem?_set_ne (fun e => h (by simp [e]))⟩
/-- g, given d, takes ρ to ρ', setting the slots ks -/
def Bd (c : Cf) (G : Gx) (ks : List Nat) (g : TG) (d : DV) (ρ ρ' : Rho) : Prop := ∀ m0 M H σ v, EnvM c G m0 M H σ ρ → Rv c (hid M H) v d → ∀ Q, (∀ σ', EnvM c G m0 M H σ' ρ' → Agr ks σ σ' → Q σ' H) → g v σ H Q
def BdA (c : Cf) (G : Gx) (ks : List Nat) (g : TGs) (ds : List PyData) (ρ ρ' : Rho) : Prop := ∀ m0 M H σ vs, EnvM c G m0 M H σ ρ → DpAll c.K (hid M H) vs ds → ∀ Q, (∀ σ', EnvM c G m0 M H σ' ρ' → Agr ks σ σ' → Q σ' H) → g vs σ H Q
theorem bd_name {i : Nat} {d : DV} (hi : i < ρ.length) : Bd c G [i] (gName i) d ρ (ρ.set i (.fz d)) := fun m0 M H σ v E r Q q => q _ (E.setF hi r) Agr.set
theorem bda_nil : BdA c G [] gNil [] ρ ρ := fun m0 M H σ vs E r Q q => by cases r; exact ⟨rfl, q _ E Agr.refl⟩
theorem bda_cons {ks ls : List Nat} {g : TG} {gs : TGs} {d : PyData} {ds : List PyData} {ρ1 ρ2 : Rho} (h : Bd c G ks g (.p d) ρ ρ1) (hr : BdA c G ls gs ds ρ1 ρ2) : BdA c G (ks ++ ls) (gCons g gs) (d :: ds) ρ ρ2 := fun m0 M H σ vs E r Q q => by
  cases r with
  | cons r1 r2 => exact ⟨_, _, rfl, h m0 M H σ _ E (.p r1) _ fun σ' E' a => hr m0 M H σ' _ E' r2 Q fun σ2 E2 a2 => q σ2 E2 (a.trans a2)⟩
theorem bd_tup {ks : List Nat} {gs : TGs} {ds : List PyData} {n : Nat} {ρ' : Rho} (h : BdA c G ks gs ds ρ ρ') (hn : ds.length = n) : Bd c G ks (gTup c.K n gs) (.p (.tuple ds)) ρ ρ' := fun m0 M H σ v E r Q q => by
  have r := rv_p r
  cases r with
  | tup h1 h2 => exact ⟨_, _, rfl, same_t hid_same h1, by rw [dpa_len h2]; exact hn, h m0 M H σ _ E h2 Q q⟩
theorem run_bind {ks : List Nat} {g : TG} {d : DV} {ρ' : Rho} (h : Ev c G te ρ (· = d)) (b : Bd c G ks g d ρ ρ') (k : Φ (.nx ρ')) : Run c G (tAsg te g) ρ Φ := fun m0 H0 M H σ D E B L =>
  h m0 M H σ E _ fun v H' d' f j r p => by
    subst p
    exact b m0 M H' σ v (E.fx f j) r _ fun σ' E' _ => L.nx _ _ ⟨M, _, E', B.fxx f, k⟩

/-! ### loops -/
/-- what the body's end must be: I holds of the slots, js forgotten -/
def turnR (js : List Nat) (I : Rho → Prop) (Φ : Out → Prop) : Out → Prop
  | .nx ρ => I (clr js ρ)
  | .ct ρ => I (clr js ρ)
  | .bk ρ => Φ (.nx ρ)
  | .rt d => Φ (.rt d)
theorem le_turn {m0 M : Addr → Bool} {H0 H : Hp} {js : List Nat} {I : Rho → Prop} {D : Ends} (gm : ∀ a, G.g a = true → m0 a = true) (B : Bs G m0 H0 M H) (L : Le c G m0 H0 Φ D) {N : L2.St → Hp → Prop} (hN : ∀ σ H', endP c G m0 (lb m0 M H) I σ H' → N σ H') :
    Le c G m0 (lb m0 M H) (turnR js I Φ) { D with nx := N, ct := N, bk := D.nx } :=
  ⟨fun σ H ⟨M, ρ, e, b, p⟩ => hN σ H ⟨M, _, e.clr js, b, p⟩, fun v H ⟨d, j, f, r, p⟩ => L.rt v H ⟨d, j, fun a o g q => f a o g (by
      unfold lb
      rw [if_neg]
      · exact B.fx a o g q
      · rintro ⟨h1, h2⟩
        rw [B.own a h1 h2] at q; cases q), r, p⟩, fun σ H ⟨M, ρ, e, b, p⟩ => L.nx σ H ⟨M, ρ, e, lb_back gm B b, p⟩, fun σ H ⟨M, ρ, e, b, p⟩ => hN σ H ⟨M, _, e.clr js, b, p⟩⟩
theorem run_forT {tl : TE} {g : TG} {tb : TS} {ds : List PyData} (js : List Nat) (I : Nat → Rho → Prop) (h : Ed c G tl ρ (.tuple ds)) (h0 : I 0 ρ)
    (hs : ∀ i d ρ', ds[i]? = some d → I i ρ' → ∃ ks ρ1, Bd c G ks g (.p d) ρ' ρ1 ∧ Run c G tb ρ1 (turnR js (I (i + 1)) Φ)) (hd : ∀ ρ', I ds.length ρ' → Φ (.nx ρ')) : Run c G (tFor (iTup c.K tl) g tb) ρ Φ := fun m0 H0 M H σ D E B L =>
  h m0 M H σ E _ fun v H1 d f j r e => by
    subst e
    have E1 := E.fx f j
    have B1 := B.fxx f
    have r := rv_p r
    cases r with
    | @tup a vs _ ha hv =>
      have len := dpa_len hv
      refine ⟨a, rfl, ⟨vs, same_t hid_same ha⟩, for_tup (xs := vs) (fun i σ' H' => endP c G m0 (lb m0 M H1) (I i) σ' H') ⟨M, ρ, E1, lb_bs, h0⟩ (fun i σ' H' _ ⟨M2, ρ2, e2, b2, _⟩ => same_t hid_same (same_t (lb_same (c := c) E1.k.gm E1.sub b2) ha)) (fun i x σ' H' hx ⟨M2, ρ2, e2, b2, p⟩ => ?_) fun σ' H' ⟨M2, ρ2, e2, b2, p⟩ => ?_⟩
      · obtain ⟨d, q1, q2⟩ := dpa_get' hv hx
        obtain ⟨_, ρ1, b, k⟩ := hs i d ρ2 q1 p
        exact b m0 M2 H' σ' x e2 (.p (dp_mono (lb_same (c := c) E1.k.gm E1.sub b2) q2)) _ fun σ2 e3 _ => k m0 (lb m0 M H1) M2 H' σ2 _ e3 b2 (le_turn E.gm B1 L fun _ _ z => z)
      · exact L.nx _ _ ⟨M2, ρ2, e2, lb_back E.gm B1 b2, hd _ (by rw [← len]; exact p)⟩
theorem run_forL {tl : TE} {g : TG} {tb : TS} {ds : List PyData} (js : List Nat) (I : Nat → Rho → Prop) (h : Ed c G tl ρ (.list ds)) (h0 : I 0 ρ)
    (hs : ∀ i d ρ', ds[i]? = some d → I i ρ' → ∃ ks ρ1, Bd c G ks g (.p d) ρ' ρ1 ∧ Run c G tb ρ1 (turnR js (I (i + 1)) Φ)) (hd : ∀ ρ', I ds.length ρ' → Φ (.nx ρ')) : Run c G (tFor (iList c.K tl) g tb) ρ Φ := fun m0 H0 M H σ D E B L =>
  h m0 M H σ E _ fun v H1 d f j r e => by
    subst e
    have E1 := E.fx f j
    have B1 := B.fxx f
    have r := rv_p r
    cases r with
    | @lst a vs _ ha hv =>
      have len := dpa_len hv
      refine ⟨a, rfl, ⟨vs, same_l hid_same ha⟩, for_list (xs := vs) (fun i σ' H' => endP c G m0 (lb m0 M H1) (I i) σ' H') ⟨M, ρ, E1, lb_bs, h0⟩ (fun i σ' H' _ ⟨M2, ρ2, e2, b2, _⟩ => same_l hid_same (same_l (lb_same (c := c) E1.k.gm E1.sub b2) ha)) (fun i x σ' H' hx ⟨M2, ρ2, e2, b2, p⟩ => ?_) fun σ' H' ⟨M2, ρ2, e2, b2, p⟩ => ?_⟩
      · obtain ⟨d, q1, q2⟩ := dpa_get' hv hx
        obtain ⟨_, ρ1, b, k⟩ := hs i d ρ2 q1 p
        exact b m0 M2 H' σ' x e2 (.p (dp_mono (lb_same (c := c) E1.k.gm E1.sub b2) q2)) _ fun σ2 e3 _ => k m0 (lb m0 M H1) M2 H' σ2 _ e3 b2 (le_turn E.gm B1 L fun _ _ z => z)
      · exact L.nx _ _ ⟨M2, ρ2, e2, lb_back E.gm B1 b2, hd _ (by rw [← len]; exact p)⟩
/-- over a list of any data -/
theorem run_forX {tl : TE} {g : TG} {tb : TS} {ds : List DV} (js : List Nat) (I : Nat → Rho → Prop) (h : Ev c G tl ρ (· = .l ds)) (h0 : I 0 ρ)
    (hs : ∀ i d ρ', ds[i]? = some d → I i ρ' → ∃ ks ρ1, Bd c G ks g d ρ' ρ1 ∧ Run c G tb ρ1 (turnR js (I (i + 1)) Φ)) (hd : ∀ ρ', I ds.length ρ' → Φ (.nx ρ')) : Run c G (tFor (iList c.K tl) g tb) ρ Φ := fun m0 H0 M H σ D E B L =>
  h m0 M H σ E _ fun v H1 d f j r e => by
    subst e
    have E1 := E.fx f j
    have B1 := B.fxx f
    cases r with
    | @l a vs _ ha0 hv =>
      have ha : SqL c.K (hid M H1) a vs := SqL.of ha0
      have len := rva_len hv
      refine ⟨a, rfl, ⟨vs, same_l hid_same ha⟩, for_list (xs := vs) (fun i σ' H' => endP c G m0 (lb m0 M H1) (I i) σ' H') ⟨M, ρ, E1, lb_bs, h0⟩ (fun i σ' H' _ ⟨M2, ρ2, e2, b2, _⟩ => same_l hid_same (same_l (lb_same (c := c) E1.k.gm E1.sub b2) ha)) (fun i x σ' H' hx ⟨M2, ρ2, e2, b2, p⟩ => ?_) fun σ' H' ⟨M2, ρ2, e2, b2, p⟩ => ?_⟩
      · obtain ⟨d, q1, q2⟩ := rva_get' hv hx
        obtain ⟨_, ρ1, b, k⟩ := hs i d ρ2 q1 p
        exact b m0 M2 H' σ' x e2 (rv_mono (lb_same (c := c) E1.k.gm E1.sub b2) q2) _ fun σ2 e3 _ => k m0 (lb m0 M H1) M2 H' σ2 _ e3 b2 (le_turn E.gm B1 L fun _ _ z => z)
      · exact L.nx _ _ ⟨M2, ρ2, e2, lb_back E.gm B1 b2, hd _ (by rw [← len]; exact p)⟩
theorem rng_core {g : TG} {tb : TS} {lo : Int} {n : Nat} (js : List Nat) (I : Nat → Rho → Prop) {m0 M : Addr → Bool} {H0 H1 : Hp} {σ : L2.St} {D : Ends} (E1 : EnvM c G m0 M H1 σ ρ) (B1 : Bs G m0 H0 M H1) (L : Le c G m0 H0 Φ D) (h0 : I 0 ρ)
    (hs : ∀ i ρ', i < n → I i ρ' → ∃ ks ρ1, Bd c G ks g (.p (.int (lo + (i : Int)))) ρ' ρ1 ∧ Run c G tb ρ1 (turnR js (I (i + 1)) Φ)) (hd : ∀ ρ', I n ρ' → Φ (.nx ρ')) :
    ∃ W : Nat → Nat → L2.St → Hp → Prop, (∃ m, W 0 m σ H1) ∧ ∀ i m σ H, W i m σ H →
      ((Itr lo n).stop i H ∧ D.nx σ H) ∨ ((Itr lo n).go i H ∧ ∃ N : L2.St → Hp → Prop, (∀ σ' H', N σ' H' → ∃ m', m' < m ∧ W (i + 1) m' σ' H') ∧ ∀ x H', (Itr lo n).yld i H x H' → g x σ H' fun σ2 H2 => tb { D with nx := N, ct := N, bk := D.nx } σ2 H2) :=
  for_range (fun i σ' H' => endP c G m0 (lb m0 M H1) (I i) σ' H') ⟨M, ρ, E1, lb_bs, h0⟩ (fun i σ' H' hi ⟨M2, ρ2, e2, b2, p⟩ => by
      obtain ⟨_, ρ1, b, k⟩ := hs i ρ2 hi p
      exact b m0 M2 H' σ' _ e2 (.p (.int _)) _ fun σ2 e3 _ => k m0 (lb m0 M H1) M2 H' σ2 _ e3 b2 (le_turn E1.gm B1 L fun _ _ z => z)) fun σ' H' ⟨M2, ρ2, e2, b2, p⟩ => L.nx _ _ ⟨M2, ρ2, e2, lb_back E1.gm B1 b2, hd _ p⟩
theorem run_forR {ta : TE} {g : TG} {tb : TS} {n : Nat} (js : List Nat) (I : Nat → Rho → Prop) (h : Es c G ta ρ (.int (n : Int))) (hn : n < 1000000) (h0 : I 0 ρ)
    (hs : ∀ (i : Nat) ρ', i < n → I i ρ' → ∃ ks ρ1, Bd c G ks g (.p (.int (i : Int))) ρ' ρ1 ∧ Run c G tb ρ1 (turnR js (I (i + 1)) Φ)) (hd : ∀ ρ', I n ρ' → Φ (.nx ρ')) : Run c G (tFor (iRng1 (tCons ta tNil)) g tb) ρ Φ := fun m0 H0 M H σ D E B L =>
  h m0 M H σ E _ fun v H1 d f j r e => by
    subst e
    refine ⟨(n : Int), by rw [r.int], by omega, by omega, ?_⟩
    have q := rng_core (g := g) (tb := tb) (lo := 0) (n := n) js I (E.fx f j) (B.fxx f) L h0 (fun i ρ' hi p => by rw [Int.zero_add]; exact hs i ρ' hi p) hd
    simpa using q
/-- a range whose end is not told -/
theorem run_forRP {ta : TE} {g : TG} {tb : TS} {PN : Nat → Prop} (js : List Nat) (I : Nat → Nat → Rho → Prop) (h : EvS c G ta ρ (fun d => ∃ n : Nat, d = .p (.int (n : Int)) ∧ PN n ∧ n < 1000000)) (h0 : ∀ n, PN n → I n 0 ρ)
    (hs : ∀ (n i : Nat) ρ', PN n → i < n → I n i ρ' → ∃ ks ρ1, Bd c G ks g (.p (.int (i : Int))) ρ' ρ1 ∧ Run c G tb ρ1 (turnR js (I n (i + 1)) Φ)) (hd : ∀ n ρ', PN n → I n n ρ' → Φ (.nx ρ')) : Run c G (tFor (iRng1 (tCons ta tNil)) g tb) ρ Φ := fun m0 H0 M H σ D E B L =>
  h m0 M H σ E _ fun v H1 d f j r ⟨n, e, pn, hn⟩ => by
    subst e
    refine ⟨(n : Int), by rw [r.int], by omega, by omega, ?_⟩
    have q := rng_core (g := g) (tb := tb) (lo := 0) (n := n) js (I n) (E.fx f j) (B.fxx f) L (h0 n pn) (fun i ρ' hi p => by rw [Int.zero_add]; exact hs n i ρ' pn hi p) (hd n · pn)
    simpa using q
/-- while -/
theorem run_while {tb : TS} (js : List Nat) (I : Nat → Rho → Prop) (m : Nat) (h0 : I m ρ)
    (hs : ∀ m ρ', I m ρ' → ∃ b, Et c G tt ρ' b ∧ (b = true → Run c G tb ρ' (turnR js (fun ρ2 => ∃ m', m' < m ∧ I m' ρ2) Φ)) ∧ (b = false → Φ (.nx ρ'))) : Run c G (tWhile tt tb) ρ Φ := fun m0 H0 M H σ D E B L => by
  refine ⟨fun n σ' H' => endP c G m0 (lb m0 M H) (I n) σ' H', ⟨m, M, ρ, E, lb_bs, h0⟩, fun n σ' H' ⟨M2, ρ2, e2, b2, p⟩ => ?_⟩
  obtain ⟨b, ht, h1, h2⟩ := hs n ρ2 p
  refine ht m0 M2 H' σ' e2 _ fun b' H3 f j e => ?_
  subst e
  cases b' with
  | true =>
    refine ⟨fun σ4 H4 => endP c G m0 (lb m0 M H) (fun ρ2 => ∃ m', m' < n ∧ I m' ρ2) σ4 H4, fun σ4 H4 ⟨M4, ρ4, e4, b4, m', lt, p4⟩ => ⟨m', lt, M4, ρ4, e4, b4, p4⟩, ?_⟩
    exact h1 rfl m0 (lb m0 M H) M2 H3 σ' _ (e2.fx f j) (b2.fxx f) (le_turn E.gm B L fun _ _ z => z)
  | false => exact L.nx _ _ ⟨M2, ρ2, e2.fx f j, lb_back E.gm B (b2.fxx f), h2 rfl⟩

/-! ### a def, a call -/
/-- the promise of a def that changes nothing: of the data ds it gives data of which P holds, where R says so -/
def spR (c : Cf) (R : List DV → (DV → Prop) → Prop) : Sp := fun vs H Q _ => ∃ m ds P, (∀ a, m a = true → ∃ o, H a = some o) ∧ RvAll c (hid m H) vs ds ∧ R ds P ∧ ∀ v H' d, Same H H' → Rv c (hid m H') v d → P d → Q v H'
/-- .. by what is asked of x and what comes of it -/
def mkR {α : Type} (pre : α → Prop) (enc : α → List DV) (post : α → DV → Prop) : List DV → (DV → Prop) → Prop := fun ds P => ∃ x, pre x ∧ ds = enc x ∧ ∀ d, post x d → P d
theorem start_get {N : List Str} {vs : List V} {i : Nat} {v : V} (h : vs[i]? = some v) : (L2.start N vs)[i]? = some (some v) := by
  unfold L2.start
  have hl : i < vs.length := (List.getElem?_eq_some_iff.mp h).1
  rw [List.getElem?_append_left (by simpa using hl), List.getElem?_map, h]
  rfl
def args (n : Nat) (ds : List DV) : Rho := ds.map .fz ++ List.replicate (n - ds.length) .no
theorem pure_of {N : List Str} {R : List DV → (DV → Prop) → Prop} {t : TS} (hN : ∀ ds P, R ds P → ds.length ≤ N.length) (h : ∀ ds P, R ds P → Run c G0 t (args N.length ds) (fun o => ∃ d, P d ∧ (o = .rt d ∨ ((∃ ρ, o = .nx ρ) ∧ d = .p .none))))
    (vs : List V) (H : Hp) (Q : VK) (E : XK) (hsp : spR c R vs H Q E) : t { nx := fun _ H' => Q .non H', rt := Q } (L2.start N vs) H := by
  obtain ⟨m, ds, P, al, rv, hR, q⟩ := hsp
  have len := rva_len rv
  have hl := hN ds P hR
  have E : EnvM c G0 m m H (L2.start N vs) (args N.length ds) := by
    have get : ∀ (i : Nat) (s : Slot), (args N.length ds)[i]? = some s → (∃ e, ds[i]? = some e ∧ s = .fz e) ∨ s = .no := fun i s h => by
      unfold args at h
      by_cases hi : i < ds.length
      · rw [List.getElem?_append_left (by simpa using hi), List.getElem?_map, List.getElem?_eq_getElem hi] at h
        exact .inl ⟨ds[i], List.getElem?_eq_getElem hi, (Option.some.inj h).symm⟩
      · rw [List.getElem?_append_right (by simpa using hi), List.getElem?_replicate] at h
        split at h
        · exact .inr (Option.some.inj h).symm
        · cases h
    refine ⟨⟨trivial, al, fun _ h => (nomatch h)⟩, fun _ h => (nomatch h), fun _ h => h, ?_, fun i e h => ?_, fun i e h => ?_, fun i j e e' a h _ _ _ => ?_⟩
    · unfold L2.start args
      rw [List.length_append, List.length_append, List.length_map, List.length_map, List.length_replicate, List.length_replicate, len]
    · rcases get i _ h with ⟨e', h1, h2⟩ | h2
      · cases h2
        obtain ⟨v, h3, h4⟩ := rva_get rv h1
        exact ⟨v, start_get h3, h4⟩
      · cases h2
    · rcases get i _ h with ⟨e', h1, h2⟩ | h2 <;> cases h2
    · rcases get i _ h with ⟨e', h1, h2⟩ | h2 <;> cases h2
  refine h ds P hR m H m H _ _ E ⟨fun a h1 h2 => absurd h1 (by rw [h2]; exact Bool.false_ne_true), Fx.refl⟩ ⟨fun σ' H' ⟨M, ρ, e, b, d, pd, p⟩ => ?_, fun v H' ⟨d', j, f, r, d, pd, p⟩ => ?_, fun σ' H' ⟨M, ρ, e, b, d, pd, p⟩ => ?_, fun σ' H' ⟨M, ρ, e, b, d, pd, p⟩ => ?_⟩
  · rcases p with p | ⟨_, p⟩
    · cases p
    · subst p
      exact q _ _ _ (fun a o z => b.fx a o rfl z) (.p .non) pd
  · rcases p with p | ⟨⟨_, p⟩, _⟩
    · cases p
      exact q _ _ _ (fun a o z => f a o rfl z) r pd
    · cases p
  · rcases p with p | ⟨⟨_, p⟩, _⟩ <;> cases p
  · rcases p with p | ⟨⟨_, p⟩, _⟩ <;> cases p
/-- .. called -/
theorem ev_call {R : List DV → (DV → Prop) → Prop} {E0 : XK} {ta : TA} {PA : List DV → Prop} (h : EvA c G ta ρ PA) (hR : ∀ ds, PA ds → R ds P) : Ev c G (tCall (spR c R) [] E0 ta) ρ P := fun m0 M H σ E Q q =>
  h m0 M H σ E _ fun vs H1 ds f j r p => by
    have k1 := E.k.fx f j
    exact ⟨M, ds, P, k1.al, by rw [List.append_nil]; exact r, hR ds p, fun v H' d s rv hp => q v H' d (f.trans (Fx.of s)) (G.st _ _ j fun a o _ z => s a o z) rv hp⟩
theorem ed_call {R : List DV → (DV → Prop) → Prop} {E0 : XK} {ta : TA} {ds : List PyData} {d : PyData} (h : Ea c G ta ρ ds) (hR : R (ds.map .p) (· = .p d)) : Ed c G (tCall (spR c R) [] E0 ta) ρ d :=
  ev_call h fun l e => by subst e; exact hR
end
end JQ

-- part Pc
set_option Elab.async false
set_option linter.all false
set_option maxRecDepth 100000
set_option maxHeartbeats 2000000
/-! Operators, calls, comprehensions over the plain layer. -/
namespace JQ
open PySem PySem.Spec PyProof.Rows L2
/-! ### the readings, by short names -/
abbrev rAddI : R2 := rI0 fun i j => .int (i + j)
abbrev rSubI : R2 := rI0 fun i j => .int (i - j)
abbrev rMulI : R2 := rI CMul fun i j => .int (i * j)
abbrev rModI : R2 := rI (fun _ j => j ≠ 0) fun i j => .int (i.fmod j)
abbrev rDivI : R2 := rI CDivN fun i j => .int (i.fdiv j)
abbrev rPowI : R2 := rI CPow fun i j => .int (i ^ j.toNat)
abbrev rLtI : R2 := rI0 fun i j => .bl (decide (i < j))
abbrev rLeI : R2 := rI0 fun i j => .bl (decide (i ≤ j))
abbrev rGtI : R2 := rI0 fun i j => .bl (decide (j < i))
abbrev rGeI : R2 := rI0 fun i j => .bl (decide (j ≤ i))
abbrev rAddS : R2 := fun x y H Q => ∃ i j, x = .str i ∧ y = .str j ∧ i.length + j.length ≤ sizeLine ∧ Q (.str (i ++ j)) H
abbrev rInS : R2 := fun x y H Q => ∃ (c : Nat) (z : Str), x = .str ⟨#[c]⟩ ∧ y = .str z ∧ Q (.bl (decide (c ∈ z.cps.toList))) H
abbrev rNiS : R2 := fun x y H Q => ∃ (c : Nat) (z : Str), x = .str ⟨#[c]⟩ ∧ y = .str z ∧ Q (.bl (!decide (c ∈ z.cps.toList))) H
abbrev rIsN : R2 := fun x y H Q => y = .non ∧ Q (.bl (decide (x = .non))) H
abbrev rNotN : R2 := fun x y H Q => y = .non ∧ Q (.bl (!decide (x = .non))) H
/-- d < e of data -/
def rLtD (K : PySem.W.Frag) : R2 := fun x y H Q => ∃ d e, Dp K H x d ∧ Dp K H y e ∧ PySem.W.alike d e = true ∧ d ≠ .none ∧ d.depth ≤ 60 ∧ Q (.bl (PySem.W.dataLt d e)) H
/-- no dict lies within, and it isn't deep -/
def fine (d : PyData) : Prop := d.plain = true ∧ d.depth ≤ 60
/-- ==, != of data -/
def rEqP (K : PySem.W.Frag) : R2 := fun x y H Q => ∃ d e, Dp K H x d ∧ Dp K H y e ∧ fine d ∧ e.plain = true ∧ Q (.bl (PyData.eqv d e)) H
def rNeP (K : PySem.W.Frag) : R2 := fun x y H Q => ∃ d e, Dp K H x d ∧ Dp K H y e ∧ fine d ∧ e.plain = true ∧ Q (.bl (!PyData.eqv d e)) H
/-- in, not in, of a list or a tuple of data -/
def rInX (K : PySem.W.Frag) : R2 := fun x y H Q => ∃ d ds, Dp K H x d ∧ (Dp K H y (.list ds) ∨ Dp K H y (.tuple ds)) ∧ fine d ∧ PyData.plainAll ds = true ∧ Q (.bl (ds.any fun z => PyData.eqv z d)) H
def rNiX (K : PySem.W.Frag) : R2 := fun x y H Q => ∃ d ds, Dp K H x d ∧ (Dp K H y (.list ds) ∨ Dp K H y (.tuple ds)) ∧ fine d ∧ PyData.plainAll ds = true ∧ Q (.bl (!ds.any fun z => PyData.eqv z d)) H
abbrev rLen (K : PySem.W.Frag) : List V → Hp → VK → Prop := fun xs H Q => ∃ x n, xs = [x] ∧ LenV K x H n ∧ Q (.int n) H
abbrev rTupOf (K : PySem.W.Frag) : List V → Hp → VK → Prop := fun xs H Q => ∃ p ys, xs = [.ref p] ∧ ((SqL K H p ys ∧ ∀ l, H l = none → Q (.ref l) (upd H l (.tup ys))) ∨ (SqT K H p ys ∧ Q (.ref p) H))
abbrev rListOf (K : PySem.W.Frag) : List V → Hp → VK → Prop := fun xs H Q => ∃ p ys, xs = [.ref p] ∧ (SqL K H p ys ∨ SqT K H p ys) ∧ ∀ l, H l = none → Q (.ref l) (upd H l (.lst ys))
abbrev rAbs : List V → Hp → VK → Prop := fun xs H Q => ∃ i, xs = [.int i] ∧ Q (.int (if i < 0 then -i else i)) H
abbrev rInt1 : List V → Hp → VK → Prop := fun xs H Q => (∃ i, xs = [.int i] ∧ Q (.int i) H) ∨ ∃ k, xs = [.bl k] ∧ Q (.int (if k then 1 else 0)) H
abbrev rStrI : List V → Hp → VK → Prop := fun xs H Q => ∃ i, xs = [.int i] ∧ i.natAbs.log2 < 1920 ∧ Q (.str (toString i)) H
abbrev rMin2 : List V → Hp → VK → Prop := fun xs H Q => ∃ i j, xs = [.int i, .int j] ∧ Q (.int (if j < i then j else i)) H
def isNon : DV → Bool
  | .p .none => true
  | _ => false
/-- sorted of data: the one ascending list -/
def rSortD (K : PySem.W.Frag) : List V → Hp → VK → Prop := fun vs H Q => ∃ (a : Addr) (xs : List V) (ds : List PyData) (R : V → PyData → Prop), vs = [V.ref a] ∧ (SqL K H a xs ∨ SqT K H a xs) ∧ DpAll K H xs ds ∧ Paired R xs ds ∧ PySem.W.AllAlike ds ∧ PySem.W.Sortable ds ∧ (∀ d ∈ ds, d.depth ≤ 60) ∧
  ∀ p out, H p = none → Paired R out (ds.mergeSort (PySem.W.dataLe false id)) → Q (.ref p) (upd H p (.lst out))
/-- t.index(x): texts -/
abbrev rTIndex (K : PySem.W.Frag) : V → List V → Hp → VK → Prop := fun x xs H Q => ∃ p, ∃ ys : List Str, ∃ z j, x = .ref p ∧ xs = [.str z] ∧ SqT K H p (ys.map V.str) ∧ ys[j]? = some z ∧ (∀ m, m < j → ys[m]? ≠ some z) ∧ Q (.int (j : Nat)) H

theorem paired_dpa {K : PySem.W.Frag} {H : Hp} : ∀ {vs : List V} {ds : List PyData}, DpAll K H vs ds → Paired (Dp K H) vs ds
  | _, _, .nil => .nil
  | _, _, .cons h r => .cons h (paired_dpa r)
theorem dpa_paired {K : PySem.W.Frag} {H : Hp} : ∀ {vs : List V} {ds : List PyData}, Paired (Dp K H) vs ds → DpAll K H vs ds
  | _, _, .nil => .nil
  | _, _, .cons h r => .cons h (dpa_paired r)
section
variable {c : Cf} {G : Gx} {te ta tb : TE} {ρ : Rho} {P P1 P2 : DV → Prop}
/-! ### operators on numbers -/
theorem od_val {r : R2} {x y : DV} {z : PyData} {w : V} (hw : ∀ H : Hp, Dp c.K H w z) (h : ∀ M H u v, Hk G M H → Rs c G M H u x → Rs c G M H v y → ∀ Q : VK, Q w H → r u v H Q) : OpD c G r x y (· = .p z) :=
  fun M H u v k ru rv Q q => h M H u v k ru rv Q (q _ H _ Fx.refl k.J (.p (hw _)) rfl)
theorem od_ii0 {g : Int → Int → V} {i j : Int} {z : PyData} (hw : ∀ H : Hp, Dp c.K H (g i j) z) : OpD c G (rI0 g) (.p (.int i)) (.p (.int j)) (· = .p z) := od_val hw fun M H u v k ru rv Q q => ⟨i, j, ru.int, rv.int, q⟩
theorem od_ii {C : Int → Int → Prop} {g : Int → Int → V} {i j : Int} {z : PyData} (hc : C i j) (hw : ∀ H : Hp, Dp c.K H (g i j) z) : OpD c G (rI C g) (.p (.int i)) (.p (.int j)) (· = .p z) := od_val hw fun M H u v k ru rv Q q => ⟨i, j, ru.int, rv.int, hc, q⟩
theorem od_add {i j : Int} : OpD c G rAddI (.p (.int i)) (.p (.int j)) (· = .p (.int (i + j))) := od_ii0 fun _ => .int _
theorem od_sub {i j : Int} : OpD c G rSubI (.p (.int i)) (.p (.int j)) (· = .p (.int (i - j))) := od_ii0 fun _ => .int _
theorem od_mul {i j : Int} (h : CMul i j) : OpD c G rMulI (.p (.int i)) (.p (.int j)) (· = .p (.int (i * j))) := od_ii h fun _ => .int _
theorem od_mod {i j : Int} (h : j ≠ 0) : OpD c G rModI (.p (.int i)) (.p (.int j)) (· = .p (.int (i.fmod j))) := od_ii h fun _ => .int _
theorem od_div {i j : Int} (h : CDivN i j) : OpD c G rDivI (.p (.int i)) (.p (.int j)) (· = .p (.int (i.fdiv j))) := od_ii h fun _ => .int _
theorem od_pow {i j : Int} (h : CPow i j) : OpD c G rPowI (.p (.int i)) (.p (.int j)) (· = .p (.int (i ^ j.toNat))) := od_ii h fun _ => .int _
theorem od_lt {i j : Int} : OpD c G rLtI (.p (.int i)) (.p (.int j)) (· = .p (.bool (decide (i < j)))) := od_ii0 fun _ => .bl _
theorem od_le {i j : Int} : OpD c G rLeI (.p (.int i)) (.p (.int j)) (· = .p (.bool (decide (i ≤ j)))) := od_ii0 fun _ => .bl _
theorem od_gt {i j : Int} : OpD c G rGtI (.p (.int i)) (.p (.int j)) (· = .p (.bool (decide (j < i)))) := od_ii0 fun _ => .bl _
theorem od_ge {i j : Int} : OpD c G rGeI (.p (.int i)) (.p (.int j)) (· = .p (.bool (decide (j ≤ i)))) := od_ii0 fun _ => .bl _
theorem od_adds {x y : Str} (h : x.length + y.length ≤ sizeLine) : OpD c G rAddS (.p (.str x)) (.p (.str y)) (· = .p (.str (x ++ y))) := od_val (fun _ => .str _) fun M H u v k ru rv Q q => ⟨x, y, ru.str, rv.str, h, q⟩
theorem od_inS {a : Nat} {z : Str} : OpD c G rInS (.p (.str ⟨#[a]⟩)) (.p (.str z)) (· = .p (.bool (decide (a ∈ z.cps.toList)))) := od_val (fun _ => .bl _) fun M H u v k ru rv Q q => ⟨a, z, ru.str, rv.str, q⟩
theorem od_niS {a : Nat} {z : Str} : OpD c G rNiS (.p (.str ⟨#[a]⟩)) (.p (.str z)) (· = .p (.bool (!decide (a ∈ z.cps.toList)))) := od_val (fun _ => .bl _) fun M H u v k ru rv Q q => ⟨a, z, ru.str, rv.str, q⟩
/-! ### equality, order, membership of data -/
theorem od_eq {d e : PyData} (hd : fine d) (he : e.plain = true) : OpD c G (rEqP c.K) (.p d) (.p e) (· = .p (.bool (PyData.eqv d e))) := od_val (fun _ => .bl _) fun M H u v k ru rv Q q => ⟨d, e, ru.dp, rv.dp, hd, he, q⟩
theorem od_ne {d e : PyData} (hd : fine d) (he : e.plain = true) : OpD c G (rNeP c.K) (.p d) (.p e) (· = .p (.bool (!PyData.eqv d e))) := od_val (fun _ => .bl _) fun M H u v k ru rv Q q => ⟨d, e, ru.dp, rv.dp, hd, he, q⟩
theorem od_ltD {d e : PyData} (h : PySem.W.alike d e = true) (hn : d ≠ .none) (hp : d.depth ≤ 60) : OpD c G (rLtD c.K) (.p d) (.p e) (· = .p (.bool (PySem.W.dataLt d e))) := od_val (fun _ => .bl _) fun M H u v k ru rv Q q => ⟨d, e, ru.dp, rv.dp, h, hn, hp, q⟩
theorem od_inL {d : PyData} {ds : List PyData} (hd : fine d) (he : PyData.plainAll ds = true) : OpD c G (rInX c.K) (.p d) (.p (.list ds)) (· = .p (.bool (ds.any fun z => PyData.eqv z d))) := od_val (fun _ => .bl _) fun M H u v k ru rv Q q => ⟨d, ds, ru.dp, .inl rv.dp, hd, he, q⟩
theorem od_inT {d : PyData} {ds : List PyData} (hd : fine d) (he : PyData.plainAll ds = true) : OpD c G (rInX c.K) (.p d) (.p (.tuple ds)) (· = .p (.bool (ds.any fun z => PyData.eqv z d))) := od_val (fun _ => .bl _) fun M H u v k ru rv Q q => ⟨d, ds, ru.dp, .inr rv.dp, hd, he, q⟩
theorem od_niL {d : PyData} {ds : List PyData} (hd : fine d) (he : PyData.plainAll ds = true) : OpD c G (rNiX c.K) (.p d) (.p (.list ds)) (· = .p (.bool (!ds.any fun z => PyData.eqv z d))) := od_val (fun _ => .bl _) fun M H u v k ru rv Q q => ⟨d, ds, ru.dp, .inl rv.dp, hd, he, q⟩
theorem od_niT {d : PyData} {ds : List PyData} (hd : fine d) (he : PyData.plainAll ds = true) : OpD c G (rNiX c.K) (.p d) (.p (.tuple ds)) (· = .p (.bool (!ds.any fun z => PyData.eqv z d))) := od_val (fun _ => .bl _) fun M H u v k ru rv Q q => ⟨d, ds, ru.dp, .inr rv.dp, hd, he, q⟩
/-- x is None -/
theorem rv_non {H : Hp} {v : V} {d : DV} (h : Rv c H v d) : decide (v = .non) = isNon d := by
  cases h with
  | p h => cases h <;> simp [isNon]
  | _ => simp [isNon]
theorem od_isN {x : DV} : OpD c G rIsN x (.p .none) (· = .p (.bool (isNon x))) := fun M H u v k ru rv Q q => ⟨rv.non, q _ H _ Fx.refl k.J (.p (.bl _)) (by rw [rv_non ru.full])⟩
theorem od_notN {x : DV} : OpD c G rNotN x (.p .none) (· = .p (.bool (!isNon x))) := fun M H u v k ru rv Q q => ⟨rv.non, q _ H _ Fx.refl k.J (.p (.bl _)) (by rw [rv_non ru.full])⟩
theorem od_isB {a b : Bool} : OpD c G rIsB (.p (.bool a)) (.p (.bool b)) (· = .p (.bool (decide (a = b)))) := od_val (fun _ => .bl _) fun M H u v k ru rv Q q => ⟨a, b, ru.bl, rv.bl, q⟩
/-! ### items -/
theorem at_len {K : PySem.W.Frag} {H : Hp} {vs : List V} {ds : List PyData} {i : Int} {d : PyData} (h : DpAll K H vs ds) (e : atI ds i = some d) : ∃ v, atI vs i = some v ∧ Dp K H v d := by
  unfold atI at e ⊢
  rw [dpa_len h]
  cases q : ixN ds.length i with
  | none => rw [q] at e; cases e
  | some j =>
    rw [q] at e
    obtain ⟨v, h1, h2⟩ := dpa_get h (show ds[j]? = some d from e)
    exact ⟨v, h1, h2⟩
theorem od_ixL {ds : List PyData} {i : Int} {d : PyData} (h : atI ds i = some d) : OpD c G (rIx c.K) (.p (.list ds)) (.p (.int i)) (· = .p d) := fun M H u v k ru rv Q q => by
  obtain ⟨a, vs, e, h1, h2⟩ := ru.lst
  obtain ⟨w, h3, h4⟩ := at_len h2 h
  exact .inl ⟨a, vs, i, w, e, rv.int, h1, h3, q _ H _ Fx.refl k.J (.p h4) rfl⟩
theorem od_ixT {ds : List PyData} {i : Int} {d : PyData} (h : atI ds i = some d) : OpD c G (rIx c.K) (.p (.tuple ds)) (.p (.int i)) (· = .p d) := fun M H u v k ru rv Q q => by
  obtain ⟨a, vs, e, h1, h2⟩ := ru.tup
  obtain ⟨w, h3, h4⟩ := at_len h2 h
  exact .inr (.inl ⟨a, vs, i, w, e, rv.int, h1, h3, q _ H _ Fx.refl k.J (.p h4) rfl⟩)
theorem od_ixS {z : Str} {i : Int} {a : Nat} (hz : z.length ≤ sizeLine) (h : atI z.cps.toList i = some a) : OpD c G (rIx c.K) (.p (.str z)) (.p (.int i)) (· = .p (.str ⟨#[a]⟩)) := fun M H u v k ru rv Q q =>
  .inr (.inr ⟨z, i, a, ru.str, rv.int, hz, h, q _ H _ Fx.refl k.J (.p (.str _)) rfl⟩)
theorem at_nat {α : Type} {xs : List α} {j : Nat} {v : α} (h : xs[j]? = some v) : atI xs (j : Int) = some v := atI_nat h
/-! ### tuples put together, cut -/
theorem od_catT {ds es : List PyData} (hl : ds.length + es.length ≤ sizeLine) : OpD c G (rCatA c.K) (.p (.tuple ds)) (.p (.tuple es)) (· = .p (.tuple (ds ++ es))) := fun M H u v k ru rv Q q => by
  obtain ⟨a, vs, e, h1, h2⟩ := ru.tup
  obtain ⟨b, ws, e', g1, g2⟩ := rv.tup
  have l1 := dpa_len h2
  have l2 := dpa_len g2
  refine ⟨a, b, vs, ws, e, e', h1, g1, by omega, fun z => ?_, fun z z' => ?_, fun z z' p n => ?_⟩
  · subst z
    cases h2
    rw [e'] at rv
    rcases rv with r | ⟨_, e2, _, _, r⟩
    · exact q _ H _ Fx.refl k.J r rfl
    · exact r.elim
  · subst z'
    cases g2
    rw [e] at ru
    rcases ru with r | ⟨_, e2, _, _, r⟩
    · exact q _ H _ Fx.refl k.J r (by rw [List.append_nil])
    · exact r.elim
  · exact q _ _ _ (Fx.of (same_new n)) (k.jnew n) (rv_newT k n (dpa_app h2 g2)) rfl
theorem flat_rep {K : PySem.W.Frag} {H : Hp} {vs : List V} {ds : List PyData} (h : DpAll K H vs ds) : ∀ n : Nat, DpAll K H (List.replicate n vs).flatten (List.replicate n ds).flatten
  | 0 => .nil
  | n + 1 => by
    rw [List.replicate_succ, List.replicate_succ, List.flatten_cons, List.flatten_cons]
    exact dpa_app h (flat_rep h n)
/-- what a slice takes -/
def cutD {α : Type} (ds : List α) (lo hi : Option Int) : List α := (ds.drop (HT.sIx ds.length 0 lo)).take (HT.sIx ds.length ds.length hi - HT.sIx ds.length 0 lo)
theorem dpa_cut {K : PySem.W.Frag} {H : Hp} {vs : List V} {ds : List PyData} (h : DpAll K H vs ds) (lo hi : Option Int) : DpAll K H (cutV vs lo hi) (cutD ds lo hi) := by
  unfold cutV cutD
  rw [dpa_len h]
  exact dpa_take _ (dpa_drop _ h)
def EvO (c : Cf) (G : Gx) (to : TO) (ρ : Rho) (P : Option Int → Prop) : Prop := ∀ m0 M H σ, EnvM c G m0 M H σ ρ → ∀ Q : Option Int → Hp → Prop, (∀ o H', Fx G H H' → G.J H' → P o → Q o H') → to σ H Q
theorem eo_none : EvO c G tNoPart ρ (· = none) := fun m0 M H σ E Q q => q _ H Fx.refl E.k.J rfl
theorem eo_some {i : Int} (h : Es c G te ρ (.int i)) : EvO c G (tPart te) ρ (· = some i) := fun m0 M H σ E Q q => h m0 M H σ E _ fun v H' d f j r e => by subst e; exact ⟨i, r.int, q _ H' f j rfl⟩
theorem eo_someP {PI : Int → Prop} (h : EvS c G te ρ (fun d => ∃ i, d = .p (.int i) ∧ PI i)) : EvO c G (tPart te) ρ (fun o => ∃ i, o = some i ∧ PI i) := fun m0 M H σ E Q q => h m0 M H σ E _ fun v H' d f j r ⟨i, e, p⟩ => by subst e; exact ⟨i, r.int, q _ H' f j ⟨i, rfl, p⟩⟩
theorem ed_slT {tl th : TO} {ds : List PyData} {lo hi : Option Int} (h : Es c G te ρ (.tuple ds)) (h1 : EvO c G tl ρ (· = lo)) (h2 : EvO c G th ρ (· = hi)) : Ed c G (tSl (rSlA c.K) te tl th) ρ (.tuple (cutD ds lo hi)) := fun m0 M H σ E Q q =>
  h m0 M H σ E _ fun v H1 d f1 j1 r1 e1 => h1 m0 M H1 σ (E.fx f1 j1) _ fun o1 H2 f2 j2 e2 => h2 m0 M H2 σ ((E.fx f1 j1).fx f2 j2) _ fun o2 H3 f3 j3 e3 => by
    subst e1 e2 e3
    have k1 := E.k.fx f1 j1
    have k2 := k1.fx f2 j2
    have k3 := k2.fx f3 j3
    have r3 := (r1.fx k1 f2).fx k2 f3
    have F := (f1.trans f2).trans f3
    obtain ⟨a, vs, e, g1, g2⟩ := r3.tup
    refine ⟨a, vs, e, g1, fun ⟨z1, z2⟩ => ?_, fun _ p n => ?_⟩
    · have ec : cutD ds o1 o2 = ds := by
        unfold cutD
        rw [← dpa_len g2, z1, z2, dpa_len g2, List.drop_zero, Nat.sub_zero, List.take_length]
      rw [e] at r3
      rcases r3 with r | ⟨_, _, _, _, r⟩
      · exact q _ H3 _ F j3 r (by rw [ec])
      · exact r.elim
    · exact q _ _ _ (F.trans (Fx.of (same_new n))) (k3.jnew n) (rv_newT k3 n (dpa_cut g2 _ _)) rfl
theorem en_slLP {tl th : TO} {ds : List PyData} {PL PH : Option Int → Prop} (h : Es c G te ρ (.list ds)) (h1 : EvO c G tl ρ PL) (h2 : EvO c G th ρ PH) : EvN c G (tSl (rSlL c.K) te tl th) ρ (fun d => ∃ lo hi, PL lo ∧ PH hi ∧ d = .p (.list (cutD ds lo hi))) := fun m0 M H σ E Q q =>
  h m0 M H σ E _ fun v H1 d f1 j1 r1 e1 => h1 m0 M H1 σ (E.fx f1 j1) _ fun o1 H2 f2 j2 e2 => h2 m0 M H2 σ ((E.fx f1 j1).fx f2 j2) _ fun o2 H3 f3 j3 e3 => by
    subst e1
    have k1 := E.k.fx f1 j1
    have k2 := k1.fx f2 j2
    have k3 := k2.fx f3 j3
    have r3 := (r1.fx k1 f2).fx k2 f3
    have F := (f1.trans f2).trans f3
    obtain ⟨a, vs, e, g1, g2⟩ := r3.lst
    exact ⟨a, vs, e, g1, fun p n => q p _ _ (free_of E.k F n j3) (F.trans (Fx.of (same_new n))) (k3.jnew n) (ow_newL k3 n (dpa_cut g2 _ _)) ⟨o1, o2, e2, e3, rfl⟩⟩
theorem en_slL {tl th : TO} {ds : List PyData} {lo hi : Option Int} (h : Es c G te ρ (.list ds)) (h1 : EvO c G tl ρ (· = lo)) (h2 : EvO c G th ρ (· = hi)) : En c G (tSl (rSlL c.K) te tl th) ρ (.list (cutD ds lo hi)) :=
  (en_slLP h h1 h2).imp fun d ⟨lo', hi', e1, e2, e⟩ => by subst e1; subst e2; exact e
theorem cut_from {α : Type} (ds : List α) (k : Nat) : cutD ds (some (k : Int)) none = ds.drop k := by
  unfold cutD
  rw [HT.sIx_nat, HT.sIx_none, List.take_of_length_le (by rw [List.length_drop]; omega)]
  by_cases h : k ≤ ds.length
  · rw [Nat.min_eq_left h]
  · rw [Nat.min_eq_right (by omega), List.drop_length, List.drop_eq_nil_of_le (by omega)]
theorem cut_to {α : Type} (ds : List α) (k : Nat) : cutD ds none (some (k : Int)) = ds.take k := by
  unfold cutD
  rw [HT.sIx_nat, HT.sIx_none, List.drop_zero, Nat.sub_zero]
  by_cases h : k ≤ ds.length
  · rw [Nat.min_eq_left h]
  · rw [Nat.min_eq_right (by omega), List.take_length, List.take_of_length_le (by omega)]
/-- xs + a new list, xs one's own -/
theorem en_cat {i : Nat} {ds es : List PyData} (h : ρ[i]? = some (.ow (.p (.list ds)))) (hb : En c G tb ρ (.list es)) (hl : ds.length + es.length ≤ sizeLine) : En c G (tOp rCat (tVar i) tb) ρ (.list (ds ++ es)) := fun m0 M H σ E Q q => by
  obtain ⟨a, h1, h2, h3, vs, h4, h5⟩ := E.ow i _ h
  refine ⟨.ref a, h1, hb m0 M H σ E _ fun p H1 d n f j o e => ?_⟩
  subst e
  obtain ⟨ws, g1, g2⟩ := o
  have E1 := E.fx f j
  obtain ⟨a', q1, q2, q3, vs', q4, q5⟩ := E1.ow i _ h
  have ea : a' = a := by rw [h1] at q1; injection q1 with q1; injection q1 with q1; injection q1 with q1; exact q1.symm
  subst ea
  refine ⟨a', p, vs', ws, rfl, rfl, q4, g1, by rw [dpa_len q5, dpa_len g2]; exact hl, fun p2 n2 => ?_⟩
  exact q p2 _ _ (free_of E.k f n2 j) (f.trans (Fx.of (same_new n2))) (E1.k.jnew n2) (ow_newL E1.k n2 (dpa_app q5 (dpa_mono (hid_less ins_less) g2))) rfl
/-! ### calls -/
theorem cb_val {r : List V → Hp → VK → Prop} {x : DV} {z : PyData} {w : V} (hw : ∀ H : Hp, Dp c.K H w z) (h : ∀ M H u, Hk G M H → Rs c G M H u x → ∀ Q : VK, Q w H → r [u] H Q) : CbD c G r x (· = .p z) :=
  fun M H u k ru Q q => h M H u k ru Q (q _ H _ Fx.refl k.J (.p (hw _)) rfl)
theorem cb_lenL {ds : List PyData} : CbD c G (rLen c.K) (.p (.list ds)) (· = .p (.int (ds.length : Int))) := cb_val (fun _ => .int _) fun M H u k ru Q q => by
  obtain ⟨a, vs, e, h1, h2⟩ := ru.lst
  exact ⟨u, ds.length, rfl, by subst e; exact .inl ⟨vs, h1, (dpa_len h2).symm⟩, q⟩
theorem cb_lenT {ds : List PyData} : CbD c G (rLen c.K) (.p (.tuple ds)) (· = .p (.int (ds.length : Int))) := cb_val (fun _ => .int _) fun M H u k ru Q q => by
  obtain ⟨a, vs, e, h1, h2⟩ := ru.tup
  exact ⟨u, ds.length, rfl, by subst e; exact .inr ⟨vs, h1, (dpa_len h2).symm⟩, q⟩
theorem cb_lenX {ds : List DV} : CbD c G (rLen c.K) (.l ds) (· = .p (.int (ds.length : Int))) := cb_val (fun _ => .int _) fun M H u k ru Q q => by
  obtain ⟨a, vs, e, h1, h2⟩ := ru.ll
  exact ⟨u, ds.length, rfl, by subst e; exact .inl ⟨vs, SqL.of h1, (rva_len h2).symm⟩, q⟩
theorem cb_lenS {z : Str} (hz : z.length ≤ sizeLine) : CbD c G (rLen c.K) (.p (.str z)) (· = .p (.int (z.length : Int))) := cb_val (fun _ => .int _) fun M H u k ru Q q =>
  ⟨u, z.length, rfl, by rw [ru.str]; exact ⟨hz, rfl⟩, q⟩
theorem cb_all {bs : List Bool} : CbD c G (rAll c.K) (.p (.list (bs.map .bool))) (· = .p (.bool (bs.all id))) := cb_val (fun _ => .bl _) fun M H u k ru Q q => by
  obtain ⟨a, vs, e, h1, h2⟩ := ru.lst
  rw [dpa_bools h2] at h1
  exact ⟨a, bs, by rw [e], h1, q⟩
theorem cb_any {bs : List Bool} : CbD c G (rAny c.K) (.p (.list (bs.map .bool))) (· = .p (.bool (bs.any id))) := cb_val (fun _ => .bl _) fun M H u k ru Q q => by
  obtain ⟨a, vs, e, h1, h2⟩ := ru.lst
  rw [dpa_bools h2] at h1
  exact ⟨a, bs, by rw [e], h1, q⟩
theorem cb_tupL {ds : List PyData} : CbD c G (rTupOf c.K) (.p (.list ds)) (· = .p (.tuple ds)) := fun M H u k ru Q q => by
  obtain ⟨a, vs, e, h1, h2⟩ := ru.lst
  exact ⟨a, vs, by rw [e], .inl ⟨h1, fun p n => q _ _ _ (Fx.of (same_new n)) (k.jnew n) (rv_newT k n h2) rfl⟩⟩
theorem cb_abs {i : Int} : CbD c G rAbs (.p (.int i)) (· = .p (.int (if i < 0 then -i else i))) := cb_val (fun _ => .int _) fun M H u k ru Q q => ⟨i, by rw [ru.int], q⟩
theorem cb_int {i : Int} : CbD c G rInt1 (.p (.int i)) (· = .p (.int i)) := cb_val (fun _ => .int _) fun M H u k ru Q q => .inl ⟨i, by rw [ru.int], q⟩
theorem cb_str {i : Int} (h : i.natAbs.log2 < 1920) : CbD c G rStrI (.p (.int i)) (· = .p (.str (toString i))) := cb_val (fun _ => .str _) fun M H u k ru Q q => ⟨i, by rw [ru.int], h, q⟩
theorem ed_min2 {i j : Int} (ha : Ed c G ta ρ (.int i)) (hb : Ed c G tb ρ (.int j)) : Ed c G (tCB rMin2 (tCons ta (tCons tb tNil))) ρ (.int (if j < i then j else i)) := fun m0 M H σ E Q q =>
  ea_cons ha (ea_cons hb ea_nil) m0 M H σ E _ fun vs H1 ds f j1 r e => by
    subst e
    have r := rva_p (ds := [.int i, .int j]) r
    cases r with
    | cons r1 r2 => cases r2 with
      | cons r2 r3 => cases r3; cases r1; cases r2; exact ⟨i, j, rfl, q _ H1 _ f j1 (.p (.int _)) rfl⟩
/-- sorted -/
theorem cb_sort {ds : List PyData} (ha : PySem.W.AllAlike ds) (hs : PySem.W.Sortable ds) (hp : ∀ d ∈ ds, d.depth ≤ 60) : CbN c G (rSortD c.K) (.p (.list ds)) (· = .p (.list (ds.mergeSort (PySem.W.dataLe false id)))) := fun M H u k ru Q q => by
  obtain ⟨a, vs, e, h1, h2⟩ := ru.lst
  exact ⟨a, vs, ds, Dp c.K (hid M H), by rw [e], .inl h1, dpa_mono hid_same h2, paired_dpa h2, ha, hs, hp, fun p out n ho => q p _ _ n (Fx.of (same_new n)) (k.jnew n) (ow_newL k n (dpa_paired ho)) rfl⟩
theorem cb_sortT {ds : List PyData} (ha : PySem.W.AllAlike ds) (hs : PySem.W.Sortable ds) (hp : ∀ d ∈ ds, d.depth ≤ 60) : CbN c G (rSortD c.K) (.p (.tuple ds)) (· = .p (.list (ds.mergeSort (PySem.W.dataLe false id)))) := fun M H u k ru Q q => by
  obtain ⟨a, vs, e, h1, h2⟩ := ru.tup
  exact ⟨a, vs, ds, Dp c.K (hid M H), by rw [e], .inr h1, dpa_mono hid_same h2, paired_dpa h2, ha, hs, hp, fun p out n ho => q p _ _ n (Fx.of (same_new n)) (k.jnew n) (ow_newL k n (dpa_paired ho)) rfl⟩
end
end JQ

-- part Pd
set_option Elab.async false
set_option linter.all false
set_option maxRecDepth 100000
set_option maxHeartbeats 2000000
/-! Comprehensions and dicts over the plain layer. -/
namespace JQ
open PySem PySem.Spec PyProof.Rows L2
section
variable {c : Cf} {G : Gx} {te ta tb tl : TE} {ρ : Rho} {P P1 P2 : DV → Prop}
/-! ### what is walked -/
/-- wi walks the items ds, from here -/
def SrcAt (c : Cf) (G : Gx) (wi : TI) (ds : List DV) (M : Addr → Bool) (H : Hp) (σ : L2.St) : Prop := ∀ R : It → Hp → Prop,
  (∀ J H1 (Gw : Hp → Prop) (Y : Nat → Hp → V → Hp → Prop), Fx G H H1 → G.J H1 → Walk J ds.length Gw Y → (∀ H2, Same (hid M H1) H2 → Gw H2) →
    (∀ i H2 x H3, i < ds.length → Y i H2 x H3 → H3 = H2 ∧ ∃ d, ds[i]? = some d ∧ Rv c (hid M H1) x d) → R J H1) → wi σ H R
/-- wi walks the items ds -/
def Src (c : Cf) (G : Gx) (wi : TI) (ρ : Rho) (ds : List DV) : Prop := ∀ m0 M H σ, EnvM c G m0 M H σ ρ → SrcAt c G wi ds M H σ
theorem src_tup {ds : List PyData} (h : Ed c G tl ρ (.tuple ds)) : Src c G (iTup c.K tl) ρ (ds.map .p) := fun m0 M H σ E R q => h m0 M H σ E _ fun v H1 d f j r e => by
  subst e
  have r := rv_p r
  cases r with
  | @tup a vs _ ha hv =>
    refine ⟨a, rfl, ⟨vs, same_t hid_same ha⟩, q _ H1 (fun H => SqT c.K H a vs) (YAt vs) f j ?_ (fun H2 s => same_t s ha) fun i H2 x H3 hi y => ⟨y.1, ?_⟩⟩
    · have w := walk_tup (K := c.K) (a := a) (xs := vs)
      rw [dpa_len hv] at w
      rw [List.length_map]; exact w
    · obtain ⟨d, h1, h2⟩ := dpa_get' hv y.2
      exact ⟨.p d, by rw [List.getElem?_map, h1]; rfl, .p h2⟩
theorem src_list {ds : List PyData} (h : Ed c G tl ρ (.list ds)) : Src c G (iList c.K tl) ρ (ds.map .p) := fun m0 M H σ E R q => h m0 M H σ E _ fun v H1 d f j r e => by
  subst e
  have r := rv_p r
  cases r with
  | @lst a vs _ ha hv =>
    refine ⟨a, rfl, ⟨vs, same_l hid_same ha⟩, q _ H1 (fun H => SqL c.K H a vs) (YAt vs) f j ?_ (fun H2 s => same_l s ha) fun i H2 x H3 hi y => ⟨y.1, ?_⟩⟩
    · have w := walk_list (K := c.K) (a := a) (xs := vs)
      rw [dpa_len hv] at w
      rw [List.length_map]; exact w
    · obtain ⟨d, h1, h2⟩ := dpa_get' hv y.2
      exact ⟨.p d, by rw [List.getElem?_map, h1]; rfl, .p h2⟩
theorem src_any {ds : List DV} (h : Ev c G tl ρ (· = .l ds)) : Src c G (iList c.K tl) ρ ds := fun m0 M H σ E R q => h m0 M H σ E _ fun v H1 d f j r e => by
  subst e
  cases r with
  | @l a vs _ ha hv =>
    refine ⟨a, rfl, ⟨vs, same_l hid_same (SqL.of ha)⟩, q _ H1 (fun H => SqL c.K H a vs) (YAt vs) f j ?_ (fun H2 s => same_l s (SqL.of ha)) fun i H2 x H3 hi y => ⟨y.1, ?_⟩⟩
    · have w := walk_list (K := c.K) (a := a) (xs := vs)
      rw [rva_len hv] at w
      exact w
    · obtain ⟨d, h1, h2⟩ := rva_get' hv y.2
      exact ⟨d, h1, h2⟩
theorem src_range {n : Nat} (h : Es c G ta ρ (.int (n : Int))) (hn : n < 1000000) : Src c G (iRng1 (tCons ta tNil)) ρ ((List.range n).map fun i => .p (.int ((i : Nat) : Int))) := fun m0 M H σ E R q => h m0 M H σ E _ fun v H1 d f j r e => by
  subst e
  refine ⟨(n : Int), by rw [r.int], by omega, by omega, ?_⟩
  refine q _ H1 (fun _ => True) (YFn fun i => .int (0 + (i : Int))) f j ?_ (fun _ _ => trivial) fun i H2 x H3 hi y => ⟨y.1, ?_⟩
  · rw [List.length_map, List.length_range, Int.toNat_natCast]
    exact walk_range
  · rw [List.length_map, List.length_range] at hi
    refine ⟨.p (.int (i : Int)), by rw [List.getElem?_map, List.getElem?_range hi]; rfl, ?_⟩
    have e0 : (0 : Int) + (i : Int) = (i : Int) := Int.zero_add _
    rw [y.2]; show Rv c (hid M H1) (V.int ((0 : Int) + (i : Int))) _; rw [e0]; exact .p (.int _)
theorem src_range2 {lo n : Nat} (h : Es c G ta ρ (.int (lo : Int))) (h' : Es c G tb ρ (.int (n : Int))) (hn : n < 1000000) (hlo : lo < 1000000) : Src c G (iRng2 (tCons ta (tCons tb tNil))) ρ ((List.range (n - lo)).map fun i => .p (.int ((lo + i : Nat) : Int))) := fun m0 M H σ E R q => h m0 M H σ E _ fun v H1 d f j r e => h' m0 M H1 σ (E.fx f j) _ fun v' H1' d' f' j' r' e' => by
  subst e e'
  have r1 := r.fx (E.k.fx f j) f'
  refine ⟨(lo : Int), (n : Int), by rw [r1.int, r'.int], ⟨by omega, by omega, by omega, by omega⟩, ?_⟩
  have en : ((n : Int) - (lo : Int)).toNat = n - lo := by omega
  rw [en]
  refine q _ H1' (fun _ => True) (YFn fun i => .int ((lo : Int) + (i : Int))) (f.trans f') j' ?_ (fun _ _ => trivial) fun i H2 x H3 hi y => ⟨y.1, ?_⟩
  · rw [List.length_map, List.length_range]
    exact walk_range
  · rw [List.length_map, List.length_range] at hi
    refine ⟨.p (.int ((lo + i : Nat) : Int)), by rw [List.getElem?_map, List.getElem?_range hi]; rfl, ?_⟩
    have e : ((lo + i : Nat) : Int) = (lo : Int) + (i : Int) := by omega
    rw [y.2]; show Rv c (hid M H1') (V.int ((lo : Int) + (i : Int))) _; rw [e]; exact .p (.int _)
theorem src_str {z : Str} (h : Es c G tl ρ (.str z)) : Src c G (iStr tl) ρ (z.cps.toList.map fun a => .p (.str ⟨#[a]⟩)) := fun m0 M H σ E R q => h m0 M H σ E _ fun v H1 d f j r e => by
  subst e
  refine ⟨z, r.str, q _ H1 (fun _ => True) (fun i H x H' => H' = H ∧ ∃ c, z.cps[i]? = some c ∧ x = V.str ⟨#[c]⟩) f j ?_ (fun _ _ => trivial) fun i H2 x H3 hi y => ?_⟩
  · rw [List.length_map, Array.length_toList]; exact walk_str
  · obtain ⟨y1, a, y2, y3⟩ := y
    exact ⟨y1, .p (.str ⟨#[a]⟩), by rw [List.getElem?_map, Array.getElem?_toList, y2]; rfl, by rw [y3]; exact .p (.str _)⟩

/-! ### comprehensions -/
def clrW : List Nat → Rho → Rho
  | [], ρ => ρ
  | j :: js, ρ => (clrW js ρ).set j .no
theorem EnvM.wipe {m0 M : Addr → Bool} {H : Hp} {σ : L2.St} (E : EnvM c G m0 M H σ ρ) : ∀ vs : List Nat, EnvM c G m0 M H (wipe σ vs) (clrW vs ρ)
  | [] => E
  | v :: vs => by
    have E1 := EnvM.wipe E vs
    show EnvM c G m0 M H ((L2.wipe σ vs).set v none) ((clrW vs ρ).set v .no)
    refine ⟨E1.k, E1.gm, E1.sub, by rw [List.length_set, List.length_set]; exact E1.len, fun i d h => ?_, fun i d h => ?_, fun i j d e a h h' s s' => ?_⟩
    · rcases set_get h with ⟨rfl, hl, q⟩ | ⟨hne, q⟩
      · cases q
      · obtain ⟨u, h1, h2⟩ := E1.fz i d q
        exact ⟨u, by rw [List.getElem?_set_ne (Ne.symm hne)]; exact h1, h2⟩
    · rcases set_get h with ⟨rfl, hl, q⟩ | ⟨hne, q⟩
      · cases q
      · obtain ⟨u, h1, h2⟩ := E1.ow i d q
        exact ⟨u, by rw [List.getElem?_set_ne (Ne.symm hne)]; exact h1, h2⟩
    · rcases set_get h with ⟨rfl, hl, q⟩ | ⟨hne, q⟩
      · cases q
      rcases set_get h' with ⟨rfl, hl, q'⟩ | ⟨hne', q'⟩
      · cases q'
      rw [List.getElem?_set_ne (Ne.symm hne)] at s
      rw [List.getElem?_set_ne (Ne.symm hne')] at s'
      exact E1.sep i j d e a q q' s s'
theorem wipe_in : ∀ (vs : List Nat) (σ : L2.St) (i : Nat), i ∈ vs → i < σ.length → (L2.wipe σ vs)[i]? = some none
  | v :: vs, σ, i, h, hl => by
    show ((L2.wipe σ vs).set v none)[i]? = some none
    by_cases e : v = i
    · subst e; rw [List.getElem?_set_self (by rw [wipe_length]; exact hl)]
    · rw [List.getElem?_set_ne e]
      rcases List.mem_cons.mp h with e' | h
      · exact absurd e'.symm e
      · exact wipe_in vs σ i h hl
theorem wipe_out : ∀ (vs : List Nat) (σ : L2.St) (i : Nat), i ∉ vs → (L2.wipe σ vs)[i]? = σ[i]?
  | [], _, _, _ => rfl
  | v :: vs, σ, i, h => by
    rw [List.mem_cons, not_or] at h
    show ((L2.wipe σ vs).set v none)[i]? = _
    rw [List.getElem?_set_ne (Ne.symm h.1)]
    exact wipe_out vs σ i h.2
theorem wipe_agr {vs ks : List Nat} {σ σ2 : L2.St} (a : Agr ks (L2.wipe σ vs) σ2) (h : ∀ k ∈ ks, k ∈ vs) : L2.wipe σ2 vs = L2.wipe σ vs := by
  have hl : σ2.length = σ.length := by rw [a.len, wipe_length]
  refine List.ext_getElem? fun i => ?_
  by_cases hi : i ∈ vs
  · by_cases hz : i < σ.length
    · rw [wipe_in vs σ i hi hz, wipe_in vs σ2 i hi (by omega)]
    · rw [List.getElem?_eq_none (by rw [wipe_length]; omega), List.getElem?_eq_none (by rw [wipe_length]; omega)]
  · rw [wipe_out vs σ2 i hi, a.get i (fun z => hi (h i z))]
/-- what comes of the first i items: PB, PE: what the test, the element may be at item i -/
inductive LcR (PB : Nat → Bool → Prop) (PE : Nat → DV → Prop) : Nat → List DV → Prop
  | zero : LcR PB PE 0 []
  | yes {i : Nat} {out : List DV} {d : DV} : LcR PB PE i out → PB i true → PE i d → LcR PB PE (i + 1) (out ++ [d])
  | no {i : Nat} {out : List DV} : LcR PB PE i out → PB i false → LcR PB PE (i + 1) out
theorem LcR.len {PB : Nat → Bool → Prop} {PE : Nat → DV → Prop} : ∀ {n : Nat} {out : List DV}, LcR PB PE n out → out.length ≤ n
  | _, _, .zero => Nat.le_refl _
  | _, _, .yes h _ _ => by rw [List.length_append, List.length_singleton]; exact Nat.succ_le_succ h.len
  | _, _, .no h _ => Nat.le_succ_of_le h.len
def LcP (c : Cf) (G : Gx) (g : TG) (tt : TT) (te : TE) (vs : List Nat) (ρ : Rho) (ds : List DV) (PB : Nat → Bool → Prop) (PE : Nat → DV → Prop) : Prop :=
  ∀ i d, ds[i]? = some d → ∃ ks ρ1, (∀ k ∈ ks, k ∈ vs) ∧ Bd c G ks g d (clrW vs ρ) ρ1 ∧ EvT c G tt ρ1 (PB i) ∧ (PB i true → Ev c G te ρ1 (PE i))
theorem lc_gen {wi : TI} {g : TG} {tt : TT} {vs : List Nat} {ds : List DV} {PB : Nat → Bool → Prop} {PE : Nat → DV → Prop} {m0 M : Addr → Bool} {H : Hp} {σ : L2.St} (hs : SrcAt c G wi ds M H σ) (hn : ds.length < 1000000) (ht : LcP c G g tt te vs ρ ds PB PE)
    (E : EnvM c G m0 M H σ ρ) {Q : VK} (q : ∀ p H' us out, H p = none → Fx G H H' → G.J H' → H' p = some (.lst us) → RvAll c (hid (ins p M) H') us out → LcR PB PE ds.length out → Q (.ref p) H') :
    tLc wi g tt te vs σ H Q := hs _ fun J H1 Gw Y f j w hG hY D nD => by
  have E1 := E.fx f j
  have k1 := E1.k
  have j2 : G.J (upd H1 D (.lst [])) := k1.jnew nD
  have E2 : EnvM c G m0 (ins D M) (upd H1 D (.lst [])) σ ρ := E1.grow nD (Fx.of (same_new nD)) j2 (d := .p (.list [])) ⟨[], upd_same, .nil⟩
  have EW := E2.wipe vs
  -- the plain of the start
  have hs1 : Same (hid M H1) (hid (ins D M) (upd H1 D (.lst []))) := fun a o z => by
    obtain ⟨z1, z2⟩ := hid_some z
    have hne : a ≠ D := ne_of_none z2 nD
    rw [hid_get (by rw [ins_ne hne]; exact z1), upd_ne hne]; exact z2
  refine lc_it w (fun i H3 => EnvM c G m0 (ins D M) H3 (L2.wipe σ vs) (clrW vs ρ) ∧ (∀ a o, a ≠ D → G.g a = false → (upd H1 D (.lst [])) a = some o → H3 a = some o) ∧ ∃ us out, H3 D = some (.lst us) ∧ RvAll c (hid (ins D M) H3) us out ∧ LcR PB PE i out)
    ⟨EW, fun a o _ _ z => z, [], [], upd_same, .nil, .zero⟩ (fun i H3 _ ⟨e3, s3, _⟩ => hG H3 fun a o z => ?_) (fun i x H3 H4 hi ⟨e3, s3, us, out, hD, rv, lr⟩ y => ?_) fun H3 ⟨e3, s3, us, out, hD, rv, lr⟩ => ?_
  · obtain ⟨z1, z2⟩ := hid_some z
    have hne : a ≠ D := ne_of_none z2 nD
    refine s3 a o hne ?_ (by rw [upd_ne hne]; exact z2)
    cases e : G.g a with
    | false => rfl
    | true => rw [k1.gm a e] at z1; cases z1
  · obtain ⟨e4, d, hd, r⟩ := hY i H3 x H4 hi y
    subst e4
    obtain ⟨ks, ρ1, sub, b, tt1, te1⟩ := ht i d hd
    have sm : Same (hid M H1) (hid (ins D M) H4) := fun a o z => by
      obtain ⟨z1, z2⟩ := hid_some z
      have hne : a ≠ D := ne_of_none z2 nD
      rw [hid_get (by rw [ins_ne hne]; exact z1)]
      refine s3 a o hne ?_ (by rw [upd_ne hne]; exact z2)
      cases e : G.g a with
      | false => rfl
      | true => rw [k1.gm a e] at z1; cases z1
    refine b m0 (ins D M) H4 _ x e3 (rv_mono sm r) _ fun σ2 e5 ag => ⟨wipe_agr ag sub, ?_⟩
    refine tt1 m0 (ins D M) H4 σ2 e5 _ fun bb H5 f5 j5 pb => ?_
    have gD : G.g D = false := by
      cases e : G.g D with
      | false => rfl
      | true => obtain ⟨o, z⟩ := k1.al D (k1.gm D e); rw [nD] at z; cases z
    cases bb with
    | false =>
      show EnvM c G m0 (ins D M) H5 (L2.wipe σ vs) (clrW vs ρ) ∧ _
      exact ⟨e3.fx f5 j5, fun a o h1 h2 z => f5 a o h2 (s3 a o h1 h2 z), us, out, f5 D _ gD hD, rva_mono (e3.k.hidS f5) rv, .no lr pb⟩
    | true =>
      show te σ2 H5 _
      refine te1 pb m0 (ins D M) H5 σ2 (e5.fx f5 j5) _ fun v H6 d6 f6 j6 r6 pe => ?_
      have hD6 : H6 D = some (.lst us) := f6 D _ gD (f5 D _ gD hD)
      have rv6 := rva_mono (e3.k.hidS (f5.trans f6)) rv
      have ll := lr.len
      refine ⟨us, hD6, by rw [rva_len rv]; exact Nat.lt_of_lt_of_le (by omega : out.length < 1000000) (by rw [sizeLine_eq]; decide), ?_⟩
      have e6 := (e3.fx f5 j5).fx f6 j6
      have sm2 : Same (hid (ins D M) H6) (hid (ins D M) (upd H6 D (.lst (us ++ [v])))) := fun a o z => by
        obtain ⟨z1, z2⟩ := hid_some z
        have hne : a ≠ D := fun e => by subst e; rw [ins_self] at z1; cases z1
        rw [hid_get z1, upd_ne hne]; exact z2
      have j7 : G.J (upd H6 D (.lst (us ++ [v]))) := G.st _ _ j6 fun a o g z => by
        have hne : a ≠ D := fun e => by subst e; rw [gD] at g; cases g
        rw [upd_ne hne]; exact z
      refine ⟨⟨⟨j7, fun a h => ?_, e6.k.gm⟩, e6.gm, e6.sub, e6.len, fun n e z => ?_, fun n e z => ?_, e6.sep⟩, fun a o h1 h2 z => ?_, us ++ [v], out ++ [d6], upd_same, rva_app (rva_mono sm2 rv6) (.cons (rv_mono sm2 r6) .nil), .yes lr pb pe⟩
      · by_cases e : a = D
        · subst e; exact ⟨_, upd_same⟩
        · rw [upd_ne e]; exact e6.k.al a h
      · obtain ⟨u, z1, z2⟩ := e6.fz n e z
        exact ⟨u, z1, rv_mono sm2 z2⟩
      · obtain ⟨a, z1, z2, z3, z4⟩ := e6.ow n e z
        -- one's own things stood ahead of D
        obtain ⟨a', y1, y2, y3, y4⟩ := EW.ow n e z
        have ea : a' = a := by rw [y1] at z1; injection z1 with z1; injection z1 with z1; injection z1
        subst ea
        have hne : a' ≠ D := fun e' => by
          subst e'
          have old : ∀ (js : List Nat) (i : Nat) (e : DV), (clrW js ρ)[i]? = some (Slot.ow e) → ρ[i]? = some (Slot.ow e) := by
            intro js
            induction js with
            | nil => intro i e h; exact h
            | cons jj js ih =>
              intro i e h
              rcases set_get h with ⟨_, _, q⟩ | ⟨_, q⟩
              · cases q
              · exact ih i e q
          obtain ⟨b', x1, x2, x3, x4⟩ := E1.ow n e (old vs n e z)
          have hnv : n ∉ vs := fun hv => by
            have hl : n < σ.length := (List.getElem?_eq_some_iff.mp x1).1
            rw [wipe_in vs σ n hv hl] at y1; cases y1
          rw [wipe_out vs σ n hnv, x1] at y1
          injection y1 with y1; injection y1 with y1; injection y1 with y1
          subst y1
          obtain ⟨o, q⟩ := ow_there x4
          rw [nD] at q; cases q
        exact ⟨a', z1, z2, z3, z4.mono (fun o q => by rw [upd_ne hne]; exact q) sm2⟩
      · rw [upd_ne h1]; exact f6 a o h2 (f5 a o h2 (s3 a o h1 h2 z))
  · refine q D H3 us out (free_of E.k f nD j) (f.trans ?_) e3.k.J hD rv lr
    intro a o g z
    exact s3 a o (ne_of_none z nD) g (by rw [upd_ne (ne_of_none z nD)]; exact z)
/-- any results -/
theorem evn_lc {wi : TI} {g : TG} {tt : TT} {vs : List Nat} {ds : List DV} {PB : Nat → Bool → Prop} {PE : Nat → DV → Prop} (hs : Src c G wi ρ ds) (hn : ds.length < 1000000) (ht : LcP c G g tt te vs ρ ds PB PE) :
    EvN c G (tLc wi g tt te vs) ρ (fun d => ∃ out, LcR PB PE ds.length out ∧ d = .l out) := fun m0 M H σ E Q q =>
  lc_gen (hs m0 M H σ E) hn ht E fun p H' us out n f j hp rv lr => q p H' (.l out) n f j ⟨us, hp, rv⟩ ⟨out, lr, rfl⟩
/-- plain results -/
theorem evn_lcp {wi : TI} {g : TG} {tt : TT} {vs : List Nat} {ds : List DV} {PB : Nat → Bool → Prop} {PE : Nat → DV → Prop} (hs : Src c G wi ρ ds) (hn : ds.length < 1000000) (ht : LcP c G g tt te vs ρ ds PB PE) (hp : ∀ i d, PE i d → ∃ x, d = .p x) :
    EvN c G (tLc wi g tt te vs) ρ (fun d => ∃ out : List PyData, LcR PB PE ds.length (out.map .p) ∧ d = .p (.list out)) := fun m0 M H σ E Q q =>
  lc_gen (hs m0 M H σ E) hn ht E fun p H' us out n f j hp' rv lr => by
    have key : ∀ {n : Nat} {out : List DV}, LcR PB PE n out → ∃ o2 : List PyData, out = o2.map .p := by
      intro n out h
      induction h with
      | zero => exact ⟨[], rfl⟩
      | yes _ _ pe ih =>
        obtain ⟨o2, e⟩ := ih
        obtain ⟨x, ex⟩ := hp _ _ pe
        exact ⟨o2 ++ [x], by rw [e, ex, List.map_append]; rfl⟩
      | no _ _ ih => exact ih
    obtain ⟨o2, e⟩ := key lr
    subst e
    exact q p H' (.p (.list o2)) n f j ⟨us, hp', rva_p rv⟩ ⟨o2, lr, rfl⟩
theorem lcR_map {α : Type} {xs : List α} {e : α → DV} {f : α → Bool} {h : α → DV} : ∀ {n : Nat} {out : List DV}, LcR (fun i b => ∃ x, xs[i]? = some x ∧ b = f x) (fun i d => ∃ x, xs[i]? = some x ∧ d = h x) n out → n ≤ xs.length → out = ((xs.take n).filter f).map h := by
  intro n out hr
  induction hr with
  | zero => intro _; rfl
  | @yes i out d r pb pe ih =>
    intro hn
    obtain ⟨x, h1, h2⟩ := pb
    obtain ⟨y, h3, h4⟩ := pe
    rw [h1] at h3; cases h3
    have et : xs.take (i + 1) = xs.take i ++ [x] := by rw [List.take_succ, h1]; rfl
    rw [ih (by omega), et, List.filter_append, List.map_append, List.filter_cons, if_pos h2.symm, h4]; rfl
  | @no i out r pb ih =>
    intro hn
    obtain ⟨x, h1, h2⟩ := pb
    have et : xs.take (i + 1) = xs.take i ++ [x] := by rw [List.take_succ, h1]; rfl
    rw [ih (by omega), et, List.filter_append, List.filter_cons, if_neg (by rw [← h2]; decide)]
    show _ = List.map h (_ ++ [])
    rw [List.append_nil]
/-- told: xs the items, f the test, h the element -/
theorem en_lcX {α : Type} {wi : TI} {g : TG} {tt : TT} {vs : List Nat} (xs : List α) (e : α → DV) (f : α → Bool) (h : α → DV) (hs : Src c G wi ρ (xs.map e)) (hn : xs.length < 1000000)
    (ht : ∀ x ∈ xs, ∃ ks ρ1, (∀ k ∈ ks, k ∈ vs) ∧ Bd c G ks g (e x) (clrW vs ρ) ρ1 ∧ Et c G tt ρ1 (f x) ∧ (f x = true → Ev c G te ρ1 (· = h x))) : EvN c G (tLc wi g tt te vs) ρ (· = .l ((xs.filter f).map h)) :=
  (evn_lc (PB := fun i b => ∃ x, xs[i]? = some x ∧ b = f x) (PE := fun i d => ∃ x, xs[i]? = some x ∧ d = h x) hs (by rw [List.length_map]; exact hn) fun i d hd => by
    rw [List.getElem?_map] at hd
    cases hx : xs[i]? with
    | none => rw [hx] at hd; cases hd
    | some x =>
      rw [hx] at hd
      cases hd
      obtain ⟨ks, ρ1, a1, a2, a3, a4⟩ := ht x (List.mem_of_getElem? hx)
      exact ⟨ks, ρ1, a1, a2, fun m0 M H σ E Q q => a3 m0 M H σ E Q fun b H' f j e => q b H' f j ⟨x, hx, e⟩, fun ⟨x', hx', hf⟩ => by
        rw [hx] at hx'
        cases hx'
        exact (a4 hf.symm).imp fun d e => ⟨x, hx, e⟩⟩).imp fun d ⟨out, lr, ed⟩ => by
    rw [ed, lcR_map (e := e) lr (by rw [List.length_map]; exact Nat.le_refl _), List.length_map, List.take_length]
theorem en_lc {α : Type} {wi : TI} {g : TG} {tt : TT} {vs : List Nat} (xs : List α) (e : α → DV) (f : α → Bool) (h : α → PyData) (hs : Src c G wi ρ (xs.map e)) (hn : xs.length < 1000000)
    (ht : ∀ x ∈ xs, ∃ ks ρ1, (∀ k ∈ ks, k ∈ vs) ∧ Bd c G ks g (e x) (clrW vs ρ) ρ1 ∧ Et c G tt ρ1 (f x) ∧ (f x = true → Ed c G te ρ1 (h x))) : En c G (tLc wi g tt te vs) ρ (.list ((xs.filter f).map h)) :=
  (evn_lcp (PB := fun i b => ∃ x, xs[i]? = some x ∧ b = f x) (PE := fun i d => ∃ x, xs[i]? = some x ∧ d = .p (h x)) hs (by rw [List.length_map]; exact hn) (fun i d hd => by
    rw [List.getElem?_map] at hd
    cases hx : xs[i]? with
    | none => rw [hx] at hd; cases hd
    | some x =>
      rw [hx] at hd
      cases hd
      obtain ⟨ks, ρ1, a1, a2, a3, a4⟩ := ht x (List.mem_of_getElem? hx)
      exact ⟨ks, ρ1, a1, a2, fun m0 M H σ E Q q => a3 m0 M H σ E Q fun b H' f j e => q b H' f j ⟨x, hx, e⟩, fun ⟨x', hx', hf⟩ => by
        rw [hx] at hx'
        cases hx'
        exact (a4 hf.symm).imp fun d e => ⟨x, hx, e⟩⟩) fun i d ⟨x, _, e⟩ => ⟨_, e⟩).imp fun d ⟨out, lr, ed⟩ => by
    have z := lcR_map (h := fun x => DV.p (h x)) (e := e) lr (by rw [List.length_map]; exact Nat.le_refl _)
    rw [List.length_map, List.take_length] at z
    have z2 : out = (xs.filter f).map h := by
      have inj : ∀ l1 l2 : List PyData, l1.map DV.p = l2.map DV.p → l1 = l2 := by
        intro l1
        induction l1 with
        | nil => intro l2 h; cases l2 with
          | nil => rfl
          | cons _ _ => cases h
        | cons a l1 ih => intro l2 h; cases l2 with
          | nil => cases h
          | cons b l2 =>
            simp only [List.map_cons, List.cons.injEq, DV.p.injEq] at h
            rw [h.1, ih l2 h.2]
      refine inj _ _ ?_
      rw [z, List.map_map]; rfl
    rw [ed, z2]
/-- a list that is found, then walked: any results -/
theorem srcAt_list {M : Addr → Bool} {H : Hp} {σ : L2.St} {v : V} {ds : List PyData} (j : G.J H) (r : Rv c (hid M H) v (.p (.list ds))) : SrcAt c G (iList c.K fun _ H' Q => Q v H') (ds.map .p) M H σ := fun R q => by
  have r := rv_p r
  cases r with
  | @lst a vs _ ha hv =>
    refine ⟨a, rfl, ⟨vs, same_l hid_same ha⟩, q _ H (fun H => SqL c.K H a vs) (YAt vs) Fx.refl j ?_ (fun H2 s => same_l s ha) fun i H2 x H3 hi y => ⟨y.1, ?_⟩⟩
    · have w := walk_list (K := c.K) (a := a) (xs := vs)
      rw [dpa_len hv] at w
      rw [List.length_map]; exact w
    · obtain ⟨d, h1, h2⟩ := dpa_get' hv y.2
      exact ⟨.p d, by rw [List.getElem?_map, h1]; rfl, .p h2⟩
theorem srcAt_any {M : Addr → Bool} {H : Hp} {σ : L2.St} {v : V} {ds : List DV} (j : G.J H) (r : Rv c (hid M H) v (.l ds)) : SrcAt c G (iList c.K fun _ H' Q => Q v H') ds M H σ := fun R q => by
  cases r with
  | @l a vs _ ha hv =>
    refine ⟨a, rfl, ⟨vs, same_l hid_same (SqL.of ha)⟩, q _ H (fun H => SqL c.K H a vs) (YAt vs) Fx.refl j ?_ (fun H2 s => same_l s (SqL.of ha)) fun i H2 x H3 hi y => ⟨y.1, ?_⟩⟩
    · have w := walk_list (K := c.K) (a := a) (xs := vs)
      rw [rva_len hv] at w
      exact w
    · obtain ⟨d, h1, h2⟩ := rva_get' hv y.2
      exact ⟨d, h1, h2⟩
theorem evn_lcE {g : TG} {tt : TT} {vs : List Nat} {γ : Type} {q : γ → Prop} {l : γ → List PyData} {PB : γ → Nat → Bool → Prop} {PE : γ → Nat → DV → Prop} (h : Ev c G tl ρ (fun d => ∃ x, q x ∧ d = .p (.list (l x)))) (ht : ∀ x, q x → (l x).length < 1000000 ∧ LcP c G g tt te vs ρ ((l x).map .p) (PB x) (PE x)) :
    EvN c G (tLc (iList c.K tl) g tt te vs) ρ (fun d => ∃ x out, q x ∧ LcR (PB x) (PE x) (l x).length out ∧ d = .l out) := fun m0 M H σ E Q qq =>
  h m0 M H σ E _ fun v H1 d f j r ⟨x, hx, e⟩ => by
    subst e
    obtain ⟨h1, h2⟩ := ht x hx
    exact lc_gen (srcAt_list j r) (by rw [List.length_map]; exact h1) h2 (E.fx f j) fun p H' us out n f2 j2 hp rv lr => qq p H' (.l out) (free_of E.k f n j) (f.trans f2) j2 ⟨us, hp, rv⟩ ⟨x, out, hx, by rw [List.length_map] at lr; exact lr, rfl⟩
theorem et_yes : Et c G tYes ρ true := fun m0 M H σ E Q q => q true H Fx.refl E.k.J rfl
/-- without a test -/
theorem en_lc1 {α : Type} {wi : TI} {g : TG} {vs : List Nat} (xs : List α) (e : α → DV) (h : α → PyData) (hs : Src c G wi ρ (xs.map e)) (hn : xs.length < 1000000)
    (ht : ∀ x ∈ xs, ∃ ks ρ1, (∀ k ∈ ks, k ∈ vs) ∧ Bd c G ks g (e x) (clrW vs ρ) ρ1 ∧ Ed c G te ρ1 (h x)) : En c G (tLc wi g tYes te vs) ρ (.list (xs.map h)) := by
  have z := en_lc (te := te) (tt := tYes) (vs := vs) (g := g) xs e (fun _ => true) h hs hn fun x hx => by
    obtain ⟨ks, ρ1, a1, a2, a3⟩ := ht x hx
    exact ⟨ks, ρ1, a1, a2, et_yes, fun _ => a3⟩
  have e2 : xs.filter (fun _ => true) = xs := List.filter_eq_self.mpr fun _ _ => rfl
  rw [e2] at z
  exact z
end
end JQ

-- part Pk1
set_option Elab.async false
set_option linter.all false
set_option maxRecDepth 100000
set_option maxHeartbeats 2000000
/-! Rules over the machine: in, not in, <, sorted, of data. -/
namespace JQ
open PySem PySem.Spec PyProof.Rows L2
section
variable {X : Cx} {pins : List (Addr × Obj)} {σ : L2.St} {H : Hp} {s : Shared}
theorem op_eqP (hu : X.A.units + 64 < cLine) : OpR X (compareOp .Eq) (rEqP X.K) := by
  intro pins s σ H x y v u Q I rx ry h
  obtain ⟨d, e, hd, he, ⟨sd, dd⟩, se, q⟩ := h
  obtain ⟨as, r1⟩ := Dp.reads I d x v hd rx
  obtain ⟨bs, r2⟩ := Dp.reads I e y u he ry
  exact SeqAt.eq_plain r1 r2 sd se (by omega) ⟨.bl _, H, I, rfl, q⟩
theorem op_neP (hu : X.A.units + 64 < cLine) : OpR X (compareOp .NotEq) (rNeP X.K) := by
  intro pins s σ H x y v u Q I rx ry h
  obtain ⟨d, e, hd, he, ⟨sd, dd⟩, se, q⟩ := h
  obtain ⟨as, r1⟩ := Dp.reads I d x v hd rx
  obtain ⟨bs, r2⟩ := Dp.reads I e y u he ry
  exact SeqAt.ne_plain r1 r2 sd se (by omega) ⟨.bl _, H, I, rfl, q⟩
theorem op_inX (hu : X.A.units + 65 < cLine) : OpR X (compareOp .In) (rInX X.K) := by
  intro pins s σ H x y v u Q I rx ry h
  obtain ⟨d, ds, hd, he, ⟨sd, dd⟩, se, q⟩ := h
  obtain ⟨as, r1⟩ := Dp.reads I d x v hd rx
  rcases he with he | he
  · obtain ⟨bs, r2⟩ := Dp.reads I (.list ds) y u he ry
    exact SeqAt.in_list_data r2 r1 se sd (by omega) ⟨.bl _, H, I, rfl, q⟩
  · obtain ⟨bs, r2⟩ := Dp.reads I (.tuple ds) y u he ry
    exact SeqAt.in_tuple_data r2 r1 se sd (by omega) ⟨.bl _, H, I, rfl, q⟩
theorem op_niX (hu : X.A.units + 65 < cLine) : OpR X (compareOp .NotIn) (rNiX X.K) := by
  intro pins s σ H x y v u Q I rx ry h
  obtain ⟨d, ds, hd, he, ⟨sd, dd⟩, se, q⟩ := h
  obtain ⟨as, r1⟩ := Dp.reads I d x v hd rx
  rcases he with he | he
  · obtain ⟨bs, r2⟩ := Dp.reads I (.list ds) y u he ry
    exact SeqAt.notIn_list_data r2 r1 se sd (by omega) ⟨.bl _, H, I, rfl, q⟩
  · obtain ⟨bs, r2⟩ := Dp.reads I (.tuple ds) y u he ry
    exact SeqAt.notIn_tuple_data r2 r1 se sd (by omega) ⟨.bl _, H, I, rfl, q⟩
theorem op_ltD (hu : X.A.units + 64 < cLine) : OpR X (compareOp .Lt) (rLtD X.K) := by
  intro pins s σ H x y v u Q I rx ry h
  obtain ⟨d, e, hd, he, al, dn, dp, q⟩ := h
  obtain ⟨as, r1⟩ := Dp.reads I d x v hd rx
  obtain ⟨bs, r2⟩ := Dp.reads I e y u he ry
  exact PySem.W.rcLt_alike d e X.A s v u as bs r1 r2 al dn (by omega) _ _ _ _ ⟨.bl _, H, I, rfl, q⟩
theorem each_val {R : V → PyData → Prop} : ∀ {xs : List V} {us : List Value} {ds : List PyData}, Vals xs us → Paired R xs ds → PySem.W.EachIs (fun u d => ∃ v, RelV v u ∧ R v d) us ds
  | _, _, _, .nil, .nil => .nil
  | _, _, _, .cons r t, .cons q t' => .cons ⟨_, r, q⟩ (each_val t t')
theorem val_each {R : V → PyData → Prop} : ∀ {us : List Value} {ds : List PyData}, PySem.W.EachIs (fun u d => ∃ v, RelV v u ∧ R v d) us ds → ∃ xs, Vals xs us ∧ Paired R xs ds
  | _, _, .nil => ⟨[], .nil, .nil⟩
  | _, _, .cons ⟨v, r, q⟩ t => by
    obtain ⟨xs, h1, h2⟩ := val_each t
    exact ⟨v :: xs, .cons r h1, .cons q h2⟩
theorem each_reads (I : Inv X pins σ H s) : ∀ {xs : List V} {us : List Value} {ds : List PyData}, Vals xs us → DpAll X.K H xs ds → PySem.W.EachIs (fun u d => ∃ as, Reads s.heap u (id d) as) us ds
  | _, _, _, .nil, .nil => .nil
  | _, _, _, .cons r t, .cons q t' => .cons (Dp.reads I _ _ _ q r) (each_reads I t t')
theorem sorts_one {P : Program} {w : World} {A : Around} {s : Shared} {vs : List Value} {ds : List PyData} (e : PySem.W.EachIs (fun v d => ∃ as, Reads s.heap v d as) vs ds) (hal : PySem.W.AllAlike ds) (h1 : vs.length ≤ 1) (hn : ∀ d ∈ ds, d ≠ .none) (hu : ∀ d, d ∈ ds → A.units + d.depth < cLine) :
    PySem.W.SortsAt P w A s (PySem.W.dataKind s.heap ds) vs := by
  refine ⟨fun v hv => ?_, ?_⟩
  · obtain ⟨d, hd, as, r⟩ := e.left v hv
    exact ⟨_, PySem.W.dataKind_some hal hd r⟩
  · refine ⟨PyProof.Rows.general', fun E x y a b Q ha hb q => ?_, fun h2 => absurd h2 (by omega)⟩
    obtain ⟨d, as, hd, r1, e1⟩ := PySem.W.dataKind_inv ha
    obtain ⟨d', bs, hd', r2, e2⟩ := PySem.W.dataKind_inv hb
    subst e1 e2
    exact PySem.W.oneLt_alike (f := false) (by intro h; cases h) r1 r2 (hal _ hd _ hd') (hn _ hd) (Nat.lt_of_le_of_lt (Nat.add_le_add_left (Nat.min_le_left _ _) _) (hu d hd)) q
/-- sorted(v), where it is told what v's items may be: of which D holds -/
theorem sorted_coll {v : Value} {D : List PyData → Prop} {R : V → PyData → Prop} {Q : VK}
    (hc : ∀ T : List Value → Shared → Prop, (∀ (s1 : Shared) (acc : List Value) (ds : List PyData), D ds → Inv X pins σ H s1 → PySem.W.EachIs (fun u d => ∃ as, Reads s1.heap u d as) acc ds → PySem.W.EachIs (fun u d => ∃ v, RelV v u ∧ R v d) acc ds → acc.length ≤ sizeLine → T acc s1) → wpAny (model X.prog X.w) X.A.in1 (collect v) T X.xe s)
    (hal : ∀ ds, D ds → PySem.W.AllAlike ds) (hks : ∀ ds, D ds → PySem.W.Sortable ds ∨ (ds.length ≤ 1 ∧ ∀ d ∈ ds, d ≠ .none)) (hdp : ∀ ds, D ds → ∀ d ∈ ds, d.depth ≤ 60) (hu : X.A.units + 64 < cLine)
    (q : ∀ ds, D ds → ∀ p out, H p = none → Paired R out (ds.mergeSort (PySem.W.dataLe false id)) → Q (.ref p) (upd H p (.lst out))) :
    wpAny (model X.prog X.w) X.A (call (.builtin "sorted") [v]) (EP X pins σ Q) X.xe s := by
  refine Calls.call_function_entry PyProof.Rows.kind_sorted PyProof.Rows.plain_sorted PyProof.Rows.entry_sorted (PyProof.Rows.args_sorted1 _) ?_
  unfold Builtin.«sorted»
  refine wpAny_bind (m := checkCount "sorted" 1 1 _) (wpAny_pure ?_)
  refine wpAny_bind (hc _ fun s1 acc ds hD I1 hreads hR hl => ?_)
  have hal := hal ds hD
  have hks := hks ds hD
  have hdp := hdp ds hD
  have q := q ds hD
  have hlen : acc.length = ds.length := hreads.length
  refine wpAny_bind (wpAny_newList ?_ hl)
  have hoL : (s1.heap.push (seqObj "list" acc.toArray 0)).get? s1.heap.objs.size = some (seqObj "list" acc.toArray 0) := Heap.get?_push_size _ rfl
  have keepS : ∀ b ob, s1.heap.get? b = some ob → (PySem.W.sortingHeap (s1.heap.push (seqObj "list" acc.toArray 0)) s1.heap.objs.size acc).get? b = some ob := fun b ob e =>
    PySem.W.sortingHeap_old (Nat.ne_of_lt (Heap.lt_size e)) (Heap.get?_push_of_some _ e)
  have hreadsS := hreads.mono fun u d ⟨as, r⟩ => (⟨as, PyProof.Rows.Reads.keeps keepS r⟩ : ∃ as, Reads (PySem.W.sortingHeap (s1.heap.push (seqObj "list" acc.toArray 0)) s1.heap.objs.size acc) u d as)
  have hdep : ∀ d, d ∈ ds → X.A.in1.in1.units + d.depth < cLine := fun d hd => by
    have := hdp d hd
    show X.A.units + 1 + 1 + d.depth < cLine
    omega
  have em : ds.map id = ds := List.map_id ds
  let S0 : Shared := { s1 with heap := s1.heap.push (seqObj "list" acc.toArray 0) }
  have SA : PySem.W.SortsAt X.prog X.w X.A.in1.in1 { S0 with heap := PySem.W.sortingHeap S0.heap s1.heap.objs.size acc } (PySem.W.dataKind (PySem.W.sortingHeap S0.heap s1.heap.objs.size acc) ds) acc := by
    rcases hks with hks | ⟨h1, h2⟩
    · exact PySem.W.SortsAt.data (s := { S0 with heap := PySem.W.sortingHeap S0.heap s1.heap.objs.size acc }) hreadsS hal hks hdep
    · exact sorts_one (s := { S0 with heap := PySem.W.sortingHeap S0.heap s1.heap.objs.size acc }) hreadsS hal (by rw [hlen]; exact h1) h2 hdep
  refine wpAny_bind (wpAny_holding (wpAny_call_entry PyProof.Rows.slot_list_sort ⟨_, hoL, rfl⟩ PyProof.Rows.entry_list_sort
    (PySem.W.list_sort_vals (s := S0) hoL SA hl ⟨_, rfl, ?_⟩) (PyProof.Rows.args_list_sort _)))
  have hsv := PySem.W.sortVals_data (enc := id) false hR hreadsS (by rw [em]; exact hal)
  rw [em] at hsv
  obtain ⟨xs', g1, g2⟩ := val_each hsv
  obtain ⟨e', he'⟩ := PyProof.Rows.sortedHeap_at (vs := acc) (out := (PySem.W.sortVals (PySem.W.dataKind (PySem.W.sortingHeap S0.heap s1.heap.objs.size acc) ds) false acc acc).toArray) hoL
  refine wpAny_pure ⟨_, rfl, .ref s1.heap.objs.size, upd H s1.heap.objs.size (.lst xs'), I1.laid (t' := s1.toks) (fun b u e => ?_) (Nat.le_refl _)
    (show ObjOk X.prog X.w _ _ _ (.lst xs') from ⟨?_, _, e', g1, he'⟩), rfl, q _ xs' (I1.hok.fresh (Nat.le_refl _)) g2⟩
  · have hb : b < s1.heap.objs.size := Heap.lt_size e
    rw [PyProof.Rows.sortedHeap_old (Nat.ne_of_lt hb) (by rw [size_push']; exact Nat.lt_succ_of_lt hb)]
    exact Heap.get?_push_of_some _ e
  · rw [g1.length, PySem.W.sortVals_length false rfl]; exact hl
theorem each_length {T : Value → PyData → Prop} : ∀ {vs : List Value} {ds : List PyData}, PySem.W.EachIs T vs ds → vs.length = ds.length
  | _, _, .nil => rfl
  | _, _, .cons _ t => congrArg (· + 1) (each_length t)
theorem cr_sortD (hu : X.A.units + 64 < cLine) : CallR X (.builtin "sorted") (rSortD X.K) := by
  intro pins s σ H vs us Q I r h
  obtain ⟨a, xs, ds, R, rfl, hs, hd, hR, ha, hk, hp, q⟩ := h
  rw [Vals.ref1 r]
  refine sorted_coll (D := (· = ds)) (R := R) (fun T hT => ?_) (fun _ e => e ▸ ha) (fun _ e => .inl (e ▸ hk)) (fun _ e => e ▸ hp) hu fun _ e => e ▸ q
  have fin : ∀ {its : List Value} {ty : String} {o : Obj} {n : Nat}, Vals xs its → xs.length ≤ sizeLine → ty = "list" ∨ ty = "tuple" → s.heap.get? a = some o → o.cls = .type ty → o.data = .seq its.toArray n → wpAny (model X.prog X.w) X.A.in1 (collect (.ref a)) T X.xe s := fun {its ty o n} rv hz hty ho hc hdt => by
    have hl := rv.length
    refine PySem.wpAny_collect_seq a hty ho hc hdt (fun h' k => ?_) (by rw [List.size_toArray]; omega)
    have I1 : Inv X pins σ H { s with heap := h', toks := s.toks } := I.kept k
    have e1 := each_reads I1 rv hd
    exact hT _ its ds rfl I1 e1 (each_val rv hR) (by omega)
  rcases hs with hs | hs
  · obtain ⟨its, rv, ⟨o, n, ho, hc, _, hdt⟩, hz⟩ := I.list hs
    exact fin rv hz (.inl rfl) ho hc hdt
  · obtain ⟨its, rv, ⟨o, ho, hc, n, hdt⟩, hz⟩ := I.tuple hs
    exact fin rv hz (.inr rfl) ho hc hdt
end
end JQ

-- part Pk2
set_option Elab.async false
set_option linter.all false
set_option maxRecDepth 100000
set_option maxHeartbeats 2000000
/-! Dicts whose keys are data (tuples of texts, ints, tuples), their values True. -/
namespace JQ
open PySem PySem.Spec PyProof.Rows L2
mutual
/-- the key that a datum is -/
def nk : PyData → NestedKey
  | .none => .none
  | .bool b => .num (if b = true then 1 else 0)
  | .int i => .num i
  | .str x => .text x
  | .tuple xs => .tup (nkAll xs)
  | .list _ => .none
  | .dict _ => .none
def nkAll : List PyData → List NestedKey
  | [] => []
  | x :: xs => nk x :: nkAll xs
end
mutual
def noL : PyData → Bool
  | .none => true
  | .bool _ => true
  | .int _ => true
  | .str _ => true
  | .tuple xs => noLAll xs
  | .list _ => false
  | .dict _ => false
def noLAll : List PyData → Bool
  | [] => true
  | x :: xs => noL x && noLAll xs
end
/-- a tuple that may be a key -/
def keyOk (d : PyData) : Bool := noL d && decide ((nk d).depth ≤ 8)
mutual
theorem reads_nested {h : Heap} : ∀ {d : PyData} {v : Value} {as : List Addr}, Reads h v d as → noL d = true → NestedIs h (nk d) v
  | .none, _, _, r, _ => by cases r; exact .none
  | .bool b, _, _, r, _ => by cases r; exact .bool rfl
  | .int i, _, _, r, _ => by cases r; exact .int _ _
  | .str x, _, _, r, _ => by cases r; exact .text _ _
  | .tuple xs, _, _, r, q => by
    cases r with
    | tuple h1 h2 h3 h4 => exact .tup h1 h2 h3 (readsAll_nested h4 q)
  | .list _, _, _, _, q => by cases q
  | .dict _, _, _, _, q => by cases q
theorem readsAll_nested {h : Heap} : ∀ {ds : List PyData} {vs : List Value} {as : List Addr}, ReadsAll h vs ds as → noLAll ds = true → NestedAll h (nkAll ds) vs
  | [], _, _, r, _ => by cases r; exact .nil
  | d :: ds, _, _, r, q => by
    have q : (noL d && noLAll ds) = true := q
    rw [Bool.and_eq_true] at q
    cases r with
    | cons h1 h2 => exact .cons (reads_nested h1 q.1) (readsAll_nested h2 q.2)
end
/-- the entries -/
def ents (L : List (Addr × PyData)) : List (NestedKey × Addr × Value) := L.map fun q => (nk q.2, q.1, Value.bool true)
def keyOX (P : Program) (w : World) (a : Addr) (L : List (Addr × PyData)) : HO := .ext fun h => (a == sysModules) = false ∧ L.length ≤ sizeLine ∧
  ∃ o es ep, h.get? a = some o ∧ o.ExactDict ∧ o.data = .dict es ep ∧ es.toList = (ents L).map (entryOfKey (nestedKind P w)) ∧ ((ents L).map (·.1)).Nodup
/-- the rows of a set of data -/
def nrows (P : Program) (w : World) (L : List (Addr × PyData)) : List (Int × Value) := L.map fun q => ((nestedKind P w).hash (nk q.2), Value.ref q.1)
/-- a set of data -/
structure SetD0 (P : Program) (w : World) (a : Addr) (L : List (Addr × PyData)) (h : Heap) : Prop where
  has : ∃ (rs : Array (Int × Value)) (v : Nat) (tb : SetTable), (∃ ob, h.get? a = some ob ∧ ob.ExactSet ∧ ob.data = .set rs v tb) ∧ rs.toList = nrows P w L ∧ TabOk tb (L.map fun q => (nestedKind P w).hash (nk q.2)) ∧
    (w.params.followText "set-order" = true ∨ tb.led = true) ∧ L.length * 5 < tb.mask * 3
  one : (L.map fun q => nk q.2).Nodup
  few : L.length < 64
def setOX (P : Program) (w : World) (a : Addr) (L : List (Addr × PyData)) : HO := .ext (SetD0 P w a L)
abbrev cf (P : Program) (w : World) (K : PySem.W.Frag) : Cf := ⟨K, keyOX P w, setOX P w, fun _ _ _ h => nomatch h⟩
theorem keyOX_ok {P : Program} {w : World} {H : Hp} {h : Heap} {a : Addr} {L : List (Addr × PyData)} (lo : (a == sysModules) = false) (hl : L.length ≤ sizeLine) {o : Obj} {es : Array DictEntry} {ep : Nat}
    (h1 : h.get? a = some o) (h2 : o.ExactDict) (h3 : o.data = .dict es ep) (h4 : es.toList = (ents L).map (entryOfKey (nestedKind P w))) (h5 : ((ents L).map (·.1)).Nodup) : ObjOk P w H h a (keyOX P w a L) :=
  ⟨⟨lo, hl, o, es, ep, h1, h2, h3, h4, h5⟩, ⟨o, h1⟩, fun h1' h2' ⟨l, l2, o', es', ep', e1, r⟩ k => ⟨l, l2, o', es', ep', k _ e1, r⟩⟩
def tDNewX (c : Cf) : TE := fun _ H Q => ∀ p, H p = none → Q (.ref p) (upd H p (c.keyO p []))
/-- d[k] = True -/
def sKsPut (c : Cf) (td ty tv : TE) : TS := fun D σ H => tv σ H fun v H1 => td σ H1 fun x H2 => ty σ H2 fun y H3 => ∃ a L b d, x = .ref a ∧ H3 a = some (c.keyO a L) ∧ v = .bl true ∧ y = .ref b ∧ Dp c.K H3 (.ref b) d ∧ keyOk d = true ∧
  (∀ q ∈ L, Dp c.K H3 (.ref q.1) q.2 ∧ keyOk q.2 = true) ∧ L.length < sizeLine ∧ D.nx σ (upd H3 a (c.keyO a (if L.any (fun q => decide (nk q.2 = nk d)) = true then L else L ++ [(b, d)])))
def rLenKs (c : Cf) : List V → Hp → VK → Prop := fun xs H Q => ∃ a L, xs = [.ref a] ∧ H a = some (c.keyO a L) ∧ (∀ q ∈ L, Dp c.K H (.ref q.1) q.2 ∧ keyOk q.2 = true) ∧ Q (.int L.length) H
def rSortKs (c : Cf) : List V → Hp → VK → Prop := fun xs H Q => ∃ a L, xs = [.ref a] ∧ H a = some (c.keyO a L) ∧ (∀ q ∈ L, Dp c.K H (.ref q.1) q.2) ∧ PySem.W.AllAlike (L.map (·.2)) ∧ (PySem.W.Sortable (L.map (·.2)) ∨ L.length ≤ 1) ∧ (∀ q ∈ L, q.2.depth ≤ 60 ∧ q.2 ≠ .none) ∧
  ∀ p out, H p = none → Paired (fun v d => ∃ q ∈ L, v = V.ref q.1 ∧ d = q.2) out ((L.map (·.2)).mergeSort (PySem.W.dataLe false id)) → Q (.ref p) (upd H p (.lst out))
section
variable {X : Cx} {pins : List (Addr × Obj)} {σ : L2.St} {H : Hp} {s : Shared} {pos pos' : Pos}
theorem pe_dnewX : PE X (.Dict [] [] pos) (tDNewX (cf X.prog X.w X.K)) := ⟨fun pins s σ H Q I h =>
  wpAny_Dict_empty ⟨.ref s.heap.objs.size, _, I.laid (a := s.heap.objs.size) (o := keyOX X.prog X.w s.heap.objs.size []) (t' := s.toks) (fun _ _ q => Heap.get?_push_of_some _ q) (Nat.le_refl _)
    (keyOX_ok (beq_eq_false_iff_ne.mpr (Nat.ne_of_gt I.big)) (Nat.zero_le _) (o := { cls := .type "dict", data := .dict #[] }) (es := #[]) (ep := 0) (Heap.get?_push_size _ rfl) ⟨rfl, rfl, rfl⟩ rfl rfl List.nodup_nil), rfl, h _ (I.hok.fresh (Nat.le_refl _))⟩⟩
theorem key_is (I : Inv X pins σ H s) {b : Addr} {d : PyData} (h : Dp X.K H (.ref b) d) (k : keyOk d = true) : (nestedKind X.prog X.w).is s.heap (nk d) b := by
  unfold keyOk at k
  rw [Bool.and_eq_true, decide_eq_true_eq] at k
  obtain ⟨as, r⟩ := Dp.reads I d (.ref b) (.ref b) h rfl
  exact ⟨reads_nested r k.1, k.2⟩
theorem ks_dict (I : Inv X pins σ H s) {a : Addr} {L : List (Addr × PyData)} (h : H a = some (keyOX X.prog X.w a L)) (hq : ∀ q ∈ L, Dp X.K H (.ref q.1) q.2 ∧ keyOk q.2 = true) :
    (a == sysModules) = false ∧ L.length ≤ sizeLine ∧ s.heap.DictOfH (nestedKind X.prog X.w) a (ents L) := by
  obtain ⟨⟨lo, hl, o, es, ep, h1, h2, h3, h4, h5⟩, _, _⟩ := I.hok a _ h
  refine ⟨lo, hl, o, es, ep, h1, h2, h3, h4, fun x hx => ?_, h5⟩
  obtain ⟨q, hm, e⟩ := List.mem_map.mp hx
  subst e
  exact key_is I (hq q hm).1 (hq q hm).2
theorem ents_put (L : List (Addr × PyData)) (b : Addr) (d : PyData) : storedH (ents L) (nk d) b (Value.bool true) = ents (if L.any (fun q => decide (nk q.2 = nk d)) = true then L else L ++ [(b, d)]) := by
  have key : (atKey (ents L) (nk d)).isSome = L.any (fun q => decide (nk q.2 = nk d)) := by
    induction L with
    | nil => rfl
    | cons q L ih =>
      by_cases e : nk q.2 = nk d
      · simp [ents, atKey, e]
      · simpa [ents, atKey, e] using ih
  unfold storedH
  rw [key]
  split
  · -- the values are True all the same
    have : ∀ L : List (Addr × PyData), (ents L).map (putAt (nk d) (Value.bool true)) = ents L := by
      intro L
      induction L with
      | nil => rfl
      | cons q L ih =>
        show putAt (nk d) (Value.bool true) (nk q.2, q.1, Value.bool true) :: (ents L).map (putAt (nk d) (Value.bool true)) = _
        rw [ih]
        by_cases e : nk q.2 = nk d <;> simp [putAt, ents, e]
    exact this L
  · unfold ents
    rw [List.map_append]; rfl
theorem ps_ksput {k : Nat} {o i value : Expr} {td ty tv : TE} (hr : Room k X.A) (ho : PE X o td) (hi : PE X i ty) (hv : PE X value tv) (hs : swapsWith value (some (.Subscript o i pos')) pos.line X.env = pure false) :
    PS X (.Assign [.Subscript o i pos'] value pos) (sKsPut (cf X.prog X.w X.K) td ty tv) := by
  refine ⟨fun pins s σ H D I h => ?_⟩
  refine wpAny_Assign_Subscript (thn (hv.run pins s σ H _ I h) fun r s1 ⟨v, H1, I1, rv, q1⟩ => thn (ho.run pins s1 σ H1 _ I1 q1) fun u s2 ⟨x, H2, I2, rx, q2⟩ => thn (hi.run pins s2 σ H2 _ I2 q2) fun iv s3 ⟨y, H3, I3, ry, a, L, b, d, ex, ha, ev, ey, hd, hk, hq, hl, q3⟩ => ?_) hs
  subst ex ev ey
  obtain rfl : u = Value.ref a := rx
  obtain rfl : r = Value.bool true := rv
  obtain rfl : iv = Value.ref b := ry
  obtain ⟨lo, hz, dd⟩ := ks_dict I3 ha hq
  have hroom : (nestedKind X.prog X.w).room X.A.in1 := by
    show X.A.units + 1 + 8 < cLine
    have := hr.units; omega
  refine wpAny_setItem_heap (hsz := by unfold ents; rw [List.length_map]; exact hz) hroom (key_is I3 hd hk) dd fun h' dd' hsb => ?_
  rw [ents_put] at dd'
  obtain ⟨q, es, ep, hq1, h2, h3, h4, _, h5⟩ := dd'
  have hl2 : (if L.any (fun q => decide (nk q.2 = nk d)) = true then L else L ++ [(b, d)]).length ≤ sizeLine := by
    split
    · exact hz
    · rw [List.length_append, List.length_singleton]; exact hl
  exact ⟨σ, _, d_write I3 (by rw [ha]; exact True.intro) hsb ⟨q, hq1⟩ (keyOX_ok lo hl2 hq1 h2 h3 h4 h5), q3⟩
theorem cr_lenKs : CallR X (.builtin "len") (rLenKs (cf X.prog X.w X.K)) := by
  intro pins s σ H vs us Q I r h
  obtain ⟨a, L, rfl, ha, hq, q⟩ := h
  obtain ⟨u, rfl, rx⟩ := vals1 r
  cases rx
  obtain ⟨lo, hz, dd⟩ := ks_dict I ha hq
  have el : (pairsH (ents L)).length = L.length := by rw [pairsH_length]; unfold ents; rw [List.length_map]
  have hm : s.heap.DictKeyed (nestedKind X.prog X.w) a (pairsH (ents L)) := ⟨_, dd, rfl⟩
  refine PyProof.Rows.call_len_slot (n := L.length) hm.typeIs PySem.F.slot_dict_len (fun Q' hq => ?_) ?_ ?_ ?_
  · rw [← el] at hq
    exact len_keyed lo hm hq
  · omega
  · have := sizeLine_eq; omega
  · exact ⟨.int L.length, H, I.tok _, ⟨_, rfl⟩, q⟩
end
end JQ

-- part Pk3
set_option Elab.async false
set_option linter.all false
set_option maxRecDepth 100000
set_option maxHeartbeats 2000000
/-! sorted(d) of a dict of data keys; of a dict of ints; dict(d). -/
namespace JQ
open PySem PySem.Spec PyProof.Rows L2
/-- sorted(d): d's keys are ints, fewer than 64 -/
abbrev rSortNd : List V → Hp → VK → Prop := fun xs H Q => ∃ (a : Addr) (kvs : List (Key × V)) (ks : List Int), xs = [.ref a] ∧ H a = some (.dK kvs) ∧ kvs.map (·.1) = ks.map Sum.inl ∧ ks.length < 64 ∧
  ∀ (ys : List Int) (p : Addr), ys.Perm ks → ys.Pairwise (· ≤ ·) → H p = none → Q (.ref p) (upd H p (.lst (ys.map V.int)))
abbrev rDictOf : List V → Hp → VK → Prop := fun xs H Q => ∃ (a : Addr) (kvs : List (Key × V)), xs = [.ref a] ∧ H a = some (.dK kvs) ∧ ∀ p, H p = none → Q (.ref p) (upd H p (.dK kvs))
section
variable {X : Cx} {pins : List (Addr × Obj)} {σ : L2.St} {H : Hp} {s : Shared}
theorem refs_read (I : Inv X pins σ H s) : ∀ {L : List (Addr × PyData)}, (∀ q ∈ L, Dp X.K H (.ref q.1) q.2) → PySem.W.EachIs (fun v d => ∃ as, Reads s.heap v d as) (L.map fun q => Value.ref q.1) (L.map (·.2))
  | [], _ => .nil
  | q :: L, hh => .cons (Dp.reads I q.2 (.ref q.1) (.ref q.1) (hh q (List.mem_cons_self ..)) rfl) (refs_read I fun q' hq' => hh q' (List.mem_cons_of_mem _ hq'))
theorem refs_mem {L : List (Addr × PyData)} : ∀ {L' : List (Addr × PyData)}, (∀ q ∈ L', q ∈ L) → PySem.W.EachIs (fun u d => ∃ v, RelV v u ∧ ∃ q ∈ L, v = V.ref q.1 ∧ d = q.2) (L'.map fun q => Value.ref q.1) (L'.map (·.2))
  | [], _ => .nil
  | q :: L', hh => .cons ⟨.ref q.1, rfl, q, hh q (List.mem_cons_self ..), rfl, rfl⟩ (refs_mem fun q' hq' => hh q' (List.mem_cons_of_mem _ hq'))
theorem cr_sortKs (hcalm : X.calm = true) (hu : X.A.units + 64 < cLine) : CallR X (.builtin "sorted") (rSortKs (cf X.prog X.w X.K)) := by
  intro pins s σ H xs us Q I r h
  obtain ⟨a, L, rfl, ha, hq, hal, hks, hdp, q⟩ := h
  obtain ⟨u, rfl, rx⟩ := vals1 r
  cases rx
  obtain ⟨⟨lo, hl, o, es, ep, h1, h2, h3, h4, h5⟩, _, _⟩ := I.hok a _ ha
  have hes : es.size = L.length := by
    rw [← Array.length_toList, h4]; unfold ents; rw [List.length_map, List.length_map]
  refine sorted_coll (D := (· = L.map (·.2))) (R := fun v d => ∃ q ∈ L, v = V.ref q.1 ∧ d = q.2) (fun T hT => ?_) (fun _ e => e ▸ hal) (fun _ e => e ▸ hks.elim .inl fun z => .inr ⟨by rw [List.length_map]; exact z, fun d hd => ?_⟩) (fun _ e d hd => ?_) hu fun _ e => e ▸ q
  · refine PySem.W.kdu_collect (A := X.A.in1) (kdl_raw lo h2 h3) (I.ok.hd hcalm) h1 (by rw [hes]; exact hl) fun h' tk acc hk hacc => ?_
    have ea : acc.toList = (L.map fun q => Value.ref q.1) := by
      have hl' : acc.toList.length = L.length := by rw [Array.length_toList, hacc.1]; exact hes
      apply List.ext_getElem?
      intro j
      rw [List.getElem?_map]
      cases hj : acc.toList[j]? with
      | none =>
        have g1 := List.getElem?_eq_none_iff.mp hj
        rw [List.getElem?_eq_none (by omega)]
        rfl
      | some v =>
        obtain ⟨en, hen, hv⟩ := hacc.2 j v (by rw [← Array.getElem?_toList]; exact hj)
        rw [← Array.getElem?_toList, h4, List.getElem?_map] at hen
        unfold ents at hen
        rw [List.getElem?_map] at hen
        cases hb : L[j]? with
        | none => rw [hb] at hen; cases hen
        | some b =>
          rw [hb] at hen
          have e2 := Option.some.inj hen
          rw [hv, ← e2]
          rfl
    have I1 : Inv X pins σ H { s with heap := h', toks := tk } := I.kept hk
    refine hT _ _ _ rfl I1 ?_ ?_ (by rw [ea, List.length_map]; exact hl)
    · rw [ea]
      exact refs_read I1 hq
    · rw [ea]
      exact refs_mem fun _ h => h
  · obtain ⟨q, hm, e⟩ := List.mem_map.mp hd
    subst e
    exact (hdp q hm).2
  · subst e
    obtain ⟨q, hm, e⟩ := List.mem_map.mp hd
    subst e
    exact (hdp q hm).1
/-- sorted(d) of a dict of ints -/
theorem cr_sortNd (hcalm : X.calm = true) : CallR X (.builtin "sorted") rSortNd := by
  intro pins s σ H xs us Q I r ⟨a, kvs, ks, h1, h2, h3, h4, h5⟩
  exact call_sortedDI hcalm pins s σ H xs us Q I r ⟨a, kvs, ks, h1, .inl h2, h3, h4, h5⟩
theorem cr_dictOf : CallR X (.type "dict") rDictOf := by
  intro pins s σ H xs us Q I r ⟨a, kvs, h1, h2, h3⟩
  exact call_dictD pins s σ H xs us Q I r ⟨a, kvs, h1, .inl h2, h3⟩
end
end JQ

-- part Pk4
set_option Elab.async false
set_option linter.all false
set_option maxRecDepth 100000
set_option maxHeartbeats 4000000
/-! tuple * n, n one too. -/
namespace JQ
open PySem PySem.Spec PyProof.Rows L2
theorem tuple_mul1 (l : Addr) (items : Array Value) (n : Nat) (dd : Option Addr) (sl : Array (Option Value)) (u : Tok) :
    Meets (Builtin.«tuple.__mul__» ⟨[.ref l, .int 1 u], []⟩) (fun _ R s => s.heap.get? l = some { cls := .type "tuple", dict := dd, data := .seq items n, slots := sl } ∧
      R (.ok (.ret (Value.ref l))) s) :=
  .of_wp fun prog w A R s h => by
    obtain ⟨hp, g, d, tk, os⟩ := s
    obtain ⟨hl, h⟩ := h
    have f1 := AutoSeq1.idx_int
    have c0 : (decide ((1 : Int) < -(2 ^ 63)) || decide ((1 : Int) ≥ 2 ^ 63)) = false := by decide
    have c1 : (items.isEmpty || (1 : Int) == 1) = true := by simp
    wp_walk using wpAny_loadPart' hl
    repeat (first
      | (refine wpAny_ite_false (decide_eq_false (by rw [c0]; exact Bool.false_ne_true)) ?_; wp_walk using wpAny_loadPart' hl)
      | (refine wpAny_ite_true (decide_eq_true (by rw [c1])) ?_; wp_walk using wpAny_loadPart' hl))
    exact ⟨_, rfl, h⟩
def rRepN (K : PySem.W.Frag) : R2 := fun x y H Q => (∃ l xs, x = .ref l ∧ y = .int 1 ∧ SqT K H l xs ∧ Q (.ref l) H) ∨ rRepT K x y H Q
theorem op_repN {X : Cx} : OpR X (binaryOp .Mult) (rRepN X.K) := by
  intro pins s σ H x y v u Q I rx ry h
  rcases h with ⟨l, xs, rfl, rfl, hT, q⟩ | h
  · cases rx
    obtain ⟨t, rfl⟩ := ry
    obtain ⟨its, r, ⟨⟨cls, dd, data, sl⟩, ho, hc, n, hd⟩, hs⟩ := I.tuple hT
    simp only at hc hd
    subst hc hd
    refine wpAny_binaryOp_repeat_ref (T := "tuple") (U := "int") (by decide) ⟨_, ho, rfl⟩ (fun s' => typeIs_int s' 1 t) noFill_tuple_mul F.fills_int_mul F.slot_int_rmul repeat_tuple F.slot_int_index.lookup
      (call_meets F.slot_int_rmul (typeIs_int s 1 t) F.entry_int_rmul (F.args_int_rmul_2 _ _) (int_rmul_tuple 1 t l its.toArray n dd sl)
        ⟨ho, rfl, ⟨_, ho, rfl⟩, call_meets F.slot_tuple_mul ⟨_, ho, rfl⟩ F.entry_tuple_mul (F.args_tuple_mul_2 _ _) (tuple_mul1 l its.toArray n dd sl t) ⟨ho, ?_⟩⟩)
    exact ⟨.ref l, _, I.tok _, rfl, q⟩
  · exact op_repT pins s σ H x y v u Q I rx ry h
end JQ

-- part Pka
set_option Elab.async false
set_option linter.all false
set_option maxRecDepth 100000
set_option maxHeartbeats 4000000
/-! Sets of data keys: what is asked of a key; the search. -/
namespace JQ
open PySem PySem.Spec PyProof.Rows L2
theorem nall_mem {h : Heap} : ∀ {ks : List NestedKey} {vs : List Value}, NestedAll h ks vs → ∀ v ∈ vs, ∃ k ∈ ks, NestedIs h k v
  | _, _, .cons h1 h2, v, hv => by
    rcases List.mem_cons.mp hv with rfl | hv
    · exact ⟨_, List.mem_cons_self .., h1⟩
    · obtain ⟨k, hk, x⟩ := nall_mem h2 v hv
      exact ⟨k, List.mem_cons_of_mem _ hk, x⟩
theorem deep_mem : ∀ {ks : List NestedKey} {k : NestedKey}, k ∈ ks → k.depth ≤ NestedKey.depthAll ks
  | x :: ks, k, h => by
    unfold NestedKey.depthAll
    rcases List.mem_cons.mp h with rfl | h
    · exact Nat.le_max_left ..
    · exact Nat.le_trans (deep_mem h) (Nat.le_max_right ..)
section
variable {P : Program} {w : World} {A : Around} {E : Value → Shared → Prop} {s : Shared}
/-- a key is of no class statement -/
theorem nk_class : ∀ (n : Nat) {k : NestedKey} {v : Value} {Q : Bool → Shared → Prop}, NestedIs s.heap k v → k.depth ≤ n → Q false s → wpAny (model P w) A (ofAClassStatement n v) Q E s := by
  intro n
  induction n with
  | zero =>
    intro k v Q x hd q
    cases x with
    | tup => simp [NestedKey.depth] at hd
    | _ => exact wpAny_pure q
  | succ n ih =>
    intro k v Q x hd q
    cases x with
    | @tup a o vs m ks ho hc hdt hall =>
      unfold ofAClassStatement
      refine wpAny_bind (wpAny_typeOf (show s.TypeIs (.ref a) "tuple" from ⟨o, ho, hc⟩) ?_)
      simp only [show (("tuple" : String) == "tuple") = true from by decide, if_true, Bool.not_true, Bool.false_eq_true, if_false]
      try refine wpAny_bind (wpAny_pure ?_)
      try simp only [Bool.not_true, Bool.false_eq_true, if_false]
      refine wpAny_bind (m := seqItems? (.ref a)) (wpAny_seqItems ho hdt ?_)
      refine wpAny_bind (m := forIn vs _ _) ?_
      rw [← Array.forIn_toList]
      refine wpAny_forIn_list _ (fun rest r s' => r.1 = none ∧ s' = s ∧ ∀ u ∈ rest, ∃ k', NestedIs s.heap k' u ∧ k'.depth ≤ n) _ ?_ ?_ _ _ ⟨rfl, rfl, fun u hu => ?_⟩
      · rintro u rest r s' ⟨hr, rfl, hu⟩
        obtain ⟨k', x', d'⟩ := hu u (List.mem_cons_self ..)
        refine wpAny_bind (ih x' d' ?_)
        simp only [Bool.false_eq_true, if_false]
        exact wpAny_pure ⟨rfl, rfl, fun y hy => hu y (List.mem_cons_of_mem _ hy)⟩
      · rintro ⟨r1, r2⟩ s' ⟨hr, rfl, _⟩
        obtain rfl : r1 = none := hr
        exact wpAny_pure q
      · obtain ⟨k', hk', x'⟩ := nall_mem hall u hu
        have := deep_mem hk'
        unfold NestedKey.depth at hd
        exact ⟨k', x', by omega⟩
    | _ => exact wpAny_pure q
/-- whether its hash goes by value: one way or the other -/
theorem nk_byval : ∀ (n : Nat) {k : NestedKey} {v : Value} {Q : Bool → Shared → Prop}, NestedIs s.heap k v → (∀ b, Q b s) → wpAny (model P w) A (hashByValue n v) Q E s := by
  intro n
  induction n with
  | zero =>
    intro k v Q x q
    cases x <;> exact wpAny_pure (q _)
  | succ n ih =>
    intro k v Q x q
    cases x with
    | @tup a o vs m ks ho hc hdt hall =>
      unfold hashByValue
      refine wpAny_bind (wpAny_specialOf (show s.TypeIs (.ref a) "tuple" from ⟨o, ho, hc⟩) F.slot_tuple_hash.lookup ?_)
      refine wpAny_bind (m := seqItems? (.ref a)) (wpAny_seqItems ho hdt ?_)
      refine wpAny_bind (m := forIn vs _ _) ?_
      rw [← Array.forIn_toList]
      refine wpAny_forIn_list _ (fun rest r s' => r.1 = none ∧ s' = s ∧ ∀ u ∈ rest, ∃ k', NestedIs s.heap k' u) _ ?_ ?_ _ _ ⟨rfl, rfl, fun u hu => ?_⟩
      · rintro u rest r s' ⟨hr, rfl, hu⟩
        obtain ⟨k', x'⟩ := hu u (List.mem_cons_self ..)
        refine wpAny_bind (ih x' fun b => ?_)
        cases b with
        | true =>
          simp only [Bool.not_true, Bool.false_eq_true, if_false]
          exact wpAny_pure ⟨rfl, rfl, fun y hy => hu y (List.mem_cons_of_mem _ hy)⟩
        | false =>
          simp only [Bool.not_false, if_true]
          exact wpAny_pure (wpAny_pure (q _))
      · rintro ⟨r1, r2⟩ s' ⟨hr, rfl, _⟩
        obtain rfl : r1 = none := hr
        exact wpAny_pure (q _)
      · obtain ⟨k', _, x'⟩ := nall_mem hall u hu
        exact ⟨k', x'⟩
    | _ => exact wpAny_pure (q _)
abbrev NK (P : Program) (w : World) : HeapKind P w NestedKey := nestedKind P w
/-- a search among keys shows nothing -/
theorem nk_seen {k : NestedKey} {b : Addr} {Q : Bool → Shared → Prop} (hk : (NK P w).is s.heap k b) {ys : List Value} (hy : ∀ y ∈ ys, ∃ k' c, y = Value.ref c ∧ (NK P w).is s.heap k' c) (h : Q false s) :
    wpAny (model P w) A (searchCouldBeSeen (.ref b) ys) Q E s := by
  unfold searchCouldBeSeen
  refine wpAny_bind (wpAny_forIn_list _ (fun rest r s' => r.1 = none ∧ s' = s ∧ ∀ y ∈ rest, ∃ k' c, y = Value.ref c ∧ (NK P w).is s.heap k' c) _ ?_ ?_ _ _ ⟨rfl, rfl, hy⟩)
  · rintro v rest r s' ⟨hr, rfl, hall⟩
    obtain ⟨k', c, rfl, hc⟩ := hall v (List.mem_cons_self ..)
    have next : ∀ y ∈ rest, ∃ k' c, y = Value.ref c ∧ (NK P w).is s'.heap k' c := fun u hu => hall u (List.mem_cons_of_mem _ hu)
    dsimp only
    cases hv : (b == c || (carriedByValue (.ref b) && carriedByValue (.ref c))) with
    | true =>
      refine wp_if_pos rfl ?_
      exact wpAny_pure ⟨rfl, rfl, next⟩
    | false =>
      refine wp_if_neg (by decide) ?_
      refine wpAny_bind ((NK P w).quiet hk ?_)
      simp only [Bool.not_true, Bool.false_eq_true, if_false]
      refine wpAny_bind ((NK P w).quiet hc ?_)
      simp only [Bool.not_true, Bool.false_eq_true, if_false]
      refine wpAny_bind (nk_class 8 hk.1 hk.2 ?_)
      simp only [Bool.false_eq_true, if_false]
      refine wpAny_bind (nk_class 8 hc.1 hc.2 ?_)
      simp only [Bool.false_eq_true, if_false]
      exact wpAny_pure ⟨rfl, rfl, next⟩
  · rintro ⟨r1, r2⟩ s' ⟨hr, rfl, _⟩
    obtain rfl : r1 = none := hr
    exact wpAny_pure h
/-! ### a set of data keys, whole -/
structure SD (P : Program) (w : World) (h : Heap) (a : Addr) (L : List (Addr × PyData)) (es : Array (Int × Value)) (ep : Nat) (tb : SetTable) : Prop where
  at_ : ∃ ob, h.get? a = some ob ∧ ob.ExactSet ∧ ob.data = .set es ep tb
  row : es.toList = nrows P w L
  tab : TabOk tb (L.map fun q => (NK P w).hash (nk q.2))
  one : (L.map fun q => nk q.2).Nodup
  key : ∀ q ∈ L, (NK P w).is h (nk q.2) q.1
  led : w.params.followText "set-order" = true ∨ tb.led = true
  lax : L.length * 5 < tb.mask * 3
  few : L.length < 64
variable {a : Addr} {L : List (Addr × PyData)} {es : Array (Int × Value)} {ep : Nat} {tb : SetTable}
theorem rows_len {es : Array (Int × Value)} (h : es.toList = nrows P w L) : es.size = L.length := by
  have := congrArg List.length h
  unfold nrows at this
  rwa [Array.length_toList, List.length_map] at this
theorem fits_of {n : Nat} {tb : SetTable} (h1 : tb.place.size = n) (h2 : tb.dummies = #[]) (h3 : n ≤ tb.mask) : tb.fits n = true := by
  unfold SetTable.fits SetTable.fill
  rw [h2, Bool.and_eq_true, beq_iff_eq, decide_eq_true_eq]
  exact ⟨h1, by show tb.place.size + 0 ≤ tb.mask; omega⟩
theorem SD.psz (R : SD P w s.heap a L es ep tb) : tb.place.size = L.length := by have := R.tab.sz; rwa [List.length_map] at this
theorem SD.fit (R : SD P w s.heap a L es ep tb) : tb.fits es.size = true := by
  rw [rows_len R.row]
  exact fits_of R.psz R.tab.dm (by have := R.lax; omega)
theorem row_at {es : Array (Int × Value)} (h : es.toList = nrows P w L) {i : Nat} {q : Addr × PyData} (hi : L[i]? = some q) : es[i]? = some ((NK P w).hash (nk q.2), Value.ref q.1) := by
  rw [← Array.getElem?_toList, h]
  unfold nrows
  rw [List.getElem?_map, hi]; rfl
theorem no_way (h : MaskOk tb.mask) : ¬ tb.gaveWay = true := by
  unfold SetTable.gaveWay
  rw [mask_odd h]; decide
theorem dummy_nth (m : Nat) : ∀ (n : Nat) (p : SetTable.Probe), p.dummy = none → (nth m p n).dummy = none
  | 0, _, h => h
  | n + 1, p, h => dummy_nth m n (adv m p) (by unfold adv; split <;> exact h)
/-- how a search goes on from the c-th place of its way -/
theorem look_from (R : SD P w s.heap a L es ep tb) {x : Addr} {k : NestedKey} (hx : (NK P w).is s.heap k x) (hu : (NK P w).room A) {K : Nat} (hf0 : K < 10 * SetTable.turns tb.mask)
    (hK : way tb.mask ((NK P w).hash k) K ∉ tb.place.toList) (hB : ∀ c, c < K → way tb.mask ((NK P w).hash k) c ∈ tb.place.toList) {Q : SetFound → Shared → Prop}
    (yes : k ∈ L.map (fun q => nk q.2) → Q (.there none) s) (no : k ∉ L.map (fun q => nk q.2) → Q (.free (way tb.mask ((NK P w).hash k) K) false) s) :
    ∀ (f c : Nat) (stand : Option SetTable.Probe), stand.getD (tb.probeStart ((NK P w).hash k)) = nth tb.mask (runAt tb.mask (SetTable.bits ((NK P w).hash k) % (tb.mask + 1)) (SetTable.bits ((NK P w).hash k))) c → c ≤ K → K < c + f →
      (∀ (i : Nat) (q : Addr × PyData), L[i]? = some q → nk q.2 = k → ∃ c', c ≤ c' ∧ c' < K ∧ tb.place.toList[i]? = some (way tb.mask ((NK P w).hash k) c')) →
      wpAny (model P w) A (setSearchFrom a (.ref x) ((NK P w).hash k) true f stand) Q E s := by
  obtain ⟨ob, ho, hex, hd⟩ := R.at_
  generalize hg : (NK P w).hash k = g at *
  let p0 := runAt tb.mask (SetTable.bits g % (tb.mask + 1)) (SetTable.bits g)
  intro f
  induction f with
  | zero => intro c stand _ h1 h2; omega
  | succ f ih =>
    intro c stand hst hc hf hre
    rw [setSearchFrom_succ]
    refine wpAny_bind (wpAny_setState_of ho hd R.fit ?_)
    refine wp_if_neg (no_way R.tab.mok) ?_
    try refine wpAny_bind (wpAny_pure ?_)
    have add : ∀ q, nth tb.mask (nth tb.mask p0 c) q = nth tb.mask p0 (c + q) := fun q => (nth_add tb.mask c p0 q).symm
    have addj : ∀ q, (nth tb.mask (nth tb.mask p0 c) q).j = way tb.mask g (c + q) := fun q => congrArg SetTable.Probe.j (add q)
    have hashAt : ∀ (i : Nat) (q : Addr × PyData), L[i]? = some q → (es[i]?.map (·.1)).getD 0 = (NK P w).hash (nk q.2) := fun i q h => by rw [row_at R.row h]; rfl
    have end_ : c + (K - c) = K := by omega
    rcases go_spec tb R.tab.ris R.tab.dm (fun i => (es[i]?.map (·.1)).getD 0) g (10 * SetTable.turns tb.mask) (K - c) (nth tb.mask p0 c) (dummy_nth _ _ _ rfl) (by omega) (fun q hq => by rw [addj]; exact hB (c + q) (by omega)) (by rw [addj, end_]; exact hK) with ⟨q, i, hq, hi, hh, hno, hpr⟩ | ⟨hno, hpr⟩
    · have hpr' : tb.probe (fun i => (es[i]?.map (·.1)).getD 0) g (stand.getD (tb.probeStart g)) = some (.candidate (way tb.mask g (c + q)) i (nth tb.mask p0 (c + (q + 1)))) := by
        rw [hst, ← addj, ← add]; exact hpr
      rw [hpr']
      dsimp only
      rw [addj] at hi
      have hil : i < L.length := by
        have h1 := (List.getElem?_eq_some_iff.mp hi).1
        have := R.psz
        rw [Array.length_toList] at h1; omega
      obtain ⟨y, hy⟩ : ∃ y, L[i]? = some y := ⟨_, List.getElem?_eq_getElem hil⟩
      have hym := List.mem_of_getElem? hy
      have hlive := slot_live R.tab.ris hi
      have rest : wpAny (model P w) A (searchRest a (.ref x) g true f es tb (way tb.mask g (c + q)) i (nth tb.mask p0 (c + (q + 1)))) Q E s := by
        unfold searchRest
        rw [row_at R.row hy]
        dsimp only
        refine wpAny_bind (wpAny_holding ((NK P w).eqBool hu (R.key y hym) hx ?_))
        refine wpAny_bind (wpAny_setState_of ho hd R.fit ?_)
        dsimp only
        by_cases e : nk y.2 = k
        · rw [decide_eq_true e]
          exact wpAny_pure (yes (List.mem_map.mpr ⟨y, hym, e⟩))
        · rw [decide_eq_false e]
          refine wp_if_neg (by decide) ?_
          try refine wpAny_bind (wpAny_pure ?_)
          rw [sameMem]
          simp only [if_true, hlive, row_at R.row hy]
          refine wpAny_bind (wpAny_isSame_ref_self (wpAny_bind (wpAny_pure ?_)))
          simp only [if_true]
          refine wp_if_neg (by decide) ?_
          refine ih (c + (q + 1)) _ rfl (by omega) (by omega) fun i' q' h' e' => ?_
          obtain ⟨c', a1, a2, a3⟩ := hre i' q' h' e'
          refine ⟨c', ?_, a2, a3⟩
          -- it isn't passed
          have h1 : ¬ c' < c + q := fun z => hno (c' - c) i' (by omega) (by rw [addj, show c + (c' - c) = c' by omega]; exact a3) (by
            show (es[i']?.map (·.1)).getD 0 = g
            rw [hashAt i' q' h', e', hg])
          have h2 : c' ≠ c + q := fun z => by
            rw [z] at a3
            have s0 := slot_live R.tab.ris a3
            rw [hlive] at s0
            injection s0 with s0
            rw [← s0, hy] at h'
            cases h'
            exact e e'
          omega
      by_cases hl : tb.led = true
      · refine wp_if_neg (by simp [hl]) ?_
        try refine wpAny_bind (wpAny_pure ?_)
        exact rest
      · refine wp_if_pos (by simp [hl]) ?_
        refine wpAny_bind (nk_seen hx (fun y hy => ?_) ?_)
        · obtain ⟨e, he, ee⟩ := List.mem_map.mp hy
          have he1 : e ∈ es.toList := by
            have : e ∈ es ∧ e.1 = g := by simpa using he
            simpa using this.1
          rw [R.row] at he1
          obtain ⟨q, hq, e2⟩ := List.mem_map.mp he1
          exact ⟨nk q.2, q.1, by rw [← ee, ← e2], R.key q hq⟩
        · refine wp_if_neg (by decide) ?_
          try refine wpAny_bind (wpAny_pure ?_)
          exact rest
    · have hpr' : tb.probe (fun i => (es[i]?.map (·.1)).getD 0) g (stand.getD (tb.probeStart g)) = some (.empty (way tb.mask g K) none) := by
        have e2 := addj (K - c)
        rw [end_] at e2
        rw [hst, ← e2]; exact hpr
      rw [hpr']
      refine wpAny_pure (no fun hm => ?_)
      obtain ⟨q, hq, e⟩ := List.mem_map.mp hm
      obtain ⟨i, hi⟩ := List.getElem?_of_mem hq
      obtain ⟨c', a1, a2, a3⟩ := hre i q hi e
      refine hno (c' - c) i (by omega) (by rw [addj, show c + (c' - c) = c' by omega]; exact a3) ?_
      show (es[i]?.map (·.1)).getD 0 = g
      rw [hashAt i q hi, e, hg]
theorem look_at (R : SD P w s.heap a L es ep tb) {x : Addr} {k : NestedKey} (hx : (NK P w).is s.heap k x) (hu : (NK P w).room A) {Q : SetFound → Shared → Prop} (yes : k ∈ L.map (fun q => nk q.2) → Q (.there none) s)
    (no : ∀ K, k ∉ L.map (fun q => nk q.2) → way tb.mask ((NK P w).hash k) K ∉ tb.place.toList → (∀ c, c < K → way tb.mask ((NK P w).hash k) c ∈ tb.place.toList) → Q (.free (way tb.mask ((NK P w).hash k) K) false) s) :
    wpAny (model P w) A (setSearch a (.ref x) ((NK P w).hash k) true) Q E s := by
  have lax := R.lax
  obtain ⟨K, hK0, hK, hB⟩ := R.tab.first (by rw [List.length_map]; omega) ((NK P w).hash k)
  have big : 10 * SetTable.turns tb.mask ≤ 1420 := by
    unfold SetTable.turns
    rcases R.tab.mok with e | e | e <;> omega
  unfold setSearch
  refine look_from R hx hu hK0 hK hB yes (fun hn => no K hn hK hB) 100000 0 none rfl (Nat.zero_le _) (by omega) fun i q hi e => ?_
  have hil := (List.getElem?_eq_some_iff.mp hi).1
  have hj := List.getElem?_eq_getElem (l := tb.place.toList) (i := i) (by rw [Array.length_toList, R.psz]; exact hil)
  obtain ⟨c, hc, e2⟩ := R.tab.before hK (i := i) (by rw [List.getElem?_map, hi, ← e]; rfl) hj
  exact ⟨c, Nat.zero_le _, hc, by rw [hj, e2]⟩
end
end JQ

-- part Pkb
set_option Elab.async false
set_option linter.all false
set_option maxRecDepth 100000
set_option maxHeartbeats 4000000
/-! Sets of data keys: one more is put in. -/
namespace JQ
open PySem PySem.Spec PyProof.Rows L2
section
variable {P : Program} {w : World} {A : Around} {E : Value → Shared → Prop} {s : Shared} {a : Addr} {L : List (Addr × PyData)} {es : Array (Int × Value)} {ep : Nat} {tb : SetTable}
theorem key_same {h h' : Heap} {k : NestedKey} {b : Addr} {ob : Obj} (x : (NK P w).is h k b) (ho : h.get? a = some ob) (hd : ob.data = .set es ep tb) (hs : Heap.SameBut a h h') : (NK P w).is h' k b :=
  nestedKind_stays.stays (fun c o vs n e1 e2 => by
    have hne : c ≠ a := fun z => by
      subst z
      rw [ho] at e1
      cases e1
      rw [hd] at e2; cases e2
    rw [hs.2 c hne]; exact e1) x
theorem key_keep {h h' : Heap} {k : NestedKey} {b : Addr} (x : (NK P w).is h k b) (hk : ∀ c o, h.get? c = some o → h'.get? c = some o) : (NK P w).is h' k b :=
  nestedKind_stays.stays (fun c o _ _ e1 _ => hk c o e1) x
theorem nrows_in (L : List (Addr × PyData)) (i : Nat) (q : Addr × PyData) : nrows P w (L.take i ++ q :: L.drop i) = (nrows P w L).take i ++ ((NK P w).hash (nk q.2), Value.ref q.1) :: (nrows P w L).drop i := by
  unfold nrows
  rw [List.map_append, List.map_cons, List.map_take, List.map_drop]
theorem range_get {α : Type} (l : List α) : (List.range l.length).filterMap (fun i => l[i]?) = l := by
  refine List.ext_getElem? fun j => ?_
  have e : (List.range l.length).filterMap (fun i => l[i]?) = (List.range l.length).pmap (fun i (h : i < l.length) => l[i]) (fun i hi => List.mem_range.mp hi) := by
    have key : ∀ (r : List Nat) (hr : ∀ i ∈ r, i < l.length), r.filterMap (fun i => l[i]?) = r.pmap (fun i (h : i < l.length) => l[i]) hr := by
      intro r
      induction r with
      | nil => intro _; rfl
      | cons i r ih =>
        intro hr
        rw [List.filterMap_cons_some (List.getElem?_eq_getElem (hr i (List.mem_cons_self ..))), List.pmap_cons, ih fun j hj => hr j (List.mem_cons_of_mem _ hj)]
    exact key _ _
  rw [e]
  by_cases hj : j < l.length
  · rw [List.getElem?_eq_getElem (by rw [List.length_pmap, List.length_range]; exact hj), List.getElem_pmap, List.getElem?_eq_getElem hj]
    simp
  · rw [List.getElem?_eq_none (by rw [List.length_pmap, List.length_range]; omega), List.getElem?_eq_none (by omega)]
/-- the rows in another order -/
theorem rows_order (h : es.toList = nrows P w L) {od : Array Nat} (hp : od.toList.Perm (List.range L.length)) :
    ∃ L2 : List (Addr × PyData), (od.filterMap (es[·]?)).toList = nrows P w L2 ∧ L2.Perm L ∧ (L2.map fun q => (NK P w).hash (nk q.2)) = od.toList.map fun i => (es.map (·.1)).getD i 0 := by
  have key : ∀ l : List Nat, (∀ i ∈ l, i < L.length) → l.filterMap (fun i => es[i]?) = nrows P w (l.filterMap fun i => L[i]?) ∧ ((l.filterMap fun i => L[i]?).map fun q => (NK P w).hash (nk q.2)) = l.map fun i => (es.map (·.1)).getD i 0 := by
    intro l
    induction l with
    | nil => intro _; exact ⟨rfl, rfl⟩
    | cons i l ih =>
      intro hl
      have hi := hl i (List.mem_cons_self ..)
      obtain ⟨e1, e2⟩ := ih fun j hj => hl j (List.mem_cons_of_mem _ hj)
      have r := row_at (P := P) (w := w) h (List.getElem?_eq_getElem hi)
      have r2 : (es.map (·.1)).getD i 0 = (NK P w).hash (nk (L[i]).2) := by
        rw [Array.getD_eq_getD_getElem?, Array.getElem?_map, r]; rfl
      refine ⟨?_, ?_⟩
      · rw [List.filterMap_cons_some r, e1, List.filterMap_cons_some (List.getElem?_eq_getElem hi)]; rfl
      · rw [List.filterMap_cons_some (List.getElem?_eq_getElem hi), List.map_cons, List.map_cons, e2, r2]
  obtain ⟨e1, e2⟩ := key od.toList fun i hi => List.mem_range.mp (hp.mem_iff.mp hi)
  refine ⟨od.toList.filterMap fun i => L[i]?, ?_, ?_, e2⟩
  · rw [← e1]
    first | exact Array.toList_filterMap .. | simp
  · have := hp.filterMap fun i => L[i]?
    rwa [range_get] at this
/-- the table is laid anew, larger -/
theorem lay_anew {ob : Obj} (ho : s.heap.get? a = some ob) (hex : ob.ExactSet) (hd : ob.data = .set es ep tb) (hr : es.toList = nrows P w L) (hps : tb.place.size = L.length) (hdm : tb.dummies = #[]) (hfl : L.length ≤ tb.mask)
    (one : (L.map fun q => nk q.2).Nodup) (key : ∀ q ∈ L, (NK P w).is s.heap (nk q.2) q.1) (led : w.params.followText "set-order" = true ∨ tb.led = true) (few : L.length < 64) {wanted M : Nat}
    (hw : SetTable.sizeAbove wanted - 1 = M) (hM : MaskOk M) (hw2 : SetTable.sizeAbove wanted ≤ 128) (lax : L.length * 5 < M * 3) {Q : Unit → Shared → Prop}
    (q : ∀ h' L' es' ep' tb', Heap.SameBut a s.heap h' → SD P w h' a L' es' ep' tb' → L'.Perm L → Q () { s with heap := h' }) : wpAny (model P w) A (setRelay a wanted) Q E s := by
  have hz := rows_len hr
  obtain ⟨tb', od, e, hp, T, em, el, _, _⟩ := relaid_ok tb (hs := es.map (·.1)) (wanted := wanted) hw hM (by rw [Array.size_map, hz]; omega)
  rw [Array.size_map, hz] at hp
  obtain ⟨L2, r1, r2, r3⟩ := rows_order hr hp
  rw [← r3] at T
  have hs2 : (od.filterMap (es[·]?)).size = es.size := by rw [rows_len r1, r2.length_eq, hz]
  rw [setRelay_eq]
  refine wpAny_bind (wpAny_setState_of ho hd (by rw [hz]; exact fits_of hps hdm hfl) ?_)
  refine wp_if_neg (by rw [sizeLine_eq]; omega) ?_
  try refine wpAny_bind (wpAny_pure ?_)
  rw [e]
  refine wpAny_bind (wp_if_neg (by rw [hs2]; simp) ?_)
  try refine wpAny_bind (wpAny_pure ?_)
  refine wpAny_pure ?_
  refine wpAny_storeSet_of ho hd ?_ (by rw [hs2, hz, sizeLine_eq]; omega)
  have sb : Heap.SameBut a s.heap (s.heap.update a (Obj.putSet (od.filterMap (es[·]?)) tb')) := Heap.SameBut.update ..
  exact q _ L2 _ (ep + 1) tb' sb ⟨⟨_, store_at ho hd, ⟨hex.1, hex.2.1, hex.2.2⟩, rfl⟩, r1, T, (r2.map fun q => nk q.2).nodup_iff.mpr one, fun x hx => key_same (key x (r2.mem_iff.mp hx)) ho hd sb, by rw [el]; exact led, by rw [r2.length_eq, em]; exact lax, by rw [r2.length_eq]; exact few⟩ r2
/-- one more -/
theorem put_in (R : SD P w s.heap a L es ep tb) {x : Addr} {d : PyData} (hx : (NK P w).is s.heap (nk d) x) (hu : (NK P w).room A) (few : L.length + 1 < 64) {Q : Bool → Shared → Prop}
    (q : ∀ b h' L' es' ep' tb', Heap.SameBut a s.heap h' → SD P w h' a L' es' ep' tb' → (nk d ∈ L.map (fun q => nk q.2) → L' = L) → (nk d ∉ L.map (fun q => nk q.2) → L'.Perm ((x, d) :: L)) → Q b { s with heap := h' }) :
    wpAny (model P w) A (setAddHashed a (.ref x) ((NK P w).hash (nk d))) Q E s := by
  obtain ⟨ob, ho, hex, hd⟩ := R.at_
  have hz := rows_len R.row
  have lax := R.lax
  unfold setAddHashed
  refine wpAny_holding ?_
  rw [show (100000 : Nat) = 99999 + 1 from rfl, setAddHashedIn_succ]
  refine wpAny_bind (wpAny_setState_of ho hd R.fit ?_)
  refine wp_if_neg (by simp [byScan, Value.scannable]) ?_
  try refine wpAny_bind (wpAny_pure ?_)
  refine wpAny_bind (look_at R hx hu (fun hm => wpAny_pure (q false s.heap L es ep tb (Heap.SameBut.refl a s.heap) R (fun _ => rfl) fun z => absurd hm z)) fun K hm hK hB => ?_)
  refine wpAny_bind (wpAny_setState_of ho hd R.fit ?_)
  dsimp only
  obtain ⟨q1, q2, q3, q4, q5, _, _, _, q9⟩ := R.tab.put hK hB
  generalize tb.put (way tb.mask ((NK P w).hash (nk d)) K) = pt at q1 q3 q4 q5 q9 ⊢
  obtain ⟨t1, i⟩ := pt
  dsimp only at q1 q3 q4 q5 q9 ⊢
  subst q1
  have hin : (SetTable.insertAt es (SetTable.below tb.place (way tb.mask ((NK P w).hash (nk d)) K)) ((NK P w).hash (nk d), Value.ref x)).toList = nrows P w (L.take (SetTable.below tb.place (way tb.mask ((NK P w).hash (nk d)) K)) ++ (x, d) :: L.drop (SetTable.below tb.place (way tb.mask ((NK P w).hash (nk d)) K))) := by
    rw [SetTable.toList_insertAt, nrows_in, R.row]
  generalize SetTable.below tb.place (way tb.mask ((NK P w).hash (nk d)) K) = i at q2 q3 hin ⊢
  have pm : (L.take i ++ (x, d) :: L.drop i).Perm ((x, d) :: L) := put_perm L i (x, d)
  have hh : (L.take i ++ (x, d) :: L.drop i).map (fun q => (NK P w).hash (nk q.2)) = (L.map fun q => (NK P w).hash (nk q.2)).take i ++ (NK P w).hash (nk d) :: (L.map fun q => (NK P w).hash (nk q.2)).drop i := by
    rw [List.map_append, List.map_cons, List.map_take, List.map_drop]
  rw [← hh] at q3
  generalize L.take i ++ (x, d) :: L.drop i = L1 at pm q3 hin
  have hl1 : L1.length = L.length + 1 := pm.length_eq
  have one1 : (L1.map fun q => nk q.2).Nodup := (pm.map fun q => nk q.2).nodup_iff.mpr (by rw [List.map_cons]; exact List.nodup_cons.mpr ⟨hm, R.one⟩)
  have hz1 := rows_len hin
  generalize SetTable.insertAt es i ((NK P w).hash (nk d), Value.ref x) = es1 at hin hz1 ⊢
  have go : ∀ t2 : SetTable, TabOk t2 (L1.map fun q => (NK P w).hash (nk q.2)) → t2.mask = tb.mask → t2.led = tb.led → t2.fill = L.length + 1 →
      wpAny (model P w) A (do
        storeSet a es1 t2
        if !false && t2.tooFull then setRelay a (SetTable.grown (es.size + 1))
        return true) Q E s := fun t2 T2 m2 l2 f2 => by
    refine wpAny_bind (wpAny_storeSet_of ho hd ?_ (by rw [hz1, hl1, sizeLine_eq]; omega))
    have sb : Heap.SameBut a s.heap (s.heap.update a (Obj.putSet es1 t2)) := Heap.SameBut.update ..
    have ho1 := store_at (es' := es1) (t' := t2) ho hd
    generalize s.heap.update a (Obj.putSet es1 t2) = h1 at sb ho1 ⊢
    have key1 : ∀ y ∈ L1, (NK P w).is h1 (nk y.2) y.1 := fun y hy => by
      rcases List.mem_cons.mp (pm.mem_iff.mp hy) with e | hy
      · rw [e]; exact key_same hx ho hd sb
      · exact key_same (R.key y hy) ho hd sb
    have led1 : w.params.followText "set-order" = true ∨ t2.led = true := by rw [l2]; exact R.led
    have tf : t2.tooFull = decide ((L.length + 1) * 5 ≥ tb.mask * 3) := by unfold SetTable.tooFull; rw [f2, m2]
    by_cases hf : t2.tooFull = true
    · have hfull : (L.length + 1) * 5 ≥ tb.mask * 3 := by rw [tf] at hf; exact of_decide_eq_true hf
      have big : ∀ M, SetTable.sizeAbove (SetTable.grown (L.length + 1)) - 1 = M → MaskOk M → SetTable.sizeAbove (SetTable.grown (L.length + 1)) ≤ 128 → (L.length + 1) * 5 < M * 3 →
          wpAny (model P w) A (setRelay a (SetTable.grown (es.size + 1))) (fun _ s' => wpAny (model P w) A (pure true) Q E s') E { s with heap := h1 } := fun M g1 g2 g3 g4 => by
        rw [hz]
        refine lay_anew (s := { s with heap := h1 }) ho1 ⟨hex.1, hex.2.1, hex.2.2⟩ rfl hin (by have := T2.sz; rwa [List.length_map] at this) T2.dm (by rw [hl1, m2]; have := R.tab.mok; rcases this with e | e | e <;> omega) one1 key1 led1 (by rw [hl1]; exact few) g1 g2 g3 (by rw [hl1]; exact g4) ?_
        intro h2 L2 es2 ep2 tb2 sb2 R2 pm2
        exact wpAny_pure (q true h2 L2 es2 ep2 tb2 (sb.trans sb2) R2 (fun z => absurd z hm) fun _ => pm2.trans pm)
      first
        | (refine wpAny_bind ?_; refine wp_if_pos (by simp [hf]) ?_)
        | (refine wp_if_pos (by simp [hf]) ?_; refine wpAny_bind ?_)
      rcases R.tab.mok with e | e | e
      · have e2 : L.length = 4 := by rw [e] at hfull lax; omega
        exact big 31 (by rw [e2, size_20]) (.inr (.inl rfl)) (by rw [e2, size_20]; decide) (by omega)
      · have e2 : L.length = 18 := by rw [e] at hfull lax; omega
        exact big 127 (by rw [e2, size_76]) (.inr (.inr rfl)) (by rw [e2, size_76]; decide) (by omega)
      · exfalso; rw [e] at hfull; omega
    · first
        | refine wp_if_neg (by simp [hf]) ?_
        | (refine wpAny_bind ?_; refine wp_if_neg (by simp [hf]) ?_; refine wpAny_pure ?_)
      refine wpAny_pure (q true h1 L1 es1 (ep + 1) t2 sb ⟨⟨_, ho1, ⟨hex.1, hex.2.1, hex.2.2⟩, rfl⟩, hin, T2, one1, key1, led1, ?_, by rw [hl1]; exact few⟩ (fun z => absurd z hm) fun _ => pm)
      rw [tf, decide_eq_true_eq] at hf
      rw [hl1, m2]; omega
  rw [List.length_map] at q9
  have fin : ∀ b : Bool, wpAny (model P w) A (do
        storeSet a es1 (if b = true then t1 else { t1 with plain := false })
        if !false && (if b = true then t1 else { t1 with plain := false }).tooFull then setRelay a (SetTable.grown (es.size + 1))
        return true) Q E s := fun b => by
    cases b with
    | true => exact go t1 q3 q4 q5 q9
    | false => exact go { t1 with plain := false } ⟨q3.ris, q3.dm, q3.sz, q3.mok, q3.bd, q3.reach⟩ q4 q5 q9
  by_cases hp : t1.plain = true
  · first
      | (refine wpAny_bind ?_; refine wp_if_pos hp ?_; refine nk_byval 8 hx.1 fun b => ?_)
      | refine wp_if_pos hp (wpAny_bind (nk_byval 8 hx.1 fun b => ?_))
    exact fin b
  · first
      | (refine wpAny_bind ?_; refine wp_if_neg hp ?_; refine wpAny_pure ?_)
      | refine wp_if_neg hp (wpAny_bind (wpAny_pure ?_))
    exact fin true
end
end JQ

-- part Pkc
set_option Elab.async false
set_option linter.all false
set_option maxRecDepth 100000
set_option maxHeartbeats 6400000
/-! set(xs): the loop over data keys; the call, for a list and for a tuple (printed by mkset.py). -/
namespace JQ
open PySem PySem.Spec PyProof.Rows L2
/-- what is in the set after i items -/
structure Taken (ks : List (Addr × PyData)) (i : Nat) (L : List (Addr × PyData)) : Prop where
  sub : ∀ p ∈ L, p ∈ ks.take i
  all : ∀ p ∈ ks.take i, nk p.2 ∈ L.map fun q => nk q.2
  len : L.length ≤ i
theorem Taken.step {ks L L' : List (Addr × PyData)} {i : Nat} {x : Addr × PyData} (g : Taken ks i L) (h : ks[i]? = some x) (h1 : nk x.2 ∈ L.map (fun q => nk q.2) → L' = L) (h2 : nk x.2 ∉ L.map (fun q => nk q.2) → L'.Perm (x :: L)) : Taken ks (i + 1) L' := by
  have e : ks.take (i + 1) = ks.take i ++ [x] := by rw [List.take_succ, h]; rfl
  by_cases hm : nk x.2 ∈ L.map fun q => nk q.2
  · rw [h1 hm]
    refine ⟨fun p hp => by rw [e]; exact List.mem_append_left _ (g.sub p hp), fun p hp => ?_, Nat.le_succ_of_le g.len⟩
    rw [e] at hp
    exact (List.mem_append.mp hp).elim (g.all p) fun z => by rw [List.mem_singleton.mp z]; exact hm
  · have pm := h2 hm
    refine ⟨fun p hp => ?_, fun p hp => ?_, by rw [pm.length_eq, List.length_cons]; exact Nat.succ_le_succ g.len⟩
    · rw [e]
      exact (List.mem_cons.mp (pm.mem_iff.mp hp)).elim (fun z => by rw [z]; exact List.mem_append_right _ (List.mem_singleton.mpr rfl)) fun z => List.mem_append_left _ (g.sub p z)
    · rw [(pm.map fun q => nk q.2).mem_iff, List.map_cons]
      rw [e] at hp
      exact (List.mem_append.mp hp).elim (fun z => List.mem_cons_of_mem _ (g.all p z)) fun z => by rw [List.mem_singleton.mp z]; exact List.mem_cons_self ..
/-- a new set's object -/
def set0 (w : World) : Obj := { cls := .type "set", dict := none, data := .set #[] 0 (.fresh 0 0 (!w.params.followText "set-order")) }
section
variable {P : Program} {w : World} {A : Around} {E : Value → Shared → Prop} {s : Shared}
theorem sd_new {h : Heap} {a : Addr} (ho : h.get? a = some (set0 w)) : SD P w h a [] #[] 0 (.fresh 0 0 (!w.params.followText "set-order")) where
  at_ := ⟨_, ho, ⟨rfl, rfl, rfl⟩, rfl⟩
  row := rfl
  tab := ⟨.nil, rfl, rfl, .inl rfl, fun x hx => (nomatch hx), fun i h j hi => by simp at hi⟩
  one := .nil
  key := fun p hp => (nomatch hp)
  led := by
    show _ ∨ (!w.params.followText "set-order") = true
    cases w.params.followText "set-order" <;> simp
  lax := show 0 * 5 < 7 * 3 by decide
  few := show 0 < 64 by decide
theorem SD.stay {h h' : Heap} {a : Addr} {L : List (Addr × PyData)} {es : Array (Int × Value)} {ep : Nat} {tb : SetTable} (R : SD P w h a L es ep tb) (ha : ∀ o, h.get? a = some o → h'.get? a = some o) (hk : ∀ q ∈ L, (NK P w).is h' (nk q.2) q.1) : SD P w h' a L es ep tb :=
  ⟨let ⟨ob, ho, r⟩ := R.at_; ⟨ob, ha ob ho, r⟩, R.row, R.tab, R.one, hk, R.led, R.lax, R.few⟩
theorem loop_keys {I : Addr} {fp wr : List Addr} {G : Array GenState → Array GenState → Prop} {n : Nat} {Pv : Nat → Value → Prop} {St : Nat → Shared → Prop} {R : Result → Shared → Prop}
    (W : WalksS P w A.in1 I fp wr G n Pv St) {S : Addr} (hSf : S ∉ fp) {ks : List (Addr × PyData)} (hn : n = ks.length) (few : ks.length < 64) (hval : ∀ i v, Pv i v → ∃ p, ks[i]? = some p ∧ v = .ref p.1)
    {h0 : Heap} (hk : ∀ p ∈ ks, (NK P w).is h0 (nk p.2) p.1) (hS0 : h0.get? S = none) (hw0 : ∀ b ∈ wr, h0.get? b = none) (hu : (NK P w).room A.in1) :
    ∀ (m i : Nat) (s : Shared), i + m = n → St i s → (∀ b o, h0.get? b = some o → s.heap.get? b = some o) → (∃ L es ep tb, SD P w s.heap S L es ep tb ∧ Taken ks i L) →
      (∀ s', Moved (S :: wr) G s s' → (∃ L es ep tb, SD P w s'.heap S L es ep tb ∧ Taken ks n L) → R (.ok (.ret .none)) s') →
      codeAny (model P w) A (.builtin "set.update.loop" ⟨[.ref S, .ref I], []⟩) R s := by
  have hSw : S ∉ wr := fun z => hSf (W.sub _ z)
  have up : ∀ b ∈ wr, b ∈ S :: wr := fun b hb => List.mem_cons_of_mem _ hb
  have kept : ∀ {s s' : Shared}, Moved wr G s s' → (∀ b o, h0.get? b = some o → s.heap.get? b = some o) → ∀ b o, h0.get? b = some o → s'.heap.get? b = some o := fun hm k b o e => hm.heap b o (fun hb => by rw [hw0 b hb] at e; cases e) (k b o e)
  have open_ : ∀ s, wpAny (model P w) A.in1 (pyNext (.ref I) >>= fun x => _) (fun r s' => _) _ s → codeAny (model P w) A (.builtin "set.update.loop" ⟨[.ref S, .ref I], []⟩) R s := fun s h => by
    refine codeAny_builtin F.entry_set_update_loop ?_
    rw [Around.under_plainId F.plain_set_update_loop _]
    exact h
  intro m
  induction m with
  | zero =>
    intro i s hi hst k ⟨L, es, ep, tb, hS, g⟩ hR
    obtain rfl : i = n := hi
    refine open_ s (wpAny_bind (W.done s _ _ hst fun s' hm => ?_))
    have k' := kept hm k
    exact wpAny_pure (hR s' (hm.mono up) ⟨L, es, ep, tb, hS.stay (fun o e => hm.heap S o hSw e) fun p hp => key_keep (hk p (List.mem_of_mem_take (g.sub p hp))) k', g⟩)
  | succ m ih =>
    intro i s hi hst k ⟨L, es, ep, tb, hS, g⟩ hR
    refine open_ s (wpAny_bind (W.item i s _ _ (by omega) hst fun v s' hP hst' hm => ?_))
    obtain ⟨p, hp, rfl⟩ := hval i v hP
    have k' := kept hm k
    have hS' : SD P w s'.heap S L es ep tb := hS.stay (fun o e => hm.heap S o hSw e) fun q hq => key_keep (hk q (List.mem_of_mem_take (g.sub q hq))) k'
    have hx : (NK P w).is s'.heap (nk p.2) p.1 := key_keep (hk p (List.mem_of_getElem? hp)) k'
    refine wpAny_bind (m := holding [Value.ref p.1] (setAdd S (.ref p.1))) (wpAny_holding ?_)
    unfold setAdd
    refine wpAny_holding (wpAny_bind ((NK P w).pyHash hu hx ?_))
    refine put_in (s := { s' with toks := s'.toks + (NK P w).draws (nk p.2) }) hS' hx hu (by have := g.len; omega) fun b h' L' es' ep' tb' hsb hS2 c1 c2 => ?_
    refine wpAny_pure ⟨plainId_quiet F.plain_set_update_loop _, ih (i + 1) _ (by omega) (W.frame _ s' _ _ hst' (Nat.le_add_right _ _) fun b hb o e => by rw [hsb.2 b (fun z : b = S => hSf (z ▸ hb))]; exact e) (fun b o e => (hsb.2 b (fun z => by rw [z, hS0] at e; cases e)).trans (k' b o e)) ⟨L', es', ep', tb', hS2, g.step hp c1 c2⟩ fun s'' hm'' h'' => ?_⟩
    exact hR s'' (Moved.trans W.gtrans ((hm.mono up).then_heap (Nat.le_add_right _ _) fun b o hb e => by rw [hsb.2 b (fun z : b = S => hb (z ▸ List.mem_cons_self ..))]; exact e) hm'') h''

set_option maxRecDepth 100000 in
/-- set(xs) of a list -/
theorem set_made_list {l : Addr} {items : Array Value} {Post : Heap → Prop} {Q : Value → Shared → Prop} (hh : A.handled = none) (hl : s.heap.IsList l items)
    (loop : ∀ {I : Addr} {fp wr : List Addr} {G : Array GenState → Array GenState → Prop} {Pv : Nat → Value → Prop} {St : Nat → Shared → Prop} {R : Result → Shared → Prop}, WalksS P w A.in1.in1.in1 I fp wr G items.size Pv St → s.heap.objs.size ∉ fp → (∀ b ∈ wr, s.heap.get? b = none) → (∀ i v, Pv i v → items[i]? = some v) →
      ∀ s1 : Shared, St 0 s1 → s1.heap.get? s.heap.objs.size = some (set0 w) → (∀ b o, s.heap.get? b = some o → s1.heap.get? b = some o) → (∀ s', Moved (s.heap.objs.size :: wr) G s1 s' → Post s'.heap → R (.ok (.ret .none)) s') → codeAny (model P w) A.in1.in1 (.builtin "set.update.loop" ⟨[.ref s.heap.objs.size, .ref I], []⟩) R s1)
    (h : ∀ (h' : Heap) (tk : Nat), Post h' → (∀ b o, s.heap.get? b = some o → h'.get? b = some o) → Q (.ref s.heap.objs.size) { s with heap := h', toks := tk }) : wpAny (model P w) A (call (.type "set") [.ref l]) Q E s := by
  obtain ⟨_, _, hmro⟩ := F.called_set.mro
  have f1 := F.called_set.made; have f2 := F.called_set.sub; have f3 := F.called_set.notType; have f4 := F.called_set.canCreate; have f5 := F.typeCall_set_1 (.ref l)
  refine wpAny_call (codeAny_of_tree ?_)
  show wpAny (model P w) _ (callAny (.type "set") _) _ _ s
  refine wpAny_pure ⟨Code.quiet_builtin _ (by decide +kernel), codeAny_builtin F.entry_type_call ?_⟩
  rw [Around.under_plain (weight_type_call_type "set" [.ref l] []) rfl]
  repeat (any_goals (first | assumption | wp_step))
  refine codeAny_mono (code_set_led1 (.ref l) (E := E) (Q₁ := fun ob s1 => ob = .ref s.heap.objs.size ∧ s1 = { s with heap := s.heap.push (set0 w) }) ⟨rfl, rfl⟩) fun r s1 hr => ?_
  rcases r with e | (_ | ob | _ | _)
  case error => exact hr
  case ok.ret =>
    obtain ⟨rfl, rfl⟩ := hr
    have hS : (s.heap.push (set0 w)).get? s.heap.objs.size = some (set0 w) := Heap.get?_push_size _ rfl
    have hT : Shared.TypeIs { s with heap := s.heap.push (set0 w) } (.ref s.heap.objs.size) "set" := ⟨_, hS, rfl⟩
    have f6 := F.called_set.init.lookup; have f7 := F.called_set.init.bind (.ref s.heap.objs.size)
    repeat (any_goals (first | assumption | wp_step))
    refine codeAny_mono (codeAny_call_builtin (R := wants (fun r s2 => r = .none ∧ ∃ h' tk, s2 = { s with heap := h', toks := tk } ∧ Post h' ∧ (∀ b o, s.heap.get? b = some o → h'.get? b = some o)) E) F.called_set.init.plain F.entry_set_init (check_set_init_1 hT ?_)) fun r2 s2 hr2 => ?_
    · obtain ⟨⟨ocls, odict, odata, oslots⟩, hol, hcl, nl, hdl⟩ := hl
      simp only at hcl hdl
      subst hcl hdl
      have hol' : (s.heap.push (set0 w)).get? l = some { cls := .type "list", dict := odict, data := .seq items nl, slots := oslots } := Heap.get?_push_of_some _ hol
      have g1 := F.sub_list_set; have g2 := F.sub_list_frozenset
      have g3 : (Value.type "list" == Value.type "dict") = false := by decide
      have hl1 : (s.heap.push (set0 w)).IsList l items := ⟨_, hol', rfl, nl, rfl⟩
      unfold Builtin.«set.__init__» noKeywords Builtin.Frozenset.updateFrom
      generalize hPI : pyIter = PI
      wp_walk
      subst hPI
      refine wpAny_pyIter_list hl1 (wpAny_bind (wpAny_runValue ?_))
      have lt : l < s.heap.objs.size := Heap.lt_size hol
      have hz : (s.heap.push (set0 w)).objs.size = s.heap.objs.size + 1 := Heap.size_push ..
      have out : ∀ b, s.heap.objs.size ≤ b → s.heap.get? b = none := fun b hb => by
        cases q : s.heap.get? b with
        | none => rfl
        | some o => exact absurd (Heap.lt_size q) (Nat.not_lt.mpr hb)
      refine loop ((Walks.list (A := A.in1.in1.in1) (by simp [hh]) _ l (by rw [hz]; exact Nat.ne_of_lt (Nat.lt_succ_of_lt lt)) items).toS) (by
          rw [hz]
          simp only [List.mem_cons, List.not_mem_nil, or_false, not_or]
          exact ⟨Nat.ne_of_lt (Nat.lt_succ_self _), Nat.ne_of_gt lt⟩) (fun b hb => out b (by rw [List.mem_singleton.mp hb, hz]; exact Nat.le_succ _)) (fun _ _ e => e) _ ⟨⟨_, Heap.get?_push_size _ rfl, rfl, rfl⟩, (hl1.push _)⟩ (Heap.get?_push_of_some _ hS) (fun b o e => Heap.get?_push_of_some _ (Heap.get?_push_of_some _ e)) fun s' hm hp => ?_
      obtain ⟨h', g', d', tk', os'⟩ := s'
      obtain rfl : g' = s.gens := hm.gens
      obtain rfl : d' = s.drawn := hm.drawn
      obtain rfl : os' = s.os := hm.os
      refine wpAny_pure ?_
      refine wpAny_pure ⟨rfl, h', tk', rfl, hp, fun b o e => ?_⟩
      have hb : b < s.heap.objs.size := Heap.lt_size e
      refine hm.heap b o ?_ (Heap.get?_push_of_some _ (Heap.get?_push_of_some _ e))
      simp only [List.mem_cons, List.not_mem_nil, or_false, not_or]
      rw [hz]
      exact ⟨Nat.ne_of_lt hb, Nat.ne_of_lt (Nat.lt_succ_of_lt hb)⟩
    · rcases r2 with e | (_ | r | _ | _)
      case error => exact hr2
      case ok.ret =>
        obtain ⟨rfl, h', tk, rfl, hp, hk⟩ := hr2
        repeat (any_goals (first | assumption | wp_step))
        exact h _ _ hp hk
      all_goals exact hr2.elim
  all_goals exact hr.elim

set_option maxRecDepth 100000 in
/-- set(xs) of a tuple -/
theorem set_made_tuple {l : Addr} {items : Array Value} {Post : Heap → Prop} {Q : Value → Shared → Prop} (hh : A.handled = none) (hl : s.heap.IsTuple l items)
    (loop : ∀ {I : Addr} {fp wr : List Addr} {G : Array GenState → Array GenState → Prop} {Pv : Nat → Value → Prop} {St : Nat → Shared → Prop} {R : Result → Shared → Prop}, WalksS P w A.in1.in1.in1 I fp wr G items.size Pv St → s.heap.objs.size ∉ fp → (∀ b ∈ wr, s.heap.get? b = none) → (∀ i v, Pv i v → items[i]? = some v) →
      ∀ s1 : Shared, St 0 s1 → s1.heap.get? s.heap.objs.size = some (set0 w) → (∀ b o, s.heap.get? b = some o → s1.heap.get? b = some o) → (∀ s', Moved (s.heap.objs.size :: wr) G s1 s' → Post s'.heap → R (.ok (.ret .none)) s') → codeAny (model P w) A.in1.in1 (.builtin "set.update.loop" ⟨[.ref s.heap.objs.size, .ref I], []⟩) R s1)
    (h : ∀ (h' : Heap) (tk : Nat), Post h' → (∀ b o, s.heap.get? b = some o → h'.get? b = some o) → Q (.ref s.heap.objs.size) { s with heap := h', toks := tk }) : wpAny (model P w) A (call (.type "set") [.ref l]) Q E s := by
  obtain ⟨_, _, hmro⟩ := F.called_set.mro
  have f1 := F.called_set.made; have f2 := F.called_set.sub; have f3 := F.called_set.notType; have f4 := F.called_set.canCreate; have f5 := F.typeCall_set_1 (.ref l)
  refine wpAny_call (codeAny_of_tree ?_)
  show wpAny (model P w) _ (callAny (.type "set") _) _ _ s
  refine wpAny_pure ⟨Code.quiet_builtin _ (by decide +kernel), codeAny_builtin F.entry_type_call ?_⟩
  rw [Around.under_plain (weight_type_call_type "set" [.ref l] []) rfl]
  repeat (any_goals (first | assumption | wp_step))
  refine codeAny_mono (code_set_led1 (.ref l) (E := E) (Q₁ := fun ob s1 => ob = .ref s.heap.objs.size ∧ s1 = { s with heap := s.heap.push (set0 w) }) ⟨rfl, rfl⟩) fun r s1 hr => ?_
  rcases r with e | (_ | ob | _ | _)
  case error => exact hr
  case ok.ret =>
    obtain ⟨rfl, rfl⟩ := hr
    have hS : (s.heap.push (set0 w)).get? s.heap.objs.size = some (set0 w) := Heap.get?_push_size _ rfl
    have hT : Shared.TypeIs { s with heap := s.heap.push (set0 w) } (.ref s.heap.objs.size) "set" := ⟨_, hS, rfl⟩
    have f6 := F.called_set.init.lookup; have f7 := F.called_set.init.bind (.ref s.heap.objs.size)
    repeat (any_goals (first | assumption | wp_step))
    refine codeAny_mono (codeAny_call_builtin (R := wants (fun r s2 => r = .none ∧ ∃ h' tk, s2 = { s with heap := h', toks := tk } ∧ Post h' ∧ (∀ b o, s.heap.get? b = some o → h'.get? b = some o)) E) F.called_set.init.plain F.entry_set_init (check_set_init_1 hT ?_)) fun r2 s2 hr2 => ?_
    · obtain ⟨⟨ocls, odict, odata, oslots⟩, hol, hcl, nl, hdl⟩ := hl
      simp only at hcl hdl
      subst hcl hdl
      have hol' : (s.heap.push (set0 w)).get? l = some { cls := .type "tuple", dict := odict, data := .seq items nl, slots := oslots } := Heap.get?_push_of_some _ hol
      have g1 := F.sub_tuple_set; have g2 := F.sub_tuple_frozenset
      have g3 : (Value.type "tuple" == Value.type "dict") = false := by decide
      have hl1 : (s.heap.push (set0 w)).IsTuple l items := ⟨_, hol', rfl, nl, rfl⟩
      unfold Builtin.«set.__init__» noKeywords Builtin.Frozenset.updateFrom
      generalize hPI : pyIter = PI
      wp_walk
      subst hPI
      refine wpAny_pyIter_tuple hl1 (wpAny_bind (wpAny_runValue ?_))
      have lt : l < s.heap.objs.size := Heap.lt_size hol
      have hz : (s.heap.push (set0 w)).objs.size = s.heap.objs.size + 1 := Heap.size_push ..
      have out : ∀ b, s.heap.objs.size ≤ b → s.heap.get? b = none := fun b hb => by
        cases q : s.heap.get? b with
        | none => rfl
        | some o => exact absurd (Heap.lt_size q) (Nat.not_lt.mpr hb)
      refine loop ((Walks.tuple (A := A.in1.in1.in1) (by simp [hh]) _ l (by rw [hz]; exact Nat.ne_of_lt (Nat.lt_succ_of_lt lt)) items).toS) (by
          rw [hz]
          simp only [List.mem_cons, List.not_mem_nil, or_false, not_or]
          exact ⟨Nat.ne_of_lt (Nat.lt_succ_self _), Nat.ne_of_gt lt⟩) (fun b hb => out b (by rw [List.mem_singleton.mp hb, hz]; exact Nat.le_succ _)) (fun _ _ e => e) _ ⟨⟨_, Heap.get?_push_size _ rfl, rfl, rfl⟩, (hl1.push _)⟩ (Heap.get?_push_of_some _ hS) (fun b o e => Heap.get?_push_of_some _ (Heap.get?_push_of_some _ e)) fun s' hm hp => ?_
      obtain ⟨h', g', d', tk', os'⟩ := s'
      obtain rfl : g' = s.gens := hm.gens
      obtain rfl : d' = s.drawn := hm.drawn
      obtain rfl : os' = s.os := hm.os
      refine wpAny_pure ?_
      refine wpAny_pure ⟨rfl, h', tk', rfl, hp, fun b o e => ?_⟩
      have hb : b < s.heap.objs.size := Heap.lt_size e
      refine hm.heap b o ?_ (Heap.get?_push_of_some _ (Heap.get?_push_of_some _ e))
      simp only [List.mem_cons, List.not_mem_nil, or_false, not_or]
      rw [hz]
      exact ⟨Nat.ne_of_lt hb, Nat.ne_of_lt (Nat.lt_succ_of_lt hb)⟩
    · rcases r2 with e | (_ | r | _ | _)
      case error => exact hr2
      case ok.ret =>
        obtain ⟨rfl, h', tk, rfl, hp, hk⟩ := hr2
        repeat (any_goals (first | assumption | wp_step))
        exact h _ _ hp hk
      all_goals exact hr2.elim
  all_goals exact hr.elim
end
end JQ

-- part Pk5
set_option Elab.async false
set_option linter.all false
set_option maxRecDepth 100000
set_option maxHeartbeats 4000000
/-! set(xs), sorted(set): ints, data. -/
namespace JQ
open PySem PySem.Spec PyProof.Rows L2
def rSetI (K : PySem.W.Frag) (w : World) : List V → Hp → VK → Prop := fun xs H Q => ∃ (l : Addr) (ns : List Int), xs = [V.ref l] ∧ SqL K H l (ns.map V.int) ∧ ns.length < 63 ∧ ∀ p n, H p = none → n ≤ ns.length → Q (.ref p) (upd H p (SetO w p (fun j => decide (j ∈ ns)) n))
def rSetX (c : Cf) : List V → Hp → VK → Prop := fun xs H Q => ∃ (l : Addr) (ks : List (Addr × PyData)), xs = [V.ref l] ∧ (SqL c.K H l (ks.map fun p => V.ref p.1) ∨ SqT c.K H l (ks.map fun p => V.ref p.1)) ∧ (∀ p ∈ ks, Dp c.K H (.ref p.1) p.2 ∧ keyOk p.2 = true) ∧ ks.length < 63 ∧
  ∀ a L, H a = none → (∀ p ∈ L, p ∈ ks) → (∀ p ∈ ks, nk p.2 ∈ L.map fun q => nk q.2) → (L.map fun q => nk q.2).Nodup → L.length ≤ ks.length → Q (.ref a) (upd H a (c.setO a L))
def rSortX (c : Cf) : List V → Hp → VK → Prop := fun xs H Q => ∃ (a : Addr) (L : List (Addr × PyData)), xs = [V.ref a] ∧ H a = some (c.setO a L) ∧ (∀ p ∈ L, Dp c.K H (.ref p.1) p.2) ∧ PySem.W.AllAlike (L.map (·.2)) ∧ PySem.W.Sortable (L.map (·.2)) ∧ (∀ q ∈ L, q.2.depth ≤ 60) ∧
  ∀ p out (L' : List (Addr × PyData)), H p = none → L'.Perm L → Paired (fun v d => ∃ q ∈ L, v = V.ref q.1 ∧ d = q.2) out ((L'.map (·.2)).mergeSort (PySem.W.dataLe false id)) → Q (.ref p) (upd H p (.lst out))
section
variable {X : Cx}
theorem cr_setI (hc : X.calm = true) : CallR X (.type "set") (rSetI X.K X.w) := by
  intro pins s σ H xs us Q I r h
  obtain ⟨l, ns, rfl, hl, hf, q⟩ := h
  rw [Vals.ref1 r]
  obtain ⟨its, rv, pl, hz⟩ := I.list hl
  have hi : IntsAre its ns := by simpa using rv.ints
  have hsz : its.toArray.size = ns.length := by rw [List.size_toArray, ← rv.length, List.length_map]
  refine set_made_list (P := X.prog) (w := X.w) (Post := fun h' => ∃ c, c ≤ ns.length ∧ SetR X.w h' s.heap.objs.size (fun j => decide (j ∈ ns)) c) (I.ok.hd hc) pl.isList (fun W hSf hw hv s1 hst hnew _ hR => ?_) fun h' tk ⟨c, hc, R⟩ k => ?_
  · refine set_update_ints W s.heap.objs.size hSf ns hsz (by unfold scanBound; omega) (fun i v e => ?_) its.toArray.size 0 s1 (by omega) (Nat.zero_le _) hst ⟨0, Nat.le_refl 0, setR_new_at hnew⟩ fun s' c hm hc' hS' => hR s' hm ⟨c, by omega, hS'⟩
    have e := hv i v e
    have hil : i < ns.length := by rw [← hsz]; exact (Array.getElem?_eq_some_iff.mp e).1
    obtain ⟨t, e2⟩ := PyProof.Rows.IntsAre.int_at hi i v (by simpa using e)
    refine ⟨ns[i], t, List.getElem?_eq_getElem hil, ?_⟩
    rw [e2, List.getD_eq_getElem?_getD, List.getElem?_eq_getElem hil]; rfl
  · exact ⟨.ref s.heap.objs.size, upd H s.heap.objs.size (SetO X.w s.heap.objs.size (fun j => decide (j ∈ ns)) c), I.laid (t' := tk) k (Nat.le_refl _) (setO_new R), rfl, q _ c (I.hok.fresh (Nat.le_refl _)) hc⟩
theorem vals_refs : ∀ {ks : List (Addr × PyData)} {us : List Value}, Vals (ks.map fun p => V.ref p.1) us → us = ks.map fun p => Value.ref p.1
  | [], _, .nil => rfl
  | p :: ks, _, .cons r t => by cases r; rw [vals_refs t]; rfl
theorem setOX_ok {P : Program} {w : World} {H : Hp} {h : Heap} {a : Addr} {L : List (Addr × PyData)} {es : Array (Int × Value)} {ep : Nat} {tb : SetTable} (R : SD P w h a L es ep tb) : ObjOk P w H h a (setOX P w a L) := by
  have R0 : SetD0 P w a L h := ⟨⟨es, ep, tb, R.at_, R.row, R.tab, R.led, R.lax⟩, R.one, R.few⟩
  obtain ⟨ob, ho, _⟩ := R.at_
  refine ⟨R0, ⟨ob, ho⟩, fun h1 h2 p k => ?_⟩
  obtain ⟨⟨es', ep', tb', ⟨ob', ho', r'⟩, q'⟩, one, few⟩ := p
  exact ⟨⟨es', ep', tb', ⟨ob', k ob' ho', r'⟩, q'⟩, one, few⟩
theorem cr_setX (hc : X.calm = true) (hu : X.A.units + 64 < cLine) : CallR X (.type "set") (rSetX (cf X.prog X.w X.K)) := by
  intro pins s σ H xs us Q I r h
  obtain ⟨l, ks, rfl, hl, hk, hf, q⟩ := h
  rw [Vals.ref1 r]
  have hkey : ∀ p ∈ ks, (NK X.prog X.w).is s.heap (nk p.2) p.1 := fun p hp => key_is I (hk p hp).1 (hk p hp).2
  have hroom : (NK X.prog X.w).room X.A.in1.in1.in1 := by
    show X.A.units + 1 + 1 + 1 + 8 < cLine
    omega
  have none_ : s.heap.get? s.heap.objs.size = none := by
    cases e : s.heap.get? s.heap.objs.size with
    | none => rfl
    | some o => exact absurd (Heap.lt_size e) (Nat.lt_irrefl _)
  let Post : Heap → Prop := fun h' => ∃ L es ep tb, SD X.prog X.w h' s.heap.objs.size L es ep tb ∧ Taken ks ks.length L
  have loop : ∀ {its : List Value}, Vals (ks.map fun p => V.ref p.1) its → ∀ {I : Addr} {fp wr : List Addr} {G : Array GenState → Array GenState → Prop} {Pv : Nat → Value → Prop} {St : Nat → Shared → Prop} {R : Result → Shared → Prop}, WalksS X.prog X.w X.A.in1.in1.in1 I fp wr G its.toArray.size Pv St → s.heap.objs.size ∉ fp → (∀ b ∈ wr, s.heap.get? b = none) → (∀ i v, Pv i v → its.toArray[i]? = some v) →
      ∀ s1 : Shared, St 0 s1 → s1.heap.get? s.heap.objs.size = some (set0 X.w) → (∀ b o, s.heap.get? b = some o → s1.heap.get? b = some o) → (∀ s', Moved (s.heap.objs.size :: wr) G s1 s' → Post s'.heap → R (.ok (.ret .none)) s') → codeAny (model X.prog X.w) X.A.in1.in1 (.builtin "set.update.loop" ⟨[.ref s.heap.objs.size, .ref I], []⟩) R s1 := fun {its} rv {I fp wr G Pv St R} W hSf hw hv s1 hst hnew hkp hR => by
    have e := vals_refs rv
    have hsz : its.toArray.size = ks.length := by rw [List.size_toArray, e, List.length_map]
    refine loop_keys W hSf hsz (by omega) (fun i v hp => ?_) hkey none_ hw hroom its.toArray.size 0 s1 (by omega) hst hkp ⟨[], _, _, _, sd_new hnew, fun p h => (nomatch h), fun p h => by simp at h, Nat.le_refl _⟩ fun s' hm ⟨L, es, ep, tb, h1, h2⟩ => hR s' hm ⟨L, es, ep, tb, h1, by rw [← hsz]; exact h2⟩
    have h1 := hv i v hp
    rw [List.getElem?_toArray, e, List.getElem?_map] at h1
    cases h2 : ks[i]? with
    | none => rw [h2] at h1; cases h1
    | some p => rw [h2] at h1; exact ⟨p, rfl, (Option.some.inj h1).symm⟩
  have fin : ∀ (h' : Heap) (tk : Nat), Post h' → (∀ b o, s.heap.get? b = some o → h'.get? b = some o) → EP X pins σ Q (.ref s.heap.objs.size) { s with heap := h', toks := tk } := fun h' tk ⟨L, es, ep, tb, R, g⟩ k =>
    ⟨.ref s.heap.objs.size, upd H s.heap.objs.size (setOX X.prog X.w s.heap.objs.size L), I.laid (t' := tk) k (Nat.le_refl _) (setOX_ok R), rfl, q _ L (I.hok.fresh (Nat.le_refl _)) (fun p hp => List.mem_of_mem_take (g.sub p hp)) (fun p hp => g.all p (by rw [List.take_length]; exact hp)) R.one g.len⟩
  rcases hl with hl | hl
  · obtain ⟨its, rv, pl, hz⟩ := I.list hl
    exact set_made_list (Post := Post) (I.ok.hd hc) pl.isList (loop rv) fin
  · obtain ⟨its, rv, pl, hz⟩ := I.tuple hl
    exact set_made_tuple (Post := Post) (I.ok.hd hc) pl (loop rv) fin
theorem perm_back {α β : Type} {f : α → β} {l m : List β} (h : l.Perm m) : ∀ {L : List α}, m = L.map f → ∃ L' : List α, l = L'.map f ∧ L'.Perm L := by
  induction h with
  | nil => intro L e; exact ⟨[], rfl, by rw [List.map_eq_nil_iff.mp e.symm]⟩
  | cons x _ ih =>
    intro L e
    cases L with
    | nil => cases e
    | cons y L =>
      rw [List.map_cons] at e
      obtain ⟨e1, e2⟩ := List.cons.inj e
      obtain ⟨L', e3, p⟩ := ih e2
      exact ⟨y :: L', by rw [e1, e3]; rfl, p.cons y⟩
  | swap x y l =>
    intro L e
    match L, e with
    | a :: b :: L, e =>
      simp only [List.map_cons, List.cons.injEq] at e
      exact ⟨b :: a :: L, by rw [e.1, e.2.1, e.2.2]; rfl, List.Perm.swap a b L⟩
  | trans _ _ ih1 ih2 =>
    intro L e
    obtain ⟨L1, e1, p1⟩ := ih2 e
    obtain ⟨L2, e2, p2⟩ := ih1 e1
    exact ⟨L2, e2, p2.trans p1⟩
theorem cr_sortX (hc : X.calm = true) (hu : X.A.units + 64 < cLine) : CallR X (.builtin "sorted") (rSortX (cf X.prog X.w X.K)) := by
  intro pins s σ H vs us Q I r h
  obtain ⟨a, L, rfl, ha, hk, hal, hso, hdp, q⟩ := h
  rw [Vals.ref1 r]
  obtain ⟨⟨es, ep, tb, ⟨ob, ho, hex, hd⟩, hrow, htab, hled, hlax⟩, hone, hfew⟩ : SetD0 X.prog X.w a L s.heap := (I.hok a _ ha).1
  have hz := rows_len hrow
  have hps : tb.place.size = L.length := by have := htab.sz; rwa [List.length_map] at this
  let D : List PyData → Prop := fun ds => ∃ L' : List (Addr × PyData), L'.Perm L ∧ ds = L'.map (·.2)
  have sub : ∀ {L' : List (Addr × PyData)}, L'.Perm L → ∀ d ∈ L'.map (·.2), d ∈ L.map (·.2) := fun p d hd => by
    obtain ⟨x, hx, e⟩ := List.mem_map.mp hd
    exact List.mem_map.mpr ⟨x, p.mem_iff.mp hx, e⟩
  refine sorted_coll (D := D) (R := fun v d => ∃ q ∈ L, v = V.ref q.1 ∧ d = q.2) (fun T hT => ?_) (fun ds ⟨L', p, e⟩ => ?_) (fun ds ⟨L', p, e⟩ => .inl ?_) (fun ds ⟨L', p, e⟩ d hd => ?_) hu fun ds ⟨L', p, e⟩ b out n po => q b out L' n p (e ▸ po)
  · refine collect_set (A := X.A.in1) (I.ok.hd hc) ⟨ob, ho, hex.1, hd⟩ (by rw [hz]; exact fits_of hps htab.dm (by omega)) (by unfold scanBound; omega) htab.ris hled fun s1 acc k1 z1 g1 o1 pm => ?_
    have er : es.toList.map (·.2) = L.map fun q => Value.ref q.1 := by
      rw [hrow]; unfold nrows; rw [List.map_map]; rfl
    rw [er] at pm
    obtain ⟨L', e, p⟩ := perm_back pm rfl
    have J : Inv X pins σ H { s with heap := s1.heap, gens := s1.gens, drawn := s1.drawn, toks := s1.toks } :=
      I.call (ch := []) (Un.kept k1) (I.hok.kept k1) (by rw [g1]; exact I.bare) (fun _ z => nomatch z)
    have es1 : s1 = { s with heap := s1.heap, gens := s1.gens, drawn := s1.drawn, toks := s1.toks } := by
      cases s1; cases s; cases o1; rfl
    rw [es1]
    rw [e]
    refine hT _ _ (L'.map (·.2)) ⟨L', p, rfl⟩ J (refs_read J fun q hq => hk q (p.mem_iff.mp hq)) (refs_mem fun q hq => p.mem_iff.mp hq) ?_
    rw [List.length_map, p.length_eq, sizeLine_eq]; omega
  · subst e
    exact fun d hd d' hd' => hal d (sub p d hd) d' (sub p d' hd')
  · subst e
    rcases hso with hso | hso
    · exact .inl fun d hd => hso d (sub p d hd)
    · exact .inr fun d hd => hso d (sub p d hd)
  · subst e
    obtain ⟨x, hx, rfl⟩ := List.mem_map.mp hd
    exact hdp x (p.mem_iff.mp hx)
end
end JQ

-- part Pk6
set_option Elab.async false
set_option linter.all false
set_option maxRecDepth 100000
set_option maxHeartbeats 4000000
/-! A tuple of texts made from a list, its object known: so that t.index may be asked of it. -/
namespace JQ
open PySem PySem.Spec PyProof.Rows L2
/-- tuple(xs), xs a list of texts -/
def rTupN (K : PySem.W.Frag) : List V → Hp → VK → Prop := fun vs H Q => ∃ p, ∃ ys : List Str, vs = [.ref p] ∧ SqL K H p (ys.map V.str) ∧ ∀ l o, H l = none → o.dict = none → Q (.ref l) (upd H l (.frz o (.tup (ys.map V.str))))
theorem cr_tupN {X : Cx} : CallR X (.type "tuple") (rTupN X.K) := by
  intro pins s σ H vs us Q I r h
  obtain ⟨p, ys, rfl, hq, q⟩ := h
  rw [Vals.ref1 r]
  obtain ⟨items, rv, pl, hz⟩ := I.list hq
  have hn := rv.length
  refine call_tuple_list pl.isList (fun h2 kp => ?_) (by simp only [List.size_toArray]; omega)
  have J : Inv X pins σ H { s with heap := h2 } := I.kept (t' := s.toks) kp
  let ob : Obj := { cls := .type "tuple", data := .seq items.toArray }
  have J2 : Inv X pins σ (upd H h2.objs.size (.frz ob (.tup (ys.map V.str)))) { s with heap := h2.push ob } :=
    J.laid (t' := s.toks) (fun b o e => Heap.get?_push_of_some _ e) (Nat.le_refl _) (show ObjOk X.prog X.w _ _ _ (.frz ob (.tup (ys.map V.str))) from ⟨Heap.get?_push_size _ rfl, hz, items, rv, IsTup.new _ _⟩)
  exact ⟨.ref h2.objs.size, _, J2, rfl, q _ ob (J.hok.fresh (Nat.le_refl _)) rfl⟩
/-- t.index(x) -/
def tIdx (to tx : TE) : TE := fun σ H Q => to σ H fun x H1 => (∃ p ys, x = .ref p ∧ TN H1 p ys) ∧ tx σ H1 fun z H2 => ∃ p ys, ∃ y : Str, ∃ j, x = .ref p ∧ z = .str y ∧ TN H2 p ys ∧ ys[j]? = some y ∧ (∀ m, m < j → ys[m]? ≠ some y) ∧ Q (.int (j : Nat)) H2
section
variable {X : Cx} {o e : Expr} {to tx : TE} {apos cpos : Pos}
theorem pe_idx (ho : PE X o to) (he : PE X e tx)
    (hbase : attributeBase o "index" X.env (eval o X.env) = eval o X.env := by rfl)
    (hfew : ((backTo cpos (starEach [e] X.env)).all (fun x => !x.1) && (backToKw cpos (keywordEach [] X.env)).all (fun x => x.1.isSome)
      && decide ([e].length + ([] : List Keyword).length + (if ([] : List Keyword).isEmpty then 0 else 1) < 30)) = true := by rfl)
    (hline : (apos.endLine == cpos.line) = true := by rfl) (hs : starEach [e] X.env = (false, eval e X.env) :: starEach [] X.env := by rfl) (hplain : (backTo cpos (starEach [] X.env)).any (·.1) = false := by rfl) :
    PE X (.Call (.Attribute o "index" apos) [e] [] cpos) (tIdx to tx) := by
  refine ⟨fun pins s σ H Q I h => ?_⟩
  refine wpAny_Call_method_late hbase hfew hline rfl (thn (ho.run pins s σ H _ I h) fun v s1 ⟨x, H1, I1, r1, ty, q1⟩ => ?_)
  obtain ⟨p, ys, rfl, ob, hp, hd⟩ := ty
  cases r1
  have hob := I1.hok p _ hp
  obtain ⟨ho1, hz, its, rv, hT⟩ := hob
  refine ⟨"tuple", "tuple.index", PySem.F.plainAttrs_tuple, PySem.F.slot_tuple_index, PySem.F.type_tuple_index, ?_, fun a ea => ?_, ?_⟩
  · obtain ⟨o', g1, g2, _⟩ := hT
    exact ⟨o', g1, g2⟩
  · cases ea
    exact ⟨ob, ho1, hd⟩
  let R : List V → Hp → Prop := fun vs H2 => match vs with
    | [z] => ∃ p' ys', ∃ y : Str, ∃ j, V.ref p = .ref p' ∧ z = .str y ∧ TN H2 p' ys' ∧ ys'[j]? = some y ∧ (∀ m, m < j → ys'[m]? ≠ some y) ∧ Q (.int (j : Nat)) H2
    | _ => False
  have hA := (pa_cons he pa_nil hs).run cpos pins s1 σ H1 R I1 q1
  rw [hs] at hA ⊢
  refine Calls.callWith_builtin (by show (false || (backTo cpos (starEach [] X.env)).any (·.1)) = false; rw [hplain] <;> rfl) (Calls.evalArgs_plain ?_)
  exact thn hA fun us s2 ⟨vs, H2, I2, r2, q2⟩ => by
    match vs, q2 with
    | [z], ⟨p', ys', y, j, e1, e2, tn, e3, e4, q2⟩ =>
      subst e2
      cases e1
      exact mt_tup_index pins s2 σ H2 (.ref p) [.str y] (.ref p) us Q I2 rfl r2 ⟨p, ys', y, j, rfl, rfl, tn.sq, e3, e4, q2⟩
end
end JQ

-- part Pe
set_option Elab.async false
set_option linter.all false
set_option maxRecDepth 100000
set_option maxHeartbeats 2000000
/-! Dicts, sets, objects over the plain layer. -/
namespace JQ
open PySem PySem.Spec PyProof.Rows L2
theorem rva_tN {c : Cf} {H : Hp} {v : V} {xs : List Str} (h : Rv c H v (.tN xs)) : Rv c H v (.p (.tuple (xs.map .str))) := by
  cases h with
  | tN h =>
    refine .p (.tup h.sq ?_)
    clear h
    induction xs with
    | nil => exact .nil
    | cons x xs ih => exact .cons (.str x) ih
/-- one-by-one -/
inductive Cv (c : Cf) (H : Hp) : List DV → List PyData → Prop
  | nil : Cv c H [] []
  | cons {d : DV} {e : PyData} {ds : List DV} {es : List PyData} : (∀ v, Rv c H v d → Rv c H v (.p e)) → Cv c H ds es → Cv c H (d :: ds) (e :: es)
theorem cv_all {c : Cf} {H : Hp} : ∀ {vs : List V} {ds : List DV} {es : List PyData}, Cv c H ds es → RvAll c H vs ds → DpAll c.K H vs es
  | _, _, _, .nil, .nil => .nil
  | _, _, _, .cons h r, .cons h1 r1 => .cons (rv_p (h _ h1)) (cv_all r r1)
theorem rv_tp {c : Cf} {H : Hp} {v : V} {ds : List DV} {es : List PyData} (h : Rv c H v (.tp ds)) (cv : Cv c H ds es) : Rv c H v (.p (.tuple es)) := by
  cases h with
  | tp h r => exact .p (.tup h (cv_all cv r))
theorem cv_map {α : Type} {c : Cf} {H : Hp} {f : α → DV} {g : α → PyData} : ∀ (l : List α), (∀ x ∈ l, ∀ v, Rv c H v (f x) → Rv c H v (.p (g x))) → Cv c H (l.map f) (l.map g)
  | [], _ => .nil
  | x :: l, h => .cons (h x (List.mem_cons_self ..)) (cv_map l fun y hy => h y (List.mem_cons_of_mem _ hy))
section
variable {c : Cf} {G : Gx} {te ta tb tl td ty tx : TE} {ρ : Rho} {P P1 P2 : DV → Prop}
theorem Ev.conv {D D' : DV} (h : Ev c G te ρ (· = D)) (i : ∀ H v, Rv c H v D → Rv c H v D') : Ev c G te ρ (· = D') := fun m0 M H σ E Q q => h m0 M H σ E Q fun v H' d f j r hp => by
  subst hp
  exact q v H' D' f j (i _ _ r) rfl
theorem ed_neg {i : Int} (h : Es c G te ρ (.int i)) : Ed c G (tUn (rU fun i => .int (-i)) te) ρ (.int (-i)) := fun m0 M H σ E Q q => h m0 M H σ E _ fun v H' d f j r e => by
  subst e
  exact ⟨i, r.int, q _ H' _ f j (.p (.int _)) rfl⟩
theorem ed_isB {b : Bool} (h : Ed c G te ρ (.bool b)) : Ed c G (tCB (rIsi c.K) (tCons te (tCons (tC (.ty "bool")) tNil))) ρ (.bool true) := fun m0 M H σ E Q q => h m0 M H σ E _ fun v H' d f j r e => by
  subst e
  have r := rv_p r
  cases r
  exact ⟨_, _, _, _, true, rfl, .ty "bool", .base (.bl b), by unfold PySem.W.kitOne; rfl, q _ H' _ f j (.p (.bl true)) rfl⟩
theorem ed_chain {r r' : R2} {x y z : DV} {p q : Bool} (ha : EvS c G ta ρ (· = x)) (hb : EvS c G tb ρ (· = y)) (h1 : OpD c G r x y (· = .p (.bool p))) (hc : p = true → EvS c G tx ρ (· = z)) (h2 : p = true → OpD c G r' y z (· = .p (.bool q))) :
    Ed c G (tChain r r' ta tb tx) ρ (.bool (p && q)) := fun m0 M H σ E Q qq =>
  ha m0 M H σ E _ fun v H1 d1 f1 j1 r1 e1 => hb m0 M H1 σ (E.fx f1 j1) _ fun u H2 d2 f2 j2 r2 e2 => by
    subst e1 e2
    have k1 := E.k.fx f1 j1
    have k2 := k1.fx f2 j2
    refine h1 M H2 v u k2 (r1.fx k1 f2) r2 _ fun w H3 d3 f3 j3 r3 e3 => ?_
    subst e3
    have r3 := rv_p r3
    cases r3
    refine ⟨p, rfl, ?_⟩
    have k3 := k2.fx f3 j3
    cases p with
    | false => exact qq _ H3 _ ((f1.trans f2).trans f3) j3 (.p (.bl false)) rfl
    | true =>
      refine hc rfl m0 M H3 σ (((E.fx f1 j1).fx f2 j2).fx f3 j3) _ fun t H4 d4 f4 j4 r4 e4 => ?_
      subst e4
      exact h2 rfl M H4 u t (k3.fx f4 j4) ((r2.fx k2 f3).fx k3 f4) r4 Q fun w H5 d5 f5 j5 r5 e5 => qq w H5 d5 ((((f1.trans f2).trans f3).trans f4).trans f5) j5 r5 e5
theorem en_listOf {ds : List PyData} (h : Es c G te ρ (.list ds)) : En c G (tCB (rListOf c.K) (tCons te tNil)) ρ (.list ds) := fun m0 M H σ E Q q => h m0 M H σ E _ fun v H' d f j r e => by
  subst e
  obtain ⟨a, vs, e, h1, h2⟩ := r.lst
  have k := E.k.fx f j
  exact ⟨a, vs, by rw [e], .inl h1, fun p n => q p _ _ (free_of E.k f n j) (f.trans (Fx.of (same_new n))) (k.jnew n) (ow_newL k n h2) rfl⟩
/-! ### dicts of ints by text -/
def putS (m : List (Str × Int)) (k : Str) (v : Int) : List (Str × Int) := if (m.any fun q => decide (q.1 = k)) = true then m.map (fun q => if q.1 = k then (q.1, v) else q) else m ++ [(k, v)]
def getS (m : List (Str × Int)) (k : Str) : Option Int := (m.find? fun q => decide (q.1 = k)).map (·.2)
theorem val_kvD (m : List (Str × Int)) (k : Str) : valV (kvD m) (Sum.inr k : Key) = (getS m k).map V.int := by
  unfold valV kvD getS
  induction m with
  | nil => rfl
  | cons q m ih =>
    rw [List.map_cons, List.find?_cons, List.find?_cons]
    by_cases e : q.1 = k
    · simp [e]
    · have e2 : ¬ ((Sum.inr q.1 : Key) = Sum.inr k) := fun z => e (Sum.inr.inj z)
      simp only [e, e2, decide_false]
      exact ih
theorem put_kvD (m : List (Str × Int)) (k : Str) (v : Int) : putK (kvD m) (Sum.inr k : Key) (V.int v) = kvD (putS m k v) := by
  have ea : ((kvD m).any fun kv => decide (kv.1 = (Sum.inr k : Key))) = m.any fun q => decide (q.1 = k) := by
    unfold kvD
    rw [List.any_map]
    refine congrArg (List.any m) (funext fun q => ?_)
    simp
  unfold putK putS
  rw [ea]
  split
  · unfold kvD
    rw [List.map_map, List.map_map]
    refine List.map_congr_left fun q _ => ?_
    by_cases e : q.1 = k <;> simp [e]
  · unfold kvD
    rw [List.map_append]; rfl
theorem getS_put {m : List (Str × Int)} {k j : Str} {v : Int} : getS (putS m k v) j = if j = k then some v else getS m j := by
  unfold putS getS
  split
  · rename_i h
    induction m with
    | nil => cases h
    | cons q m ih =>
      rw [List.map_cons, List.find?_cons, List.find?_cons]
      by_cases e : q.1 = k
      · by_cases ej : j = k
        · simp [e, ej]
        · have : ¬ k = j := fun z => ej z.symm
          simp only [e, if_true, this, decide_false, ej, if_false]
          by_cases h2 : (m.any fun q => decide (q.1 = k)) = true
          · have := ih h2; rw [if_neg ej] at this; exact this
          · -- none of the rest is k
            have e2 : m.map (fun q => if q.1 = k then (q.1, v) else q) = m := by
              have : ∀ q ∈ m, (fun q : Str × Int => if q.1 = k then (q.1, v) else q) q = q := fun q hq => by
                by_cases e3 : q.1 = k
                · exact absurd (List.any_eq_true.mpr ⟨q, hq, by simpa using e3⟩) h2
                · show (if q.1 = k then (q.1, v) else q) = q; rw [if_neg e3]
              exact (List.map_congr_left this).trans (List.map_id m)
            rw [e2]
      · rw [List.any_cons, Bool.or_eq_true, decide_eq_true_eq] at h
        have h2 := h.resolve_left e
        simp only [if_neg e]
        by_cases ej : q.1 = j
        · have : ¬ j = k := fun z => e (ej.trans z)
          simp [ej, this]
        · simp only [ej, decide_false]
          exact ih h2
  · rename_i h
    rw [List.find?_append]
    by_cases ej : j = k
    · rw [if_pos ej]
      have : (m.find? fun q => decide (q.1 = j)) = none := by
        rw [List.find?_eq_none]
        intro q hq
        rw [ej]
        exact fun z => h (List.any_eq_true.mpr ⟨q, hq, z⟩)
      rw [this]; simp [ej]
    · rw [if_neg ej]
      have : ¬ k = j := fun z => ej z.symm
      cases (m.find? fun q => decide (q.1 = j)) <;> simp [this]
theorem evn_dnew : EvN c G tDNewK ρ (· = .dk []) := fun m0 M H σ E Q q p n => q p _ (.dk []) n (Fx.of (same_new n)) (E.k.jnew n) (show Ow c (ins p M) _ p (.dk []) from upd_same) rfl
theorem ed_dget {m : List (Str × Int)} {k : Str} {v : Int} (hd : EvS c G td ρ (· = .dk m)) (hy : Es c G ty ρ (.str k)) (hv : getS m k = some v) : Ed c G (tDGet td ty) ρ (.int v) := fun m0 M H σ E Q q =>
  hd m0 M H σ E _ fun x H1 d1 f1 j1 r1 e1 => hy m0 M H1 σ (E.fx f1 j1) _ fun y H2 d2 f2 j2 r2 e2 => by
    subst e1 e2
    obtain ⟨a, ea, ha⟩ := (r1.fx (E.k.fx f1 j1) f2).dk
    have g := DGet.k (k := Sum.inr k) ha
    rw [val_kvD, hv] at g
    rw [r2.str]
    exact ⟨a, _, ea, g, q _ H2 _ (f1.trans f2) j2 (.p (.int v)) rfl⟩
theorem ed_din {m : List (Str × Int)} {k : Str} (hy : Es c G ty ρ (.str k)) (hd : EvS c G td ρ (· = .dk m)) : Ed c G (tDIn ty td) ρ (.bool (getS m k).isSome) := fun m0 M H σ E Q q =>
  hy m0 M H σ E _ fun x H1 d1 f1 j1 r1 e1 => hd m0 M H1 σ (E.fx f1 j1) _ fun y H2 d2 f2 j2 r2 e2 => by
    subst e1 e2
    obtain ⟨a, ea, ha⟩ := r2.dk
    have g := DGet.k (k := Sum.inr k) ha
    rw [val_kvD] at g
    rw [r1.str]
    exact ⟨a, _, ea, g, by rw [Option.isSome_map]; exact q _ H2 _ (f1.trans f2) j2 (.p (.bl _)) rfl⟩
theorem ed_dget2 {m : List (Str × Int)} {k : Str} {z : Int} (hd : EvS c G td ρ (· = .dk m)) (hy : Es c G ty ρ (.str k)) (hx : Es c G tx ρ (.int z)) : Ed c G (tDGet2 td ty tx) ρ (.int ((getS m k).getD z)) := fun m0 M H σ E Q q =>
  hd m0 M H σ E _ fun x H1 d1 f1 j1 r1 e1 => by
    subst e1
    obtain ⟨a, ea, ha⟩ := r1.dk
    refine ⟨a, ea, .inl ⟨_, .inl ha⟩, hy m0 M H1 σ (E.fx f1 j1) _ fun y H2 d2 f2 j2 r2 e2 => hx m0 M H2 σ ((E.fx f1 j1).fx f2 j2) _ fun u H3 d3 f3 j3 r3 e3 => ?_⟩
    subst e2 e3
    have k1 := E.k.fx f1 j1
    obtain ⟨a', ea', ha'⟩ := ((r1.fx k1 f2).fx (k1.fx f2 j2) f3).dk
    rw [ea] at ea'
    cases ea'
    have g := DGet.k (k := Sum.inr k) ha'
    rw [val_kvD] at g
    rw [r2.str, r3.int]
    refine ⟨_, g, ?_⟩
    have e : ((getS m k).map V.int).getD (V.int z) = V.int ((getS m k).getD z) := by cases getS m k <;> rfl
    rw [e]
    exact q _ H3 _ ((f1.trans f2).trans f3) j3 (.p (.int _)) rfl
theorem run_dput {i : Nat} {m : List (Str × Int)} {k : Str} {v : Int} {Φ : Out → Prop} (h : ρ[i]? = some (.ow (.dk m))) (hv : Ed c G tx ρ (.int v)) (hy : Es c G ty ρ (.str k)) (hl : m.length < sizeLine) (kk : Φ (.nx (ρ.set i (.ow (.dk (putS m k v)))))) :
    Run c G (sDPut (tVar i) ty tx) ρ Φ := fun m0 H0 M H σ D E B L =>
  hv m0 M H σ E _ fun x H1 d1 f1 j1 r1 e1 => by
    subst e1
    have E1 := E.fx f1 j1
    obtain ⟨a, h1, h2, h3, h4⟩ := E1.ow i _ h
    refine ⟨.ref a, h1, hy m0 M H1 σ E1 _ fun y H2 d2 f2 j2 r2 e2 => ?_⟩
    subst e2
    have E2 := E1.fx f2 j2
    obtain ⟨a', q1, q2, q3, q4⟩ := E2.ow i _ h
    have ea : a' = a := by rw [h1] at q1; injection q1 with q1; injection q1 with q1; injection q1 with q1; exact q1.symm
    subst ea
    have q4' : H2 a' = some (.dK (kvD m)) := q4
    have r1 := rv_p r1
    cases r1
    have hp := DPut.k (k := Sum.inr k) (v := V.int v) q4' (by unfold kvD; rw [List.length_map]; exact hl)
    rw [put_kvD] at hp
    rw [r2.str]
    exact ⟨a', _, rfl, hp, L.nx _ _ ⟨M, _, E2.setW (d' := .dk (putS m k v)) h h1 (by rw [q4']; intro _ z; cases z) upd_same, ((B.fxx f1).fxx f2).upd q2 q3, kk⟩⟩
theorem evn_dictOf {m : List (Str × Int)} (h : EvS c G te ρ (· = .dk m)) : EvN c G (tCB rDictOf (tCons te tNil)) ρ (· = .dk m) := fun m0 M H σ E Q q => h m0 M H σ E _ fun v H' d f j r e => by
  subst e
  obtain ⟨a, ea, ha⟩ := r.dk
  exact ⟨a, _, by rw [ea], ha, fun p n => q p _ (.dk m) (free_of E.k f n j) (f.trans (Fx.of (same_new n))) ((E.k.fx f j).jnew n) (show Ow c (ins p M) _ p (.dk m) from upd_same) rfl⟩
/-! ### dicts whose keys are data -/
def ksPut (ks : List PyData) (d : PyData) : List PyData := if (ks.any fun e => decide (nk e = nk d)) = true then ks else ks ++ [d]
theorem dp_ref {K : PySem.W.Frag} {H : Hp} {v : V} {ds : List PyData} (h : Dp K H v (.tuple ds)) : ∃ a, v = .ref a := by
  cases h; exact ⟨_, rfl⟩
end
end JQ

-- part Pf
set_option Elab.async false
set_option linter.all false
set_option maxRecDepth 100000
set_option maxHeartbeats 2000000
/-! Dicts of data keys, sets, objects, tuples of anything, over the plain layer. -/
namespace JQ
open PySem PySem.Spec PyProof.Rows L2
section
variable {c : Cf} {G : Gx} {te ta tb tl td ty tx : TE} {ρ : Rho} {P P1 P2 : DV → Prop}
theorem evn_ksnew : EvN c G (tDNewX c) ρ (· = .ks []) := fun m0 M H σ E Q q p n => q p _ (.ks []) n (Fx.of (same_new n)) (E.k.jnew n) ⟨[], upd_same, rfl, fun _ h => nomatch h⟩ rfl
theorem run_ksput {i : Nat} {ks ds : List PyData} {Φ : Out → Prop} (h : ρ[i]? = some (.ow (.ks ks))) (hv : Ed c G tx ρ (.bool true)) (hy : Ed c G ty ρ (.tuple ds)) (hk : keyOk (.tuple ds) = true) (hks : ∀ e ∈ ks, keyOk e = true) (hl : ks.length < sizeLine)
    (kk : Φ (.nx (ρ.set i (.ow (.ks (ksPut ks (.tuple ds))))))) : Run c G (sKsPut c (tVar i) ty tx) ρ Φ := fun m0 H0 M H σ D E B L =>
  hv m0 M H σ E _ fun x H1 d1 f1 j1 r1 e1 => by
    subst e1
    have E1 := E.fx f1 j1
    obtain ⟨a, h1, h2, h3, h4⟩ := E1.ow i _ h
    refine ⟨.ref a, h1, hy m0 M H1 σ E1 _ fun y H2 d2 f2 j2 r2 e2 => ?_⟩
    subst e2
    have E2 := E1.fx f2 j2
    obtain ⟨a', q1, q2, q3, Ls, q4, q5, q6⟩ := E2.ow i _ h
    have ea : a' = a := by rw [h1] at q1; injection q1 with q1; injection q1 with q1; injection q1 with q1; exact q1.symm
    subst ea
    have r1 := rv_p r1
    cases r1
    have r2 := rv_p r2
    obtain ⟨b, rfl⟩ := dp_ref r2
    have kq : ∀ q ∈ Ls, keyOk q.2 = true := fun q hq => hks _ (by rw [← q5]; exact List.mem_map_of_mem hq)
    have ll : Ls.length = ks.length := by rw [← q5, List.length_map]
    let L2s : List (Addr × PyData) := if Ls.any (fun q => decide (nk q.2 = nk (.tuple ds))) = true then Ls else Ls ++ [(b, .tuple ds)]
    have hs : Same (hid M H2) (hid M (upd H2 a' (c.keyO a' L2s))) := fun z u q => by
      obtain ⟨z1, z2⟩ := hid_some q
      rw [hid_get z1, upd_ne (fun z => by subst z; rw [h2] at z1; cases z1)]; exact z2
    have em : L2s.map (·.2) = ksPut ks (.tuple ds) := by
      have ea : Ls.any (fun q => decide (nk q.2 = nk (.tuple ds))) = ks.any (fun e => decide (nk e = nk (.tuple ds))) := by rw [← q5, List.any_map]; rfl
      show (if Ls.any (fun q => decide (nk q.2 = nk (.tuple ds))) = true then Ls else Ls ++ [(b, PyData.tuple ds)]).map (fun q : Addr × PyData => q.2) = _
      unfold ksPut
      rw [ea]
      split
      · exact q5
      · rw [List.map_append, q5]; rfl
    refine ⟨a', Ls, b, .tuple ds, rfl, q4, rfl, rfl, dp_mono hid_same r2, hk, fun q hq => ⟨dp_mono hid_same (q6 q hq), kq q hq⟩, by omega, L.nx _ _ ⟨M, _, E2.setW (d' := .ks (ksPut ks (.tuple ds))) h h1 ?_ ⟨L2s, upd_same, em, fun q hq => dp_mono hs ?_⟩, ((B.fxx f1).fxx f2).upd q2 q3, kk⟩⟩
    · intro xs z; rw [q4] at z; exact c.keyNT _ _ _ (Option.some.inj z)
    · by_cases hc : Ls.any (fun q => decide (nk q.2 = nk (.tuple ds))) = true
      · rw [show L2s = Ls from if_pos hc] at hq; exact q6 q hq
      · rw [show L2s = Ls ++ [(b, .tuple ds)] from if_neg hc] at hq
        rcases List.mem_append.mp hq with hq | hq
        · exact q6 q hq
        · rw [List.mem_singleton.mp hq]; exact r2
theorem cb_lenKs {ks : List PyData} (hk : ∀ e ∈ ks, keyOk e = true) : CbD c G (rLenKs c) (.ks ks) (· = .p (.int (ks.length : Int))) := cb_val (fun _ => .int _) fun M H u k ru Q q => by
  obtain ⟨a, Ls, e, h1, h2, h3⟩ := ru.kss
  exact ⟨a, Ls, by rw [e], h1, fun z hz => ⟨dp_mono hid_same (h3 z hz), hk _ (by rw [← h2]; exact List.mem_map_of_mem hz)⟩, by
    have e2 : Ls.length = ks.length := by rw [← h2, List.length_map]
    rw [e2]; exact q⟩
theorem paired_keys {H : Hp} {K : PySem.W.Frag} {L : List (Addr × PyData)} (hq : ∀ q ∈ L, Dp K H (.ref q.1) q.2) : ∀ {out : List V} {ds : List PyData}, Paired (fun v d => ∃ q ∈ L, v = V.ref q.1 ∧ d = q.2) out ds → DpAll K H out ds
  | _, _, .nil => .nil
  | _, _, .cons ⟨q, h1, h2, h3⟩ t => by subst h2 h3; exact .cons (hq q h1) (paired_keys hq t)
theorem cb_sortKs {ks : List PyData} (ha : PySem.W.AllAlike ks) (hs : PySem.W.Sortable ks ∨ ks.length ≤ 1) (hp : ∀ d ∈ ks, d.depth ≤ 60 ∧ d ≠ .none) : CbN c G (rSortKs c) (.ks ks) (· = .p (.list (ks.mergeSort (PySem.W.dataLe false id)))) := fun M H u k ru Q q => by
  obtain ⟨a, Ls, e, h1, h2, h3⟩ := ru.kss
  subst h2
  exact ⟨a, Ls, by rw [e], h1, fun z hz => dp_mono hid_same (h3 z hz), ha, by rwa [List.length_map] at hs, fun z hz => hp _ (List.mem_map_of_mem hz), fun p out n ho => q p _ _ n (Fx.of (same_new n)) (k.jnew n) (ow_newL k n (paired_keys h3 ho)) rfl⟩
/-! ### index -/
theorem ed_idx {xs : List Str} {y : Str} {j : Nat} (ho : Ev c G ta ρ (· = .tN xs)) (hx : Es c G tx ρ (.str y)) (h1 : xs[j]? = some y) (h2 : ∀ m, m < j → xs[m]? ≠ some y) : Ed c G (tIdx ta tx) ρ (.int (j : Int)) := fun m0 M H σ E Q q =>
  ho m0 M H σ E _ fun x H1 d1 f1 j1 r1 e1 => by
    subst e1
    cases r1 with
    | @tN a _ tn =>
      have mono : ∀ {M : Addr → Bool} {H : Hp}, TN (hid M H) a xs → TN H a xs := fun ⟨o, g1, g2⟩ => ⟨o, hid_same _ _ g1, g2⟩
      refine ⟨⟨a, xs, rfl, mono tn⟩, hx m0 M H1 σ (E.fx f1 j1) _ fun y' H2 d2 f2 j2 r2 e2 => ?_⟩
      subst e2
      have tn2 : TN (hid M H2) a xs := by
        obtain ⟨o, g1, g2⟩ := tn
        exact ⟨o, (E.k.fx f1 j1).hidS f2 _ _ g1, g2⟩
      exact ⟨a, xs, y, j, rfl, r2.str, mono tn2, h1, h2, q _ H2 _ (f1.trans f2) j2 (.p (.int _)) rfl⟩
/-- tuple(xs), of texts -/
theorem ev_tupN {xs : List Str} (h : Es c G te ρ (.list (xs.map .str))) : Ev c G (tCB (rTupN c.K) (tCons te tNil)) ρ (· = .tN xs) := fun m0 M H σ E Q q => h m0 M H σ E _ fun v H1 d f j r e => by
  subst e
  obtain ⟨a, vs, e, h1, h2⟩ := r.lst
  rw [dpa_strs h2] at h1
  have k := E.k.fx f j
  exact ⟨a, xs, by rw [e], h1, fun p o n ho => q _ _ _ (f.trans (Fx.of (same_new n))) (k.jnew n) (.tN ⟨o, by rw [hid_get (k.free n)]; exact upd_same, ho⟩) rfl⟩
/-! ### sets -/
theorem evn_sortSetI {w : World} {ns : List Int} (h : Es c G te ρ (.list (ns.map .int))) (hl : ns.length < 63) : EvN c G (tCB (rSortedSet w) (tCons (tCB (rSetI c.K w) (tCons te tNil)) tNil)) ρ
    (fun d => ∃ ms : List Int, ms.Pairwise (· < ·) ∧ (∀ k, k ∈ ms ↔ k ∈ ns) ∧ d = .p (.list (ms.map .int))) := fun m0 M H σ E Q q => h m0 M H σ E _ fun v H1 d f j r e => by
  subst e
  obtain ⟨a, vs, e, h1, h2⟩ := r.lst
  rw [dpa_ints h2] at h1
  refine ⟨a, ns, by rw [e], h1, hl, fun p n hp hn => ?_⟩
  refine ⟨p, _, n, rfl, upd_same, by omega, fun ms p2 h3 h4 h5 hp2 => ?_⟩
  have k := E.k.fx f j
  have k2 := k.fx (Fx.of (same_new (o := SetO w p (fun j => decide (j ∈ ns)) n) hp)) (k.jnew hp)
  have ff := f.trans (Fx.of (same_new (o := SetO w p (fun j => decide (j ∈ ns)) n) hp))
  exact q p2 _ _ (free_of E.k ff hp2 (k.jnew hp)) (ff.trans (Fx.of (same_new hp2))) (k2.jnew hp2) (ow_newL k2 hp2 (ints_dpa ms)) ⟨ms, h3, fun z => by rw [h4, decide_eq_true_eq], rfl⟩
theorem refs_of {K : PySem.W.Frag} {H : Hp} : ∀ {vs : List V} {ds : List PyData}, DpAll K H vs ds → (∀ d ∈ ds, ∃ es, d = .tuple es) → ∃ ks : List (Addr × PyData), vs = ks.map (fun p => V.ref p.1) ∧ ds = ks.map (·.2) ∧ ∀ p ∈ ks, Dp K H (.ref p.1) p.2
  | _, _, .nil, _ => ⟨[], rfl, rfl, fun _ h => nomatch h⟩
  | _, _, @DpAll.cons _ _ v vs d ds h t, ht => by
    obtain ⟨es, rfl⟩ := ht d (List.mem_cons_self ..)
    obtain ⟨b, rfl⟩ := dp_ref h
    obtain ⟨ks, e1, e2, e3⟩ := refs_of t fun d hd => ht d (List.mem_cons_of_mem _ hd)
    refine ⟨(b, .tuple es) :: ks, by rw [e1]; rfl, by rw [e2]; rfl, fun p hp => ?_⟩
    rcases List.mem_cons.mp hp with e | hp
    · rw [e]; exact h
    · exact e3 p hp
theorem evn_sortSetX {ds : List PyData} (h : Es c G te ρ (.list ds) ∨ Es c G te ρ (.tuple ds)) (ht : ∀ d ∈ ds, ∃ es, d = .tuple es) (hk : ∀ d ∈ ds, keyOk d = true) (hl : ds.length < 63) (ha : PySem.W.AllAlike ds) (hs : PySem.W.Sortable ds) (hp : ∀ d ∈ ds, d.depth ≤ 60) :
    EvN c G (tCB (rSortX c) (tCons (tCB (rSetX c) (tCons te tNil)) tNil)) ρ
    (fun d => ∃ es : List PyData, (∀ e ∈ es, e ∈ ds) ∧ (∀ e ∈ ds, nk e ∈ es.map nk) ∧ (es.map nk).Nodup ∧ d = .p (.list (es.mergeSort (PySem.W.dataLe false id)))) := fun m0 M H σ E Q q => by
  have core : ∀ (v : V) (H1 : Hp) (a : Addr) (vs : List V), Fx G H H1 → G.J H1 → v = .ref a → (SqL c.K H1 a vs ∨ SqT c.K H1 a vs) → DpAll c.K (hid M H1) vs ds → rSetX c [v] H1 (fun v H => tNil σ H fun vs H2 => rSortX c (v :: vs) H2 Q) := fun v H1 a vs f j e h1 h2 => by
    obtain ⟨ks, e1, e2, e3⟩ := refs_of h2 ht
    subst e1 e2
    have kk : ∀ p ∈ ks, keyOk p.2 = true := fun p hp => hk _ (List.mem_map_of_mem hp)
    rw [List.length_map] at hl
    refine ⟨a, ks, by rw [e], h1, fun p hp => ⟨dp_mono hid_same (e3 p hp), kk p hp⟩, hl, fun p Ls n g1 g2 g3 g4 => ?_⟩
    have k := E.k.fx f j
    have k2 := k.fx (Fx.of (same_new (o := c.setO p Ls) n)) (k.jnew n)
    have ff := f.trans (Fx.of (same_new (o := c.setO p Ls) n))
    have sub : ∀ d ∈ Ls.map (·.2), d ∈ ks.map (·.2) := fun d hd => by
      obtain ⟨q, hq, e⟩ := List.mem_map.mp hd
      subst e
      exact List.mem_map_of_mem (g1 q hq)
    have hD : ∀ p' ∈ Ls, Dp c.K (hid M (upd H1 p (c.setO p Ls))) (.ref p'.1) p'.2 := fun p' hp' => dp_mono (k.hidS (Fx.of (same_new n))) (e3 p' (g1 p' hp'))
    refine ⟨p, Ls, rfl, upd_same, fun p' hp' => dp_mono hid_same (hD p' hp'), fun d hd d' hd' => ha _ (sub d hd) _ (sub d' hd'), ?_, fun z hz => hp _ (sub _ (List.mem_map_of_mem hz)), fun p2 out L' n2 pm po => ?_⟩
    · rcases hs with hs | hs
      · exact .inl fun d hd => hs d (sub d hd)
      · exact .inr fun d hd => hs d (sub d hd)
    · refine q p2 _ _ (free_of E.k ff n2 (k.jnew n)) (ff.trans (Fx.of (same_new n2))) (k2.jnew n2) (ow_newL k2 n2 (paired_keys hD po)) ⟨L'.map (·.2), fun e he => ?_, fun e he => ?_, ?_, rfl⟩
      · obtain ⟨z, hz, ez⟩ := List.mem_map.mp he
        exact sub e (List.mem_map.mpr ⟨z, pm.mem_iff.mp hz, ez⟩)
      · obtain ⟨z, hz, ez⟩ := List.mem_map.mp he
        subst ez
        have w := g2 z hz
        obtain ⟨y, hy, ey⟩ := List.mem_map.mp w
        rw [List.map_map]
        exact List.mem_map.mpr ⟨y, pm.mem_iff.mpr hy, ey⟩
      · rw [List.map_map]
        exact (pm.map _).nodup_iff.mpr g3
  rcases h with h | h
  · exact h m0 M H σ E _ fun v H1 d f j r e => by
      subst e
      obtain ⟨a, vs, e, h1, h2⟩ := r.lst
      exact core v H1 a vs f j e (.inl h1) h2
  · exact h m0 M H σ E _ fun v H1 d f j r e => by
      subst e
      obtain ⟨a, vs, e, h1, h2⟩ := r.tup
      exact core v H1 a vs f j e (.inr h1) h2
end
end JQ

-- part Pg
set_option Elab.async false
set_option linter.all false
set_option maxRecDepth 100000
set_option maxHeartbeats 2000000
/-! Objects, dicts from ints, tuples of anything, over the plain layer. -/
namespace JQ
open PySem PySem.Spec PyProof.Rows L2
theorem zip_lookup {c : Cf} {H : Hp} {f : Str} {d : DV} : ∀ {ns : List Str} {vs : List V} {ds : List DV}, RvAll c H vs ds → (ns.zip ds).lookup f = some d → ∃ v, (ns.zip vs).lookup f = some v ∧ Rv c H v d
  | [], _, _, _, e => by simp at e
  | n :: ns, _, _, .nil, e => by simp at e
  | n :: ns, v :: vs, d' :: ds, .cons h r, e => by
    rw [List.zip_cons_cons, List.lookup_cons] at e ⊢
    cases h1 : f == n with
    | true => simp only [h1] at e ⊢; cases e; exact ⟨v, rfl, h⟩
    | false => simp only [h1] at e ⊢; exact zip_lookup r e
theorem zip_none {f : Str} : ∀ {ns : List Str} {vs : List V}, f ∉ ns → (ns.zip vs).lookup f = none
  | [], _, _ => by simp
  | n :: ns, [], _ => by simp
  | n :: ns, v :: vs, h => by
    rw [List.mem_cons, not_or] at h
    rw [List.zip_cons_cons, List.lookup_cons]
    have : (f == n) = false := beq_eq_false_iff_ne.mpr h.1
    simp only [this]
    exact zip_none h.2
theorem put_new {f : Str} {v : V} : ∀ {ns : List Str} {vs : List V}, f ∉ ns → ns.length = vs.length → putF f v (ns.zip vs) = (ns ++ [f]).zip (vs ++ [v])
  | [], [], _, _ => rfl
  | [], _ :: _, _, h => by cases h
  | _ :: _, [], _, h => by cases h
  | n :: ns, u :: vs, h, hl => by
    rw [List.mem_cons, not_or] at h
    show (if n = f then _ else _) = _
    rw [if_neg (Ne.symm h.1)]
    exact congrArg ((n, u) :: ·) (put_new h.2 (Nat.succ.inj hl))
section
variable {c : Cf} {G : Gx} {te ta tb tl td ty tx : TE} {ρ : Rho} {P P1 P2 : DV → Prop}
/-! ### fields -/
theorem ev_fld {C : Addr} {ns : List Str} {ds : List DV} {f : Str} {d : DV} (h : EvS c G te ρ (· = .obj C ns ds)) (hc : Cls c.K C) (hn : NoAttr c.K C f) (hf : (ns.zip ds).lookup f = some d) : Ev c G (tFld c.K te f) ρ (· = d) := fun m0 M H σ E Q q =>
  h m0 M H σ E _ fun v H1 d1 f1 j r e => by
    subst e
    obtain ⟨a, dx, vs, e1, e2, e3, e4⟩ := r.ob
    obtain ⟨u, h1, h2⟩ := zip_lookup e4 hf
    exact ⟨a, C, dx, _, u, e1, e2, hc, hn, h1, q u H1 d f1 j h2 rfl⟩
theorem ev_fldM {x C : Addr} {ns : List Str} {ds : List DV} {f : Str} {d : DV} (h : EvS c G te ρ (· = .me x C ns ds)) (hc : Cls c.K C) (hn : NoAttr c.K C f) (hf : (ns.zip ds).lookup f = some d) : Ev c G (tFld c.K te f) ρ (· = d) := fun m0 M H σ E Q q =>
  h m0 M H σ E _ fun v H1 d1 f1 j r e => by
    subst e
    obtain ⟨dx, vs, e1, e2, e3, e4⟩ := r.mine
    obtain ⟨u, h1, h2⟩ := zip_lookup e4 hf
    exact ⟨x, C, dx, _, u, e1, e2, hc, hn, h1, q u H1 d f1 j h2 rfl⟩
theorem run_fld {i : Nat} {x C : Addr} {ns : List Str} {ds : List DV} {f : Str} {Φ : Out → Prop} (h : ρ[i]? = some (.ow (.me x C ns ds))) (hv : Ev c G tx ρ P) (hc : Cls c.K C) (hn : NoAttr c.K C f) (hf : f ∉ ns) (hl : ns.length < 1000)
    (kk : ∀ d, P d → Φ (.nx (ρ.set i (.ow (.me x C (ns ++ [f]) (ds ++ [d])))))) : Run c G (sFld c.K (tVar i) tx f) ρ Φ := fun m0 H0 M H σ D E B L =>
  hv m0 M H σ E _ fun u H1 d f1 j1 r1 p1 => by
    have E1 := E.fx f1 j1
    obtain ⟨a, h1, h2, h3, rfl, dx, vs, h4, h5, h6⟩ := E1.ow i _ h
    have hs : Same (hid M H1) (hid M (upd H1 a (.ins C dx ((ns ++ [f]).zip (vs ++ [u]))))) := fun z w q => by
      obtain ⟨z1, z2⟩ := hid_some q
      rw [hid_get z1, upd_ne (fun z => by subst z; rw [h2] at z1; cases z1)]; exact z2
    refine ⟨.ref a, h1, a, C, dx, _, rfl, h4, hc, hn, by rw [List.length_zip]; omega, ?_⟩
    rw [put_new hf h5]
    refine L.nx _ _ ⟨M, _, E1.setW (d' := .me a C (ns ++ [f]) (ds ++ [d])) h h1 (by rw [h4]; intro _ z; cases z) ⟨rfl, dx, vs ++ [u], upd_same, by rw [List.length_append, List.length_append, h5]; rfl, ?_⟩, (B.fxx f1).upd h2 h3, kk d p1⟩
    exact rva_app (rva_mono hs h6) (.cons (rv_mono hs r1) .nil)
/-! ### methods that change nothing; a class made -/
theorem ev_meth {C : Addr} {ns : List Str} {ds : List DV} {m : Str} {R : List DV → (DV → Prop) → Prop} {E0 : XK} {t : TA} {PA : List DV → Prop} (h : Ev c G te ρ (· = .obj C ns ds)) (hm : m ∉ ns) (ha : EvA c G t ρ PA) (hR : ∀ as, PA as → R (.obj C ns ds :: as) P) :
    Ev c G (tMeth C m (spR c R) [] E0 te t) ρ P := fun m0 M H σ E Q q =>
  h m0 M H σ E _ fun v H1 d1 f1 j1 r e => by
    subst e
    cases r with
    | @obj a _ dx _ vs _ h1 h2 h3 =>
      refine ⟨a, dx, _, rfl, hid_same _ _ h1, zip_none hm, ha m0 M H1 σ (E.fx f1 j1) _ fun us H2 as f2 j2 r2 p2 => ?_⟩
      have k1 := E.k.fx f1 j1
      have k2 := k1.fx f2 j2
      exact ⟨M, _, P, k2.al, by rw [List.append_nil]; exact .cons (rv_mono (k1.hidS f2) (.obj h1 h2 h3)) r2, hR as p2, fun u H' d s rv g2 => q u H' d ((f1.trans f2).trans (Fx.of s)) (G.st _ _ j2 fun a o _ z => s a o z) rv g2⟩
/-- the promise of an __init__: the instance at x is made to what R says -/
def spI (c : Cf) (C : Addr) (R : List DV → (DV → Prop) → Prop) : Sp := fun vs H Q _ => ∃ m x dx us ds P, vs = .ref x :: us ∧ m x = true ∧ (∀ a, m a = true → ∃ o, H a = some o) ∧ H x = some (.ins C dx []) ∧ RvAll c (hid m H) us ds ∧ R ds P ∧
  ∀ H' d, (∀ a o, a ≠ x → H a = some o → H' a = some o) → Rv c (hid (out x m) H') (.ref x) d → P d → Q .non H'
theorem ev_make {C : Addr} {R : List DV → (DV → Prop) → Prop} {E0 : XK} {t : TA} {PA : List DV → Prop} (ha : EvA c G t ρ PA) (hR : ∀ as, PA as → R as P) : Ev c G (tMake C (spI c C R) [] E0 t) ρ P := fun m0 M H σ E Q q =>
  ha m0 M H σ E _ fun us H1 as f1 j1 r1 p1 x dx n1 n2 hne => by
    have k := E.k.fx f1 j1
    have n3 : (upd H1 dx (.own x)) x = none := by rw [upd_ne (Ne.symm hne)]; exact n1
    have s1 : Same H1 (upd (upd H1 dx (.own x)) x (.ins C dx [])) := fun a o z => by
      rw [upd_ne (ne_of_none z n1), upd_ne (ne_of_none z n2)]; exact z
    have jn := G.st _ _ j1 fun a o _ z => s1 a o z
    have k2 := k.fx (Fx.of s1) jn
    have hs : Same (hid M H1) (hid (ins x M) (upd (upd H1 dx (.own x)) x (.ins C dx []))) := fun a o z => by
      obtain ⟨z1, z2⟩ := hid_some z
      rw [hid_get (by rw [ins_ne (ne_of_none z2 n1)]; exact z1)]; exact s1 a o z2
    refine ⟨ins x M, x, dx, us, as, P, by rw [List.append_nil], ins_self, fun a h => ?_, upd_same, rva_mono hs r1, hR as p1, fun H' d s rv hp => ?_⟩
    · by_cases e : a = x
      · subst e; exact ⟨_, upd_same⟩
      · rw [ins_ne e] at h; exact k2.al a h
    · have mx : M x = false := k.free n1
      have em : out x (ins x M) = M := funext fun a => by
        by_cases e : a = x
        · subst e; rw [out_self, mx]
        · rw [out_ne e, ins_ne e]
      rw [em] at rv
      refine ⟨rfl, q _ H' d (f1.trans fun a o g z => s a o (ne_of_none z n1) (s1 a o z)) (G.st _ _ j1 fun a o g z => s a o (ne_of_none z n1) (s1 a o z)) rv hp⟩
/-- an __init__, run with its instance as a thing of one's own -/
theorem init_of {N : List Str} {C : Addr} {R : List DV → (DV → Prop) → Prop} {t : TS} (hN : ∀ ds P, R ds P → ds.length + 1 ≤ N.length)
    (h : ∀ x ds P, R ds P → Run c G0 t (.ow (.me x C [] []) :: args (N.length - 1) ds) (fun o => ∃ ρ' ns es, o = .nx (.ow (.me x C ns es) :: ρ') ∧ P (.obj C ns es)))
    (vs : List V) (H : Hp) (Q : VK) (E : XK) (hsp : spI c C R vs H Q E) : t { nx := fun _ H' => Q .non H', rt := Q } (L2.start N vs) H := by
  obtain ⟨m, x, dx, us, ds, P, rfl, mx, al, hx, rv, hR, q⟩ := hsp
  have len := rva_len rv
  have hl := hN ds P hR
  have E : EnvM c G0 (out x m) m H (L2.start N (.ref x :: us)) (.ow (.me x C [] []) :: args (N.length - 1) ds) := by
    have get : ∀ (i : Nat) (s : Slot), (args (N.length - 1) ds)[i]? = some s → (∃ e, ds[i]? = some e ∧ s = .fz e) ∨ s = .no := fun i s h => by
      unfold args at h
      by_cases hi : i < ds.length
      · rw [List.getElem?_append_left (by simpa using hi), List.getElem?_map, List.getElem?_eq_getElem hi] at h
        exact .inl ⟨ds[i], List.getElem?_eq_getElem hi, (Option.some.inj h).symm⟩
      · rw [List.getElem?_append_right (by simpa using hi), List.getElem?_replicate] at h
        split at h
        · exact .inr (Option.some.inj h).symm
        · cases h
    refine ⟨⟨trivial, al, fun _ h => (nomatch h)⟩, fun _ h => (nomatch h), fun _ h => out_of h, ?_, fun i e h => ?_, fun i e h => ?_, fun i j e e' a h h' _ _ => ?_⟩
    · unfold L2.start args
      simp only [List.length_append, List.length_map, List.length_replicate, List.length_cons]
      omega
    · cases i with
      | zero => cases h
      | succ i =>
        rcases get i _ h with ⟨e', h1, h2⟩ | h2
        · cases h2
          obtain ⟨v, h3, h4⟩ := rva_get rv h1
          exact ⟨v, start_get (N := N) (vs := .ref x :: us) (i := i + 1) (by simpa using h3), h4⟩
        · cases h2
    · cases i with
      | zero =>
        cases h
        exact ⟨x, start_get (N := N) (vs := .ref x :: us) (i := 0) rfl, mx, out_self, rfl, dx, [], hx, rfl, .nil⟩
      | succ i => rcases get i _ h with ⟨e', h1, h2⟩ | h2 <;> cases h2
    · cases i with
      | succ i => rcases get i _ h with ⟨e', h1, h2⟩ | h2 <;> cases h2
      | zero => cases j with
        | succ j => rcases get j _ h' with ⟨e', h1, h2⟩ | h2 <;> cases h2
        | zero => rfl
  have h0 : Bs G0 (out x m) (fun a => if a = x then none else H a) m H := by
    refine ⟨fun a h1 h2 => ?_, fun a o _ z => ?_⟩
    · by_cases e : a = x
      · exact if_pos e
      · rw [out_ne e, h1] at h2; cases h2
    · by_cases e : a = x
      · rw [if_pos e] at z; cases z
      · rw [if_neg e] at z; exact z
  refine h x ds P hR (out x m) _ m H _ _ E h0 ⟨fun σ' H' ⟨M, ρ, e, b, ρ', ns, es, p, ed⟩ => ?_, fun v H' ⟨d', j, f, r, _, _, _, p, _⟩ => ?_, fun σ' H' ⟨M, ρ, e, b, _, _, _, p, _⟩ => ?_, fun σ' H' ⟨M, ρ, e, b, _, _, _, p, _⟩ => ?_⟩
  · cases p
    obtain ⟨a, h1, h2, h3, rfl, dx', vs, h4, h5, h6⟩ := e.ow 0 _ rfl
    refine q H' _ (fun z o hz hq => b.fx z o rfl (by show (if z = a then none else H z) = _; rw [if_neg hz]; exact hq)) (.obj (by rw [hid_get out_self]; exact h4) h5 (rva_mono (hid_less e.sub) h6)) ed
  all_goals cases p
end
end JQ

-- part Ph
set_option Elab.async false
set_option linter.all false
set_option maxRecDepth 100000
set_option maxHeartbeats 2000000
/-! Dicts from ints, tuples of anything, impure calls, over the plain layer. -/
namespace JQ
open PySem PySem.Spec PyProof.Rows L2
theorem val_nd {ks : List Int} {i : Int} : ∀ {vs : List V}, valV ((ks.map (Sum.inl : Int → Key)).zip vs) (Sum.inl i) = (ks.zip vs).lookup i := by
  unfold valV
  induction ks with
  | nil => intro vs; rfl
  | cons k ks ih =>
    intro vs
    cases vs with
    | nil => rfl
    | cons v vs =>
      rw [List.map_cons, List.zip_cons_cons, List.zip_cons_cons, List.find?_cons, List.lookup_cons]
      by_cases e : k = i
      · subst e; simp
      · have e1 : ¬ ((Sum.inl k : Key) = Sum.inl i) := fun z => e (Sum.inl.inj z)
        have e2 : (i == k) = false := beq_eq_false_iff_ne.mpr (Ne.symm e)
        simp only [e1, e2, decide_false]
        exact ih
theorem look_nd {c : Cf} {H : Hp} {i : Int} {d : DV} : ∀ {ks : List Int} {vs : List V} {ds : List DV}, RvAll c H vs ds → (ks.zip ds).lookup i = some d → ∃ v, (ks.zip vs).lookup i = some v ∧ Rv c H v d
  | [], _, _, _, e => by simp at e
  | k :: ks, _, _, .nil, e => by simp at e
  | k :: ks, v :: vs, d' :: ds, .cons h r, e => by
    rw [List.zip_cons_cons, List.lookup_cons] at e ⊢
    cases h1 : i == k with
    | true => simp only [h1] at e ⊢; cases e; exact ⟨v, rfl, h⟩
    | false => simp only [h1] at e ⊢; exact look_nd r e
theorem look_some {i : Int} {α : Type} : ∀ {ks : List Int} {vs : List α}, ks.length = vs.length → ((ks.zip vs).lookup i).isSome = decide (i ∈ ks)
  | [], [], _ => rfl
  | [], _ :: _, h => by cases h
  | _ :: _, [], h => by cases h
  | k :: ks, v :: vs, h => by
    rw [List.zip_cons_cons, List.lookup_cons]
    by_cases e : i = k
    · subst e; simp
    · have e2 : (i == k) = false := beq_eq_false_iff_ne.mpr e
      simp only [e2]
      rw [look_some (Nat.succ.inj h)]
      simp [e]
theorem flat_one {α : Type} : ∀ (n : Nat) (d : α), (List.replicate n [d]).flatten = List.replicate n d
  | 0, _ => rfl
  | n + 1, d => by rw [List.replicate_succ, List.flatten_cons, flat_one n d]; rfl
section
variable {c : Cf} {G : Gx} {te ta tb tl td ty tx : TE} {ρ : Rho} {P P1 P2 : DV → Prop}
theorem ed_ndni {ks : List Int} {ds : List DV} {i : Int} (hy : Es c G ty ρ (.int i)) (hd : EvS c G td ρ (· = .nd ks ds)) : Ed c G (tDNotIn ty td) ρ (.bool (!decide (i ∈ ks))) := fun m0 M H σ E Q q =>
  hy m0 M H σ E _ fun x H1 d1 f1 j1 r1 e1 => hd m0 M H1 σ (E.fx f1 j1) _ fun y H2 d2 f2 j2 r2 e2 => by
    subst e1 e2
    obtain ⟨a, vs, ea, ha, hl, hv⟩ := r2.nd
    have g := DGet.k (k := Sum.inl i) ha
    rw [val_nd] at g
    rw [r1.int]
    exact ⟨a, _, ea, g, by rw [look_some hl]; exact q _ H2 _ (f1.trans f2) j2 (.p (.bl _)) rfl⟩
theorem ev_ndget {ks : List Int} {ds : List DV} {i : Int} {d : DV} (hd : EvS c G td ρ (· = .nd ks ds)) (hy : Es c G ty ρ (.int i)) (hv : (ks.zip ds).lookup i = some d) : Ev c G (tDGet td ty) ρ (· = d) := fun m0 M H σ E Q q =>
  hd m0 M H σ E _ fun x H1 d1 f1 j1 r1 e1 => hy m0 M H1 σ (E.fx f1 j1) _ fun y H2 d2 f2 j2 r2 e2 => by
    subst e1 e2
    obtain ⟨a, vs, ea, ha, hl, hvs⟩ := (r1.fx (E.k.fx f1 j1) f2).nd
    obtain ⟨v, h1, h2⟩ := look_nd hvs hv
    have g := DGet.k (k := Sum.inl i) ha
    rw [val_nd, h1] at g
    rw [r2.int]
    exact ⟨a, v, ea, g, q v H2 d (f1.trans f2) j2 h2 rfl⟩
theorem evn_sortNd {ks : List Int} {ds : List DV} (hd : EvS c G td ρ (· = .nd ks ds)) (hl : ks.length < 64) : EvN c G (tCB rSortNd (tCons td tNil)) ρ (fun d => ∃ ys : List Int, ys.Perm ks ∧ ys.Pairwise (· ≤ ·) ∧ d = .p (.list (ys.map .int))) := fun m0 M H σ E Q q =>
  hd m0 M H σ E _ fun x H1 d1 f j r e => by
    subst e
    obtain ⟨a, vs, ea, ha, hv, hvs⟩ := r.nd
    have k := E.k.fx f j
    refine ⟨a, _, ks, by rw [ea], ha, ?_, hl, fun ys p h1 h2 n => q p _ _ (free_of E.k f n j) (f.trans (Fx.of (same_new n))) (k.jnew n) (ow_newL k n (ints_dpa ys)) ⟨ys, h1, h2, rfl⟩⟩
    rw [List.map_fst_zip (by rw [List.length_map]; exact Nat.le_of_eq hv)]
/-! ### tuples of anything -/
theorem at_rva {c : Cf} {H : Hp} {vs : List V} {ds : List DV} {i : Int} {d : DV} (h : RvAll c H vs ds) (e : atI ds i = some d) : ∃ v, atI vs i = some v ∧ Rv c H v d := by
  unfold atI at e ⊢
  rw [rva_len h]
  cases q : ixN ds.length i with
  | none => rw [q] at e; cases e
  | some j =>
    rw [q] at e
    obtain ⟨v, h1, h2⟩ := rva_get h (show ds[j]? = some d from e)
    exact ⟨v, h1, h2⟩
theorem Rs.tps {M : Addr → Bool} {H : Hp} {v : V} {ds : List DV} (h : Rs c G M H v (.tp ds)) : ∃ a vs, v = .ref a ∧ SqT c.K H a vs ∧ RvAll c (hid M H) vs ds := by
  rcases h with h | ⟨a, rfl, _, _, h⟩
  · cases h with
    | tp h1 h2 => exact ⟨_, _, rfl, same_t hid_same h1, h2⟩
  · exact h.elim
theorem od_ixP {ds : List DV} {i : Int} {d : DV} (h : atI ds i = some d) : OpD c G (rIx c.K) (.tp ds) (.p (.int i)) (· = d) := fun M H u v k ru rv Q q => by
  obtain ⟨a, vs, e, h1, h2⟩ := ru.tps
  obtain ⟨w, h3, h4⟩ := at_rva h2 h
  exact .inr (.inl ⟨a, vs, i, w, e, rv.int, h1, h3, q _ H d Fx.refl k.J h4 rfl⟩)
theorem od_ixLX {ds : List DV} {i : Int} {d : DV} (h : atI ds i = some d) : OpD c G (rIx c.K) (.l ds) (.p (.int i)) (· = d) := fun M H u v k ru rv Q q => by
  obtain ⟨a, vs, e, h1, h2⟩ := ru.ll
  obtain ⟨w, h3, h4⟩ := at_rva h2 h
  exact .inl ⟨a, vs, i, w, e, rv.int, SqL.of h1, h3, q _ H d Fx.refl k.J h4 rfl⟩
theorem ev_ix {x y z : DV} (ha : EvS c G ta ρ (· = x)) (hb : EvS c G tb ρ (· = y)) (hr : OpD c G (rIx c.K) x y (· = z)) : Ev c G (tOp (rIx c.K) ta tb) ρ (· = z) :=
  ev_op ha hb fun _ _ e1 e2 => by subst e1; subst e2; exact hr
theorem src_tp {ds : List DV} (h : Ev c G tl ρ (· = .tp ds)) : Src c G (iTup c.K tl) ρ ds := fun m0 M H σ E R q => h m0 M H σ E _ fun v H1 d f j r e => by
  subst e
  cases r with
  | @tp a vs _ ha hv =>
    refine ⟨a, rfl, ⟨vs, same_t hid_same ha⟩, q _ H1 (fun H => SqT c.K H a vs) (YAt vs) f j ?_ (fun H2 s => same_t s ha) fun i H2 x H3 hi y => ⟨y.1, ?_⟩⟩
    · have w := walk_tup (K := c.K) (a := a) (xs := vs)
      rw [rva_len hv] at w
      exact w
    · obtain ⟨d, h1, h2⟩ := rva_get' hv y.2
      exact ⟨d, h1, h2⟩
theorem run_forTX {tl : TE} {g : TG} {tb : TS} {ds : List DV} {Φ : Out → Prop} (js : List Nat) (I : Nat → Rho → Prop) (h : Ev c G tl ρ (· = .tp ds)) (h0 : I 0 ρ)
    (hs : ∀ i d ρ', ds[i]? = some d → I i ρ' → ∃ ks ρ1, Bd c G ks g d ρ' ρ1 ∧ Run c G tb ρ1 (turnR js (I (i + 1)) Φ)) (hd : ∀ ρ', I ds.length ρ' → Φ (.nx ρ')) : Run c G (tFor (iTup c.K tl) g tb) ρ Φ := fun m0 H0 M H σ D E B L =>
  h m0 M H σ E _ fun v H1 d f j r e => by
    subst e
    have E1 := E.fx f j
    have B1 := B.fxx f
    cases r with
    | @tp a vs _ ha hv =>
      have len := rva_len hv
      refine ⟨a, rfl, ⟨vs, same_t hid_same ha⟩, for_tup (xs := vs) (fun i σ' H' => endP c G m0 (lb m0 M H1) (I i) σ' H') ⟨M, ρ, E1, lb_bs, h0⟩ (fun i σ' H' _ ⟨M2, ρ2, e2, b2, _⟩ => same_t hid_same (same_t (lb_same (c := c) E1.k.gm E1.sub b2) ha)) (fun i x σ' H' hx ⟨M2, ρ2, e2, b2, p⟩ => ?_) fun σ' H' ⟨M2, ρ2, e2, b2, p⟩ => ?_⟩
      · obtain ⟨d, q1, q2⟩ := rva_get' hv hx
        obtain ⟨_, ρ1, b, k⟩ := hs i d ρ2 q1 p
        exact b m0 M2 H' σ' x e2 (rv_mono (lb_same (c := c) E1.k.gm E1.sub b2) q2) _ fun σ2 e3 _ => k m0 (lb m0 M H1) M2 H' σ2 _ e3 b2 (le_turn E.gm B1 L fun _ _ z => z)
      · exact L.nx _ _ ⟨M2, ρ2, e2, lb_back E.gm B1 b2, hd _ (by rw [← len]; exact p)⟩
def BdX (c : Cf) (G : Gx) (ks : List Nat) (g : TGs) (ds : List DV) (ρ ρ' : Rho) : Prop := ∀ m0 M H σ vs, EnvM c G m0 M H σ ρ → RvAll c (hid M H) vs ds → ∀ Q, (∀ σ', EnvM c G m0 M H σ' ρ' → Agr ks σ σ' → Q σ' H) → g vs σ H Q
theorem bdx_nil : BdX c G [] gNil [] ρ ρ := fun m0 M H σ vs E r Q q => by cases r; exact ⟨rfl, q _ E Agr.refl⟩
theorem bdx_cons {ks ls : List Nat} {g : TG} {gs : TGs} {d : DV} {ds : List DV} {ρ1 ρ2 : Rho} (h : Bd c G ks g d ρ ρ1) (hr : BdX c G ls gs ds ρ1 ρ2) : BdX c G (ks ++ ls) (gCons g gs) (d :: ds) ρ ρ2 := fun m0 M H σ vs E r Q q => by
  cases r with
  | cons r1 r2 => exact ⟨_, _, rfl, h m0 M H σ _ E r1 _ fun σ' E' a => hr m0 M H σ' _ E' r2 Q fun σ2 E2 a2 => q σ2 E2 (a.trans a2)⟩
theorem bd_tupX {ks : List Nat} {gs : TGs} {ds : List DV} {n : Nat} {ρ' : Rho} (h : BdX c G ks gs ds ρ ρ') (hn : ds.length = n) : Bd c G ks (gTup c.K n gs) (.tp ds) ρ ρ' := fun m0 M H σ v E r Q q => by
  cases r with
  | tp h1 h2 => exact ⟨_, _, rfl, same_t hid_same h1, by rw [rva_len h2]; exact hn, h m0 M H σ _ E h2 Q q⟩
theorem ev_tupX {t : TA} {ds : List DV} (h : EvA c G t ρ (· = ds)) (hl : ds.length ≤ sizeLine := by first | decide | (rw [PySem.sizeLine_eq]; exact Nat.le_of_ble_eq_true rfl)) : Ev c G (tTup t) ρ (· = .tp ds) := fun m0 M H σ E Q q =>
  h m0 M H σ E _ fun vs H1 xs f1 j1 r1 p1 => by
    subst p1
    refine ⟨by rw [rva_len r1]; exact hl, fun p n => ?_⟩
    have k1 := E.k.fx f1 j1
    exact q _ _ _ (f1.trans (Fx.of (same_new n))) (k1.jnew n) (.tp (SqT.of (by rw [hid_get (k1.free n)]; exact upd_same)) (rva_mono (k1.hidS (Fx.of (same_new n))) r1)) rfl
theorem evn_lstX {t : TA} {ds : List DV} (h : EvA c G t ρ (· = ds)) (hl : ds.length ≤ sizeLine := by first | decide | (rw [PySem.sizeLine_eq]; exact Nat.le_of_ble_eq_true rfl)) : EvN c G (tLst t) ρ (· = .l ds) := fun m0 M H σ E Q q =>
  h m0 M H σ E _ fun vs H1 xs f1 j1 r1 p1 => by
    subst p1
    refine ⟨by rw [rva_len r1]; exact hl, fun p n => ?_⟩
    have k1 := E.k.fx f1 j1
    exact q p _ (.l xs) (free_of E.k f1 n j1) (f1.trans (Fx.of (same_new n))) (k1.jnew n) ⟨vs, upd_same, rva_mono (fun a o e => by
      obtain ⟨e1, e2⟩ := hid_some e
      have hne : a ≠ p := ne_of_none e2 n
      rw [hid_get (by rw [ins_ne hne]; exact e1), upd_ne hne]; exact e2) r1⟩ rfl
/-- tuple(xs), xs of anything -/
theorem ev_tupLX {ds : List DV} (h : EvS c G te ρ (· = .l ds)) : Ev c G (tCB (rTupOf c.K) (tCons te tNil)) ρ (· = .tp ds) := fun m0 M H σ E Q q => h m0 M H σ E _ fun v H1 d f j r e => by
  subst e
  obtain ⟨a, vs, e, h1, h2⟩ := r.ll
  have k := E.k.fx f j
  exact ⟨a, vs, by rw [e], .inl ⟨SqL.of h1, fun p n => q _ _ _ (f.trans (Fx.of (same_new n))) (k.jnew n) (.tp (SqT.of (by rw [hid_get (k.free n)]; exact upd_same)) (rva_mono (k.hidS (Fx.of (same_new n))) h2)) rfl⟩⟩
theorem cb_lenP {ds : List DV} : CbD c G (rLen c.K) (.tp ds) (· = .p (.int (ds.length : Int))) := cb_val (fun _ => .int _) fun M H u k ru Q q => by
  obtain ⟨a, vs, e, h1, h2⟩ := ru.tps
  exact ⟨u, ds.length, rfl, by subst e; exact .inr ⟨vs, h1, (rva_len h2).symm⟩, q⟩
/-- a method that leaves its own instance alone -/
theorem ev_methM {x C : Addr} {ns : List Str} {ds : List DV} {m : Str} {R : List DV → (DV → Prop) → Prop} {E0 : XK} {t : TA} {PA : List DV → Prop} (h : EvS c G te ρ (· = .me x C ns ds)) (hm : m ∉ ns) (ha : EvA c G t ρ PA) (hR : ∀ as, PA as → R (.at_ x :: as) P) :
    Ev c G (tMeth C m (spR c R) [] E0 te t) ρ P := fun m0 M H σ E Q q =>
  h m0 M H σ E _ fun v H1 d1 f1 j1 r e => by
    subst e
    obtain ⟨dx, vs, rfl, h1, h2, h3⟩ := r.mine
    refine ⟨x, dx, _, rfl, h1, zip_none hm, ha m0 M H1 σ (E.fx f1 j1) _ fun us H2 as f2 j2 r2 p2 => ?_⟩
    have k2 := (E.k.fx f1 j1).fx f2 j2
    exact ⟨M, _, P, k2.al, by rw [List.append_nil]; exact .cons .at_ r2, hR as p2, fun u H' d s rv g2 => q u H' d ((f1.trans f2).trans (Fx.of s)) (G.st _ _ j2 fun a o _ z => s a o z) rv g2⟩
/-! ### the drawn list -/
def JD (D L0 : Addr) (H : Hp) : Prop := ∃ (a b e : Int) (ds : List Int), H D = some (.lst [.ref L0, .int a, .int b, .int e]) ∧ H L0 = some (.lst (ds.map V.int)) ∧ 0 ≤ a ∧ 0 ≤ b ∧ 0 ≤ e ∧ e < 2147483647
/-- D, L0: the list that is drawn from -/
def GD (D L0 : Addr) : Gx := ⟨fun a => a == D || a == L0, JD D L0, fun H H' ⟨a, b, e, ds, h1, h2, h3⟩ k => ⟨a, b, e, ds, k D _ (by simp) h1, k L0 _ (by simp) h2, h3⟩, fun H a ⟨_, _, _, _, h1, h2, _⟩ h => by
  rw [Bool.or_eq_true, beq_iff_eq, beq_iff_eq] at h
  rcases h with rfl | rfl
  · exact ⟨_, h1⟩
  · exact ⟨_, h2⟩⟩
/-- the promise of a def that draws: R: of the data it gives data of which P holds -/
def spG (c : Cf) (R : List DV → (DV → Prop) → Prop) : Sp := fun vs H Q _ => ∃ D L0 m ds P, (∀ a, m a = true → ∃ o, H a = some o) ∧ JD D L0 H ∧ m D = true ∧ m L0 = true ∧ RvAll c (hid m H) vs (.at_ D :: ds) ∧ R ds P ∧
  ∀ v H' d, Fx (GD D L0) H H' → JD D L0 H' → Rv c (hid m H') v d → P d → Q v H'
theorem ev_callG {D L0 : Addr} {R : List DV → (DV → Prop) → Prop} {E0 : XK} {t : TA} {PA : List DV → Prop} (h : EvA c (GD D L0) t ρ PA) (hR : ∀ as, PA as → ∃ ds, as = .at_ D :: ds ∧ R ds P) : Ev c (GD D L0) (tCall (spG c R) [] E0 t) ρ P := fun m0 M H σ E Q q =>
  h m0 M H σ E _ fun vs H1 as f j r p => by
    obtain ⟨ds, e, h1⟩ := hR as p
    subst e
    have k1 := E.k.fx f j
    exact ⟨D, L0, M, ds, P, k1.al, j, k1.gm D (by simp [GD]), k1.gm L0 (by simp [GD]), by rw [List.append_nil]; exact r, h1, fun v H' d f2 j2 r2 p2 => q v H' d (f.trans f2) j2 r2 p2⟩
theorem draw_of {N : List Str} {R : List DV → (DV → Prop) → Prop} {t : TS} (hN : ∀ ds P, R ds P → ds.length + 1 ≤ N.length) (h : ∀ D L0 ds P, R ds P → Run c (GD D L0) t (args N.length (.at_ D :: ds)) (fun o => ∃ d, o = .rt d ∧ P d))
    (vs : List V) (H : Hp) (Q : VK) (E : XK) (hsp : spG c R vs H Q E) : t { nx := fun _ H' => Q .non H', rt := Q } (L2.start N vs) H := by
  obtain ⟨D, L0, m, ds, P, al, j, mD, mL, rv, hR, q⟩ := hsp
  have len := rva_len rv
  have hl := hN ds P hR
  have hg : ∀ a, (GD D L0).g a = true → m a = true := fun a h => by
    have h' : (a == D || a == L0) = true := h
    rw [Bool.or_eq_true, beq_iff_eq, beq_iff_eq] at h'
    rcases h' with rfl | rfl <;> assumption
  have E : EnvM c (GD D L0) m m H (L2.start N vs) (args N.length (.at_ D :: ds)) := by
    have get : ∀ (i : Nat) (s : Slot), (args N.length (.at_ D :: ds))[i]? = some s → (∃ e, (.at_ D :: ds)[i]? = some e ∧ s = .fz e) ∨ s = .no := fun i s h => by
      unfold args at h
      by_cases hi : i < (DV.at_ D :: ds).length
      · rw [List.getElem?_append_left (by simpa using hi), List.getElem?_map, List.getElem?_eq_getElem hi] at h
        exact .inl ⟨(DV.at_ D :: ds)[i], List.getElem?_eq_getElem hi, (Option.some.inj h).symm⟩
      · rw [List.getElem?_append_right (by simpa using hi), List.getElem?_replicate] at h
        split at h
        · exact .inr (Option.some.inj h).symm
        · cases h
    refine ⟨⟨j, al, hg⟩, hg, fun _ h => h, ?_, fun i e h => ?_, fun i e h => ?_, fun i j e e' a h _ _ _ => ?_⟩
    · unfold L2.start args
      rw [List.length_append, List.length_append, List.length_map, List.length_map, List.length_replicate, List.length_replicate, len]
    · rcases get i _ h with ⟨e', h1, h2⟩ | h2
      · cases h2
        obtain ⟨v, h3, h4⟩ := rva_get rv h1
        exact ⟨v, start_get h3, h4⟩
      · cases h2
    · rcases get i _ h with ⟨e', h1, h2⟩ | h2 <;> cases h2
    · rcases get i _ h with ⟨e', h1, h2⟩ | h2 <;> cases h2
  refine h D L0 ds P hR m H m H _ _ E ⟨fun a h1 h2 => absurd h1 (by rw [h2]; exact Bool.false_ne_true), Fx.refl⟩ ⟨fun σ' H' ⟨M, ρ, e, b, _, p, _⟩ => ?_, fun v H' ⟨d', j, f, r, d, p, pd⟩ => ?_, fun σ' H' ⟨M, ρ, e, b, _, p, _⟩ => ?_, fun σ' H' ⟨M, ρ, e, b, _, p, _⟩ => ?_⟩
  · cases p
  · cases p; exact q v H' _ f j r pd
  · cases p
  · cases p
/-- (x,) * n -/
theorem ed_rep {d : PyData} {n : Nat} (ha : Ed c G ta ρ (.tuple [d])) (hb : Es c G tb ρ (.int (n : Int))) (h1 : 1 ≤ n) (h2 : n ≤ 1000) : Ed c G (tOp (rRepN c.K) ta tb) ρ (.tuple (List.replicate n d)) := fun m0 M H σ E Q q =>
  ha m0 M H σ E _ fun v H1 d1 f1 j1 r1 e1 => hb m0 M H1 σ (E.fx f1 j1) _ fun u H2 d2 f2 j2 r2 e2 => by
    subst e1 e2
    have k1 := E.k.fx f1 j1
    have k2 := k1.fx f2 j2
    have r3 := rv_mono (k1.hidS f2) r1
    obtain ⟨a, vs, e, g1, g2⟩ := (show Rs c G M H2 v _ from .inl r3).tup
    by_cases hn : n = 1
    · subst hn
      exact .inl ⟨a, vs, e, r2.int, g1, by rw [← e]; exact q v H2 _ (f1.trans f2) j2 r3 rfl⟩
    · have hv := dpa_len g2
      refine .inr ⟨a, n, vs, e, r2.int, g1, fun z => ?_, by omega, by omega, by rw [hv]; exact Nat.le_of_ble_eq_true rfl, fun p np => ?_⟩
      · rw [z] at hv; cases hv
      · have z := rv_newT k2 np (flat_rep g2 n)
        have e4 : (List.replicate n [d]).flatten = List.replicate n d := flat_one n d
        rw [e4] at z
        exact q _ _ _ ((f1.trans f2).trans (Fx.of (same_new np))) (k2.jnew np) z rfl
end
end JQ

-- part Tx
set_option Elab.async false
set_option linter.all false
set_option maxRecDepth 100000
set_option maxHeartbeats 2000000

/-! The text by places; what the top has written. -/
namespace JQ
open PySem PySem.Spec PyProof.Rows L2
def top (i : Nat) : Stmt := PySem.Challenge.pw_joinhall_k28_whole_least_cuts.main.body.getD i (.Pass ⟨0, 0, 0, 0⟩)
abbrev s_is_name : Stmt := top 17
def d_is_name : He.DefD := ⟨("is_name", none), "is_name", "is_name", defArgs s_is_name, defBody s_is_name, defScope s_is_name, [], []⟩
abbrev s_right_row : Stmt := top 18
def d_right_row : He.DefD := ⟨("right_row", none), "right_row", "right_row", defArgs s_right_row, defBody s_right_row, defScope s_right_row, [], []⟩
abbrev s_ascend : Stmt := top 19
def d_ascend : He.DefD := ⟨("ascend", none), "ascend", "ascend", defArgs s_ascend, defBody s_ascend, defScope s_ascend, [], []⟩
abbrev s_right_table : Stmt := top 20
def d_right_table : He.DefD := ⟨("right_table", none), "right_table", "right_table", defArgs s_right_table, defBody s_right_table, defScope s_right_table, [], []⟩
abbrev s_check_catalogue : Stmt := top 21
def d_check_catalogue : He.DefD := ⟨("check_catalogue", none), "check_catalogue", "check_catalogue", defArgs s_check_catalogue, defBody s_check_catalogue, defScope s_check_catalogue, [], []⟩
abbrev s_place_of : Stmt := top 22
def d_place_of : He.DefD := ⟨("place_of", none), "place_of", "place_of", defArgs s_place_of, defBody s_place_of, defScope s_place_of, [], []⟩
abbrev s_table_at : Stmt := top 23
def d_table_at : He.DefD := ⟨("table_at", none), "table_at", "table_at", defArgs s_table_at, defBody s_table_at, defScope s_table_at, [], []⟩
abbrev s_with_rows : Stmt := top 24
def d_with_rows : He.DefD := ⟨("with_rows", none), "with_rows", "with_rows", defArgs s_with_rows, defBody s_with_rows, defScope s_with_rows, [], []⟩
abbrev s_without_row : Stmt := top 25
def d_without_row : He.DefD := ⟨("without_row", none), "without_row", "without_row", defArgs s_without_row, defBody s_without_row, defScope s_without_row, [], []⟩
abbrev s_all_variables : Stmt := top 30
def d_all_variables : He.DefD := ⟨("all_variables", none), "all_variables", "all_variables", defArgs s_all_variables, defBody s_all_variables, defScope s_all_variables, [], []⟩
abbrev s_right_atoms : Stmt := top 31
def d_right_atoms : He.DefD := ⟨("right_atoms", none), "right_atoms", "right_atoms", defArgs s_right_atoms, defBody s_right_atoms, defScope s_right_atoms, [], []⟩
abbrev s_check_pattern : Stmt := top 32
def d_check_pattern : He.DefD := ⟨("check_pattern", none), "check_pattern", "check_pattern", defArgs s_check_pattern, defBody s_check_pattern, defScope s_check_pattern, [], []⟩
abbrev s_check_fit : Stmt := top 33
def d_check_fit : He.DefD := ⟨("check_fit", none), "check_fit", "check_fit", defArgs s_check_fit, defBody s_check_fit, defScope s_check_fit, [], []⟩
abbrev s_Trie_init : Stmt := inClass (top 35) 0
def d_Trie_init : He.DefD := ⟨("Trie", some "__init__"), "__init__", "Trie.__init__", defArgs s_Trie_init, defBody s_Trie_init, defScope s_Trie_init, [], []⟩
abbrev s_Trie_put : Stmt := inClass (top 35) 1
def d_Trie_put : He.DefD := ⟨("Trie", some "put"), "put", "Trie.put", defArgs s_Trie_put, defBody s_Trie_put, defScope s_Trie_put, [], []⟩
abbrev s_Trie_node_at : Stmt := inClass (top 35) 3
def d_Trie_node_at : He.DefD := ⟨("Trie", some "node_at"), "node_at", "Trie.node_at", defArgs s_Trie_node_at, defBody s_Trie_node_at, defScope s_Trie_node_at, [], []⟩
abbrev s_Trie_children : Stmt := inClass (top 35) 4
def d_Trie_children : He.DefD := ⟨("Trie", some "children"), "children", "Trie.children", defArgs s_Trie_children, defBody s_Trie_children, defScope s_Trie_children, [], []⟩
abbrev s_place_from : Stmt := top 36
def d_place_from : He.DefD := ⟨("place_from", none), "place_from", "place_from", defArgs s_place_from, defBody s_place_from, defScope s_place_from, [], []⟩
abbrev s_common : Stmt := top 37
def d_common : He.DefD := ⟨("common", none), "common", "common", defArgs s_common, defBody s_common, defScope s_common, [], []⟩
abbrev s_Branch_init : Stmt := inClass (top 40) 0
def d_Branch_init : He.DefD := ⟨("Branch", some "__init__"), "__init__", "Branch.__init__", defArgs s_Branch_init, defBody s_Branch_init, defScope s_Branch_init, [], []⟩
abbrev s_Branch_agrees : Stmt := inClass (top 40) 1
def d_Branch_agrees : He.DefD := ⟨("Branch", some "agrees"), "agrees", "Branch.agrees", defArgs s_Branch_agrees, defBody s_Branch_agrees, defScope s_Branch_agrees, [], []⟩
abbrev s_Branch_choices : Stmt := inClass (top 40) 2
def d_Branch_choices : He.DefD := ⟨("Branch", some "choices"), "choices", "Branch.choices", defArgs s_Branch_choices, defBody s_Branch_choices, defScope s_Branch_choices, [], []⟩
abbrev s_Search_init : Stmt := inClass (top 41) 0
def d_Search_init : He.DefD := ⟨("Search", some "__init__"), "__init__", "Search.__init__", defArgs s_Search_init, defBody s_Search_init, defScope s_Search_init, [], []⟩
abbrev s_Search_next_ones : Stmt := inClass (top 41) 1
def d_Search_next_ones : He.DefD := ⟨("Search", some "next_ones"), "next_ones", "Search.next_ones", defArgs s_Search_next_ones, defBody s_Search_next_ones, defScope s_Search_next_ones, [], []⟩
abbrev s_Search_first_level : Stmt := inClass (top 41) 2
def d_Search_first_level : He.DefD := ⟨("Search", some "first_level"), "first_level", "Search.first_level", defArgs s_Search_first_level, defBody s_Search_first_level, defScope s_Search_first_level, [], []⟩
abbrev s_Search_deeper : Stmt := inClass (top 41) 3
def d_Search_deeper : He.DefD := ⟨("Search", some "deeper"), "deeper", "Search.deeper", defArgs s_Search_deeper, defBody s_Search_deeper, defScope s_Search_deeper, [], []⟩
abbrev s_joined : Stmt := top 42
def d_joined : He.DefD := ⟨("joined", none), "joined", "joined", defArgs s_joined, defBody s_joined, defScope s_joined, [], []⟩
abbrev s_witnesses : Stmt := top 45
def d_witnesses : He.DefD := ⟨("witnesses", none), "witnesses", "witnesses", defArgs s_witnesses, defBody s_witnesses, defScope s_witnesses, [], []⟩
abbrev s_meets_all : Stmt := top 46
def d_meets_all : He.DefD := ⟨("meets_all", none), "meets_all", "meets_all", defArgs s_meets_all, defBody s_meets_all, defScope s_meets_all, [], []⟩
abbrev s_facts_in : Stmt := top 47
def d_facts_in : He.DefD := ⟨("facts_in", none), "facts_in", "facts_in", defArgs s_facts_in, defBody s_facts_in, defScope s_facts_in, [], []⟩
abbrev s_choices : Stmt := top 48
def d_choices : He.DefD := ⟨("choices", none), "choices", "choices", defArgs s_choices, defBody s_choices, defScope s_choices, [], []⟩
abbrev s_least_cut : Stmt := top 49
def d_least_cut : He.DefD := ⟨("least_cut", none), "least_cut", "least_cut", defArgs s_least_cut, defBody s_least_cut, defScope s_least_cut, [], []⟩
abbrev s_check_cut : Stmt := top 50
def d_check_cut : He.DefD := ⟨("check_cut", none), "check_cut", "check_cut", defArgs s_check_cut, defBody s_check_cut, defScope s_check_cut, [], []⟩
abbrev s_agreed : Stmt := top 52
def d_agreed : He.DefD := ⟨("agreed", none), "agreed", "agreed", defArgs s_agreed, defBody s_agreed, defScope s_agreed, [], []⟩
abbrev s_plain_assignments : Stmt := top 53
def d_plain_assignments : He.DefD := ⟨("plain_assignments", none), "plain_assignments", "plain_assignments", defArgs s_plain_assignments, defBody s_plain_assignments, defScope s_plain_assignments, [], []⟩
abbrev s_plain_answers : Stmt := top 54
def d_plain_answers : He.DefD := ⟨("plain_answers", none), "plain_answers", "plain_answers", defArgs s_plain_answers, defBody s_plain_answers, defScope s_plain_answers, [], []⟩
abbrev s__law_begin : Stmt := top 56
def d__law_begin : He.DefD := ⟨("_law_begin", none), "_law_begin", "_law_begin", defArgs s__law_begin, defBody s__law_begin, defScope s__law_begin, [], []⟩
abbrev s__law_take : Stmt := top 57
def d__law_take : He.DefD := ⟨("_law_take", none), "_law_take", "_law_take", defArgs s__law_take, defBody s__law_take, defScope s__law_take, [], []⟩
abbrev s__law_rows : Stmt := top 58
def d__law_rows : He.DefD := ⟨("_law_rows", none), "_law_rows", "_law_rows", defArgs s__law_rows, defBody s__law_rows, defScope s__law_rows, [], []⟩
abbrev s__law_catalogue : Stmt := top 59
def d__law_catalogue : He.DefD := ⟨("_law_catalogue", none), "_law_catalogue", "_law_catalogue", defArgs s__law_catalogue, defBody s__law_catalogue, defScope s__law_catalogue, [], []⟩
abbrev s__law_table : Stmt := top 60
def d__law_table : He.DefD := ⟨("_law_table", none), "_law_table", "_law_table", defArgs s__law_table, defBody s__law_table, defScope s__law_table, [], []⟩
abbrev s__law_variables : Stmt := top 61
def d__law_variables : He.DefD := ⟨("_law_variables", none), "_law_variables", "_law_variables", defArgs s__law_variables, defBody s__law_variables, defScope s__law_variables, [], []⟩
abbrev s__law_pattern : Stmt := top 62
def d__law_pattern : He.DefD := ⟨("_law_pattern", none), "_law_pattern", "_law_pattern", defArgs s__law_pattern, defBody s__law_pattern, defScope s__law_pattern, [], []⟩
abbrev s__law_agrees : Stmt := top 63
def d__law_agrees : He.DefD := ⟨("_law_agrees", none), "_law_agrees", "_law_agrees", defArgs s__law_agrees, defBody s__law_agrees, defScope s__law_agrees, [], []⟩
abbrev s__law_partials : Stmt := top 64
def d__law_partials : He.DefD := ⟨("_law_partials", none), "_law_partials", "_law_partials", defArgs s__law_partials, defBody s__law_partials, defScope s__law_partials, [], []⟩
abbrev s__law_assignments : Stmt := top 65
def d__law_assignments : He.DefD := ⟨("_law_assignments", none), "_law_assignments", "_law_assignments", defArgs s__law_assignments, defBody s__law_assignments, defScope s__law_assignments, [], []⟩
abbrev s__law_named : Stmt := top 66
def d__law_named : He.DefD := ⟨("_law_named", none), "_law_named", "_law_named", defArgs s__law_named, defBody s__law_named, defScope s__law_named, [], []⟩
abbrev s__law_facts : Stmt := top 67
def d__law_facts : He.DefD := ⟨("_law_facts", none), "_law_facts", "_law_facts", defArgs s__law_facts, defBody s__law_facts, defScope s__law_facts, [], []⟩
abbrev s__law_cut : Stmt := top 68
def d__law_cut : He.DefD := ⟨("_law_cut", none), "_law_cut", "_law_cut", defArgs s__law_cut, defBody s__law_cut, defScope s__law_cut, [], []⟩
abbrev s__law_gone : Stmt := top 69
def d__law_gone : He.DefD := ⟨("_law_gone", none), "_law_gone", "_law_gone", defArgs s__law_gone, defBody s__law_gone, defScope s__law_gone, [], []⟩
abbrev s__law_sets : Stmt := top 70
def d__law_sets : He.DefD := ⟨("_law_sets", none), "_law_sets", "_law_sets", defArgs s__law_sets, defBody s__law_sets, defScope s__law_sets, [], []⟩
abbrev s_law : Stmt := top 71
def d_law : He.DefD := ⟨("law", none), "law", "law", defArgs s_law, defBody s_law, defScope s_law, [], []⟩
def fn : List He.DefD := [d_is_name, d_right_row, d_ascend, d_right_table, d_check_catalogue, d_place_of, d_table_at, d_with_rows, d_without_row, d_all_variables, d_right_atoms, d_check_pattern, d_check_fit, d_Trie_init, d_Trie_put, d_Trie_node_at, d_Trie_children, d_place_from, d_common, d_Branch_init, d_Branch_agrees, d_Branch_choices, d_Search_init, d_Search_next_ones, d_Search_first_level, d_Search_deeper, d_joined, d_witnesses, d_meets_all, d_facts_in, d_choices, d_least_cut, d_check_cut, d_agreed, d_plain_assignments, d_plain_answers, d__law_begin, d__law_take, d__law_rows, d__law_catalogue, d__law_table, d__law_variables, d__law_pattern, d__law_agrees, d__law_partials, d__law_assignments, d__law_named, d__law_facts, d__law_cut, d__law_gone, d__law_sets, d_law]
def fa : List He.Fa := [.glo "is_name", .glo "right_row", .glo "ascend", .glo "right_table", .glo "check_catalogue", .glo "place_of", .glo "table_at", .glo "with_rows", .glo "without_row", .glo "all_variables", .glo "right_atoms", .glo "check_pattern", .glo "check_fit", .glo "place_from", .glo "common", .glo "joined", .glo "witnesses", .glo "meets_all", .glo "facts_in", .glo "choices", .glo "least_cut", .glo "check_cut", .glo "agreed", .glo "plain_assignments", .glo "plain_answers", .glo "_law_begin", .glo "_law_take", .glo "_law_rows", .glo "_law_catalogue", .glo "_law_table", .glo "_law_variables", .glo "_law_pattern", .glo "_law_agrees", .glo "_law_partials", .glo "_law_assignments", .glo "_law_named", .glo "_law_facts", .glo "_law_cut", .glo "_law_gone", .glo "_law_sets", .glo "law", .int "TABLE_LIMIT" 8, .int "ROW_LIMIT" 300, .int "COLUMN_LIMIT" 4, .int "NUMBER_LIMIT" 999999999, .int "NAME_LIMIT" 20, .int "ATOM_LIMIT" 8, .int "VARIABLE_LIMIT" 8, .int "PLACE_LIMIT" 4, .int "VISIT_LIMIT" 20000, .int "FACT_LIMIT" 16, .str "LETTERS" "abcdefghijklmnopqrstuvwxyz", .str "NAME_SIGNS" "abcdefghijklmnopqrstuvwxyz0123456789", .glo "Trie", .cls "Trie", .mkr "Trie", .meth "Trie" "put", .meth "Trie" "node_at", .meth "Trie" "children", .noat "Trie" "top", .noat "Trie" "size", .noat "Trie" "depth", .glo "Branch", .cls "Branch", .mkr "Branch", .meth "Branch" "agrees", .meth "Branch" "choices", .noat "Branch" "places", .noat "Branch" "empty", .noat "Branch" "trie", .glo "Search", .cls "Search", .mkr "Search", .meth "Search" "next_ones", .meth "Search" "first_level", .meth "Search" "deeper", .noat "Search" "many", .noat "Search" "branches", .noat "Search" "dead", .free "len", .free "range", .free "all", .free "any", .free "sorted", .free "set", .free "tuple", .free "list", .free "min", .free "abs", .free "int", .free "dict", .free "isinstance", .free "str", .free "bool", .glo "TooLarge"]
structure Tx (K : PySem.W.Frag) (mg : Str → Option Value) : Prop where
  m_is_name : mg "is_name" = some (.ref (He.ga K "is_name"))
  m_right_row : mg "right_row" = some (.ref (He.ga K "right_row"))
  m_ascend : mg "ascend" = some (.ref (He.ga K "ascend"))
  m_right_table : mg "right_table" = some (.ref (He.ga K "right_table"))
  m_check_catalogue : mg "check_catalogue" = some (.ref (He.ga K "check_catalogue"))
  m_place_of : mg "place_of" = some (.ref (He.ga K "place_of"))
  m_table_at : mg "table_at" = some (.ref (He.ga K "table_at"))
  m_with_rows : mg "with_rows" = some (.ref (He.ga K "with_rows"))
  m_without_row : mg "without_row" = some (.ref (He.ga K "without_row"))
  m_all_variables : mg "all_variables" = some (.ref (He.ga K "all_variables"))
  m_right_atoms : mg "right_atoms" = some (.ref (He.ga K "right_atoms"))
  m_check_pattern : mg "check_pattern" = some (.ref (He.ga K "check_pattern"))
  m_check_fit : mg "check_fit" = some (.ref (He.ga K "check_fit"))
  m_place_from : mg "place_from" = some (.ref (He.ga K "place_from"))
  m_common : mg "common" = some (.ref (He.ga K "common"))
  m_joined : mg "joined" = some (.ref (He.ga K "joined"))
  m_witnesses : mg "witnesses" = some (.ref (He.ga K "witnesses"))
  m_meets_all : mg "meets_all" = some (.ref (He.ga K "meets_all"))
  m_facts_in : mg "facts_in" = some (.ref (He.ga K "facts_in"))
  m_choices : mg "choices" = some (.ref (He.ga K "choices"))
  m_least_cut : mg "least_cut" = some (.ref (He.ga K "least_cut"))
  m_check_cut : mg "check_cut" = some (.ref (He.ga K "check_cut"))
  m_agreed : mg "agreed" = some (.ref (He.ga K "agreed"))
  m_plain_assignments : mg "plain_assignments" = some (.ref (He.ga K "plain_assignments"))
  m_plain_answers : mg "plain_answers" = some (.ref (He.ga K "plain_answers"))
  m__law_begin : mg "_law_begin" = some (.ref (He.ga K "_law_begin"))
  m__law_take : mg "_law_take" = some (.ref (He.ga K "_law_take"))
  m__law_rows : mg "_law_rows" = some (.ref (He.ga K "_law_rows"))
  m__law_catalogue : mg "_law_catalogue" = some (.ref (He.ga K "_law_catalogue"))
  m__law_table : mg "_law_table" = some (.ref (He.ga K "_law_table"))
  m__law_variables : mg "_law_variables" = some (.ref (He.ga K "_law_variables"))
  m__law_pattern : mg "_law_pattern" = some (.ref (He.ga K "_law_pattern"))
  m__law_agrees : mg "_law_agrees" = some (.ref (He.ga K "_law_agrees"))
  m__law_partials : mg "_law_partials" = some (.ref (He.ga K "_law_partials"))
  m__law_assignments : mg "_law_assignments" = some (.ref (He.ga K "_law_assignments"))
  m__law_named : mg "_law_named" = some (.ref (He.ga K "_law_named"))
  m__law_facts : mg "_law_facts" = some (.ref (He.ga K "_law_facts"))
  m__law_cut : mg "_law_cut" = some (.ref (He.ga K "_law_cut"))
  m__law_gone : mg "_law_gone" = some (.ref (He.ga K "_law_gone"))
  m__law_sets : mg "_law_sets" = some (.ref (He.ga K "_law_sets"))
  m_law : mg "law" = some (.ref (He.ga K "law"))
  g_TABLE_LIMIT : ∃ u, mg "TABLE_LIMIT" = some u ∧ RelV (.int 8) u
  g_ROW_LIMIT : ∃ u, mg "ROW_LIMIT" = some u ∧ RelV (.int 300) u
  g_COLUMN_LIMIT : ∃ u, mg "COLUMN_LIMIT" = some u ∧ RelV (.int 4) u
  g_NUMBER_LIMIT : ∃ u, mg "NUMBER_LIMIT" = some u ∧ RelV (.int 999999999) u
  g_NAME_LIMIT : ∃ u, mg "NAME_LIMIT" = some u ∧ RelV (.int 20) u
  g_ATOM_LIMIT : ∃ u, mg "ATOM_LIMIT" = some u ∧ RelV (.int 8) u
  g_VARIABLE_LIMIT : ∃ u, mg "VARIABLE_LIMIT" = some u ∧ RelV (.int 8) u
  g_PLACE_LIMIT : ∃ u, mg "PLACE_LIMIT" = some u ∧ RelV (.int 4) u
  g_VISIT_LIMIT : ∃ u, mg "VISIT_LIMIT" = some u ∧ RelV (.int 20000) u
  g_FACT_LIMIT : ∃ u, mg "FACT_LIMIT" = some u ∧ RelV (.int 16) u
  g_LETTERS : ∃ u, mg "LETTERS" = some u ∧ RelV (.str "abcdefghijklmnopqrstuvwxyz") u
  g_NAME_SIGNS : ∃ u, mg "NAME_SIGNS" = some u ∧ RelV (.str "abcdefghijklmnopqrstuvwxyz0123456789") u
  m_Trie : mg "Trie" = some (.ref (He.ga K "Trie"))
  cl_Trie : Cls K (He.ga K "Trie")
  mk_Trie : Mk K (He.ga K "Trie") (He.ma K (He.ga K "Trie") "__init__")
  mt_Trie_put : Meth K (He.ga K "Trie") "put" (He.ma K (He.ga K "Trie") "put")
  mt_Trie_node_at : Meth K (He.ga K "Trie") "node_at" (He.ma K (He.ga K "Trie") "node_at")
  mt_Trie_children : Meth K (He.ga K "Trie") "children" (He.ma K (He.ga K "Trie") "children")
  no_Trie_top : NoAttr K (He.ga K "Trie") "top"
  no_Trie_size : NoAttr K (He.ga K "Trie") "size"
  no_Trie_depth : NoAttr K (He.ga K "Trie") "depth"
  m_Branch : mg "Branch" = some (.ref (He.ga K "Branch"))
  cl_Branch : Cls K (He.ga K "Branch")
  mk_Branch : Mk K (He.ga K "Branch") (He.ma K (He.ga K "Branch") "__init__")
  mt_Branch_agrees : Meth K (He.ga K "Branch") "agrees" (He.ma K (He.ga K "Branch") "agrees")
  mt_Branch_choices : Meth K (He.ga K "Branch") "choices" (He.ma K (He.ga K "Branch") "choices")
  no_Branch_places : NoAttr K (He.ga K "Branch") "places"
  no_Branch_empty : NoAttr K (He.ga K "Branch") "empty"
  no_Branch_trie : NoAttr K (He.ga K "Branch") "trie"
  m_Search : mg "Search" = some (.ref (He.ga K "Search"))
  cl_Search : Cls K (He.ga K "Search")
  mk_Search : Mk K (He.ga K "Search") (He.ma K (He.ga K "Search") "__init__")
  mt_Search_next_ones : Meth K (He.ga K "Search") "next_ones" (He.ma K (He.ga K "Search") "next_ones")
  mt_Search_first_level : Meth K (He.ga K "Search") "first_level" (He.ma K (He.ga K "Search") "first_level")
  mt_Search_deeper : Meth K (He.ga K "Search") "deeper" (He.ma K (He.ga K "Search") "deeper")
  no_Search_many : NoAttr K (He.ga K "Search") "many"
  no_Search_branches : NoAttr K (He.ga K "Search") "branches"
  no_Search_dead : NoAttr K (He.ga K "Search") "dead"
  f_len : mg "len" = none
  f_range : mg "range" = none
  f_all : mg "all" = none
  f_any : mg "any" = none
  f_sorted : mg "sorted" = none
  f_set : mg "set" = none
  f_tuple : mg "tuple" = none
  f_list : mg "list" = none
  f_min : mg "min" = none
  f_abs : mg "abs" = none
  f_int : mg "int" = none
  f_dict : mg "dict" = none
  f_isinstance : mg "isinstance" = none
  f_str : mg "str" = none
  f_bool : mg "bool" = none
  x_TooLarge : mg "TooLarge" = some (.ref (He.ga K "TooLarge"))
theorem tx_of {K : PySem.W.Frag} {h : Heap} {mg : Str → Option Value} (X : K.In h) (G : h.Ns mainGlobals mg) (c : He.SaysD fa fn K) : Tx K mg where
  m_is_name := He.glo_ok X G (c.fact 0 (f := .glo "is_name") rfl)
  m_right_row := He.glo_ok X G (c.fact 1 (f := .glo "right_row") rfl)
  m_ascend := He.glo_ok X G (c.fact 2 (f := .glo "ascend") rfl)
  m_right_table := He.glo_ok X G (c.fact 3 (f := .glo "right_table") rfl)
  m_check_catalogue := He.glo_ok X G (c.fact 4 (f := .glo "check_catalogue") rfl)
  m_place_of := He.glo_ok X G (c.fact 5 (f := .glo "place_of") rfl)
  m_table_at := He.glo_ok X G (c.fact 6 (f := .glo "table_at") rfl)
  m_with_rows := He.glo_ok X G (c.fact 7 (f := .glo "with_rows") rfl)
  m_without_row := He.glo_ok X G (c.fact 8 (f := .glo "without_row") rfl)
  m_all_variables := He.glo_ok X G (c.fact 9 (f := .glo "all_variables") rfl)
  m_right_atoms := He.glo_ok X G (c.fact 10 (f := .glo "right_atoms") rfl)
  m_check_pattern := He.glo_ok X G (c.fact 11 (f := .glo "check_pattern") rfl)
  m_check_fit := He.glo_ok X G (c.fact 12 (f := .glo "check_fit") rfl)
  m_place_from := He.glo_ok X G (c.fact 13 (f := .glo "place_from") rfl)
  m_common := He.glo_ok X G (c.fact 14 (f := .glo "common") rfl)
  m_joined := He.glo_ok X G (c.fact 15 (f := .glo "joined") rfl)
  m_witnesses := He.glo_ok X G (c.fact 16 (f := .glo "witnesses") rfl)
  m_meets_all := He.glo_ok X G (c.fact 17 (f := .glo "meets_all") rfl)
  m_facts_in := He.glo_ok X G (c.fact 18 (f := .glo "facts_in") rfl)
  m_choices := He.glo_ok X G (c.fact 19 (f := .glo "choices") rfl)
  m_least_cut := He.glo_ok X G (c.fact 20 (f := .glo "least_cut") rfl)
  m_check_cut := He.glo_ok X G (c.fact 21 (f := .glo "check_cut") rfl)
  m_agreed := He.glo_ok X G (c.fact 22 (f := .glo "agreed") rfl)
  m_plain_assignments := He.glo_ok X G (c.fact 23 (f := .glo "plain_assignments") rfl)
  m_plain_answers := He.glo_ok X G (c.fact 24 (f := .glo "plain_answers") rfl)
  m__law_begin := He.glo_ok X G (c.fact 25 (f := .glo "_law_begin") rfl)
  m__law_take := He.glo_ok X G (c.fact 26 (f := .glo "_law_take") rfl)
  m__law_rows := He.glo_ok X G (c.fact 27 (f := .glo "_law_rows") rfl)
  m__law_catalogue := He.glo_ok X G (c.fact 28 (f := .glo "_law_catalogue") rfl)
  m__law_table := He.glo_ok X G (c.fact 29 (f := .glo "_law_table") rfl)
  m__law_variables := He.glo_ok X G (c.fact 30 (f := .glo "_law_variables") rfl)
  m__law_pattern := He.glo_ok X G (c.fact 31 (f := .glo "_law_pattern") rfl)
  m__law_agrees := He.glo_ok X G (c.fact 32 (f := .glo "_law_agrees") rfl)
  m__law_partials := He.glo_ok X G (c.fact 33 (f := .glo "_law_partials") rfl)
  m__law_assignments := He.glo_ok X G (c.fact 34 (f := .glo "_law_assignments") rfl)
  m__law_named := He.glo_ok X G (c.fact 35 (f := .glo "_law_named") rfl)
  m__law_facts := He.glo_ok X G (c.fact 36 (f := .glo "_law_facts") rfl)
  m__law_cut := He.glo_ok X G (c.fact 37 (f := .glo "_law_cut") rfl)
  m__law_gone := He.glo_ok X G (c.fact 38 (f := .glo "_law_gone") rfl)
  m__law_sets := He.glo_ok X G (c.fact 39 (f := .glo "_law_sets") rfl)
  m_law := He.glo_ok X G (c.fact 40 (f := .glo "law") rfl)
  g_TABLE_LIMIT := by obtain ⟨t, e⟩ := He.int_ok X G (c.fact 41 (f := .int "TABLE_LIMIT" 8) rfl); exact ⟨_, e, ⟨t, rfl⟩⟩
  g_ROW_LIMIT := by obtain ⟨t, e⟩ := He.int_ok X G (c.fact 42 (f := .int "ROW_LIMIT" 300) rfl); exact ⟨_, e, ⟨t, rfl⟩⟩
  g_COLUMN_LIMIT := by obtain ⟨t, e⟩ := He.int_ok X G (c.fact 43 (f := .int "COLUMN_LIMIT" 4) rfl); exact ⟨_, e, ⟨t, rfl⟩⟩
  g_NUMBER_LIMIT := by obtain ⟨t, e⟩ := He.int_ok X G (c.fact 44 (f := .int "NUMBER_LIMIT" 999999999) rfl); exact ⟨_, e, ⟨t, rfl⟩⟩
  g_NAME_LIMIT := by obtain ⟨t, e⟩ := He.int_ok X G (c.fact 45 (f := .int "NAME_LIMIT" 20) rfl); exact ⟨_, e, ⟨t, rfl⟩⟩
  g_ATOM_LIMIT := by obtain ⟨t, e⟩ := He.int_ok X G (c.fact 46 (f := .int "ATOM_LIMIT" 8) rfl); exact ⟨_, e, ⟨t, rfl⟩⟩
  g_VARIABLE_LIMIT := by obtain ⟨t, e⟩ := He.int_ok X G (c.fact 47 (f := .int "VARIABLE_LIMIT" 8) rfl); exact ⟨_, e, ⟨t, rfl⟩⟩
  g_PLACE_LIMIT := by obtain ⟨t, e⟩ := He.int_ok X G (c.fact 48 (f := .int "PLACE_LIMIT" 4) rfl); exact ⟨_, e, ⟨t, rfl⟩⟩
  g_VISIT_LIMIT := by obtain ⟨t, e⟩ := He.int_ok X G (c.fact 49 (f := .int "VISIT_LIMIT" 20000) rfl); exact ⟨_, e, ⟨t, rfl⟩⟩
  g_FACT_LIMIT := by obtain ⟨t, e⟩ := He.int_ok X G (c.fact 50 (f := .int "FACT_LIMIT" 16) rfl); exact ⟨_, e, ⟨t, rfl⟩⟩
  g_LETTERS := by obtain ⟨t, e⟩ := He.str_ok X G (c.fact 51 (f := .str "LETTERS" "abcdefghijklmnopqrstuvwxyz") rfl); exact ⟨_, e, ⟨t, rfl⟩⟩
  g_NAME_SIGNS := by obtain ⟨t, e⟩ := He.str_ok X G (c.fact 52 (f := .str "NAME_SIGNS" "abcdefghijklmnopqrstuvwxyz0123456789") rfl); exact ⟨_, e, ⟨t, rfl⟩⟩
  m_Trie := He.glo_ok X G (c.fact 53 (f := .glo "Trie") rfl)
  cl_Trie := He.cls_ok (c.fact 54 (f := .cls "Trie") rfl)
  mk_Trie := He.mkr_ok (c.fact 55 (f := .mkr "Trie") rfl)
  mt_Trie_put := He.meth_ok (c.fact 56 (f := .meth "Trie" "put") rfl)
  mt_Trie_node_at := He.meth_ok (c.fact 57 (f := .meth "Trie" "node_at") rfl)
  mt_Trie_children := He.meth_ok (c.fact 58 (f := .meth "Trie" "children") rfl)
  no_Trie_top := He.noat_ok (c.fact 59 (f := .noat "Trie" "top") rfl)
  no_Trie_size := He.noat_ok (c.fact 60 (f := .noat "Trie" "size") rfl)
  no_Trie_depth := He.noat_ok (c.fact 61 (f := .noat "Trie" "depth") rfl)
  m_Branch := He.glo_ok X G (c.fact 62 (f := .glo "Branch") rfl)
  cl_Branch := He.cls_ok (c.fact 63 (f := .cls "Branch") rfl)
  mk_Branch := He.mkr_ok (c.fact 64 (f := .mkr "Branch") rfl)
  mt_Branch_agrees := He.meth_ok (c.fact 65 (f := .meth "Branch" "agrees") rfl)
  mt_Branch_choices := He.meth_ok (c.fact 66 (f := .meth "Branch" "choices") rfl)
  no_Branch_places := He.noat_ok (c.fact 67 (f := .noat "Branch" "places") rfl)
  no_Branch_empty := He.noat_ok (c.fact 68 (f := .noat "Branch" "empty") rfl)
  no_Branch_trie := He.noat_ok (c.fact 69 (f := .noat "Branch" "trie") rfl)
  m_Search := He.glo_ok X G (c.fact 70 (f := .glo "Search") rfl)
  cl_Search := He.cls_ok (c.fact 71 (f := .cls "Search") rfl)
  mk_Search := He.mkr_ok (c.fact 72 (f := .mkr "Search") rfl)
  mt_Search_next_ones := He.meth_ok (c.fact 73 (f := .meth "Search" "next_ones") rfl)
  mt_Search_first_level := He.meth_ok (c.fact 74 (f := .meth "Search" "first_level") rfl)
  mt_Search_deeper := He.meth_ok (c.fact 75 (f := .meth "Search" "deeper") rfl)
  no_Search_many := He.noat_ok (c.fact 76 (f := .noat "Search" "many") rfl)
  no_Search_branches := He.noat_ok (c.fact 77 (f := .noat "Search" "branches") rfl)
  no_Search_dead := He.noat_ok (c.fact 78 (f := .noat "Search" "dead") rfl)
  f_len := He.free_ok X G (c.fact 79 (f := .free "len") rfl)
  f_range := He.free_ok X G (c.fact 80 (f := .free "range") rfl)
  f_all := He.free_ok X G (c.fact 81 (f := .free "all") rfl)
  f_any := He.free_ok X G (c.fact 82 (f := .free "any") rfl)
  f_sorted := He.free_ok X G (c.fact 83 (f := .free "sorted") rfl)
  f_set := He.free_ok X G (c.fact 84 (f := .free "set") rfl)
  f_tuple := He.free_ok X G (c.fact 85 (f := .free "tuple") rfl)
  f_list := He.free_ok X G (c.fact 86 (f := .free "list") rfl)
  f_min := He.free_ok X G (c.fact 87 (f := .free "min") rfl)
  f_abs := He.free_ok X G (c.fact 88 (f := .free "abs") rfl)
  f_int := He.free_ok X G (c.fact 89 (f := .free "int") rfl)
  f_dict := He.free_ok X G (c.fact 90 (f := .free "dict") rfl)
  f_isinstance := He.free_ok X G (c.fact 91 (f := .free "isinstance") rfl)
  f_str := He.free_ok X G (c.fact 92 (f := .free "str") rfl)
  f_bool := He.free_ok X G (c.fact 93 (f := .free "bool") rfl)
  x_TooLarge := He.glo_ok X G (c.fact 94 (f := .glo "TooLarge") rfl)
theorem room65 {k : Nat} {A : Around} (r : Room k A) : A.units + 65 < cLine := by have := r.un; omega
end JQ

-- part Qa
set_option Elab.async false
set_option linter.all false
set_option maxRecDepth 100000
set_option maxHeartbeats 2000000
/-! Rows, tables, facts: as data; their order. -/
namespace JQ
open PySem PySem.Spec PyProof.Rows L2
abbrev Row := List Int
abbrev Tab := Str × Nat × List Row
abbrev Cat := List Tab
abbrev Atom := Str × List Str
abbrev Pat := List Str × List Atom
abbrev Fact := Str × Row
def dRow (r : Row) : PyData := .tuple (r.map .int)
def dRows (rs : List Row) : PyData := .tuple (rs.map dRow)
def dTab (t : Tab) : PyData := .tuple [.str t.1, .int (t.2.1 : Int), dRows t.2.2]
def dCat (c : Cat) : PyData := .tuple (c.map dTab)
def dVars (vs : List Str) : PyData := .tuple (vs.map .str)
def dAtom (a : Atom) : PyData := .tuple [.str a.1, dVars a.2]
def dPat (p : Pat) : PyData := .tuple [dVars p.1, .tuple (p.2.map dAtom)]
def dFact (f : Fact) : PyData := .tuple [.str f.1, dRow f.2]
def dFacts (fs : List Fact) : PyData := .tuple (fs.map dFact)
/-- the pattern, its tuples of texts known -/
def nAtom (a : Atom) : DV := .tp [.p (.str a.1), .tN a.2]
def nPat (p : Pat) : DV := .tp [.p (dVars p.1), .tp (p.2.map nAtom)]
theorem rv_nAtom {c : Cf} {H : Hp} {v : V} {a : Atom} (h : Rv c H v (nAtom a)) : Rv c H v (.p (dAtom a)) :=
  rv_tp h (.cons (fun _ h => h) (.cons (fun _ h => rva_tN h) .nil))
theorem rv_nPat {c : Cf} {H : Hp} {v : V} {p : Pat} (h : Rv c H v (nPat p)) : Rv c H v (.p (dPat p)) :=
  rv_tp h (.cons (fun _ h => h) (.cons (fun _ h => rv_tp h (cv_map p.2 fun _ _ _ h => rv_nAtom h)) .nil))
/-- an encoding that is known apart -/
structure Enc {α : Type} (e : α → PyData) : Prop where
  al : ∀ a b, PySem.W.alike (e a) (e b) = true
  eq : ∀ a b, PyData.eqv (e a) (e b) = true ↔ a = b
  nk : ∀ a b, nk (e a) = nk (e b) → a = b
  ok : ∀ a, noL (e a) = true
  pl : ∀ a, (e a).plain = true
  nn : ∀ a, e a ≠ .none
  dp : ∀ a, (e a).depth ≤ 4
  nd : ∀ a, (JQ.nk (e a)).depth ≤ 4
theorem Enc.fine {α : Type} {e : α → PyData} (h : Enc e) (a : α) : fine (e a) := ⟨h.pl a, Nat.le_trans (h.dp a) (by decide)⟩
theorem Enc.eqB {α : Type} {e : α → PyData} (h : Enc e) (a b : α) [Decidable (a = b)] : PyData.eqv (e a) (e b) = decide (a = b) := by
  by_cases x : a = b
  · rw [decide_eq_true x]; exact (h.eq a b).mpr x
  · rw [decide_eq_false x]
    cases y : PyData.eqv (e a) (e b) with
    | false => rfl
    | true => exact absurd ((h.eq a b).mp y) x
theorem Enc.any {α : Type} {e : α → PyData} (h : Enc e) (l : List α) (a : α) [Decidable (a ∈ l)] : (l.map e).any (fun z => PyData.eqv z (e a)) = decide (a ∈ l) := by
  rw [List.any_map]
  by_cases x : a ∈ l
  · rw [decide_eq_true x]
    exact List.any_eq_true.mpr ⟨a, x, by show PyData.eqv (e a) (e a) = true; exact (h.eq a a).mpr rfl⟩
  · rw [decide_eq_false x]
    refine Bool.eq_false_iff.mpr fun y => x ?_
    obtain ⟨b, hb, e2⟩ := List.any_eq_true.mp y
    rw [← (h.eq b a).mp e2]; exact hb
theorem plain_map {α : Type} {e : α → PyData} (h : ∀ a, (e a).plain = true) : ∀ l : List α, PyData.plainAll (l.map e) = true
  | [] => rfl
  | a :: l => by
    show ((e a).plain && PyData.plainAll (l.map e)) = true
    rw [h a, plain_map h l]; rfl
theorem Enc.pls {α : Type} {e : α → PyData} (h : Enc e) (l : List α) : PyData.plainAll (l.map e) = true := plain_map h.pl l
theorem Enc.alls {α : Type} {e : α → PyData} (h : Enc e) (l : List α) : PySem.W.AllAlike (l.map e) := PySem.W.AllAlike.of h.al
theorem depth_map {α : Type} {e : α → PyData} {n : Nat} (h : ∀ a, (e a).depth ≤ n) : ∀ l : List α, PyData.depthAll (l.map e) ≤ n
  | [] => Nat.zero_le _
  | a :: l => by
    have := depth_map h l
    have := h a
    show max _ _ ≤ n
    omega
theorem noL_map {α : Type} {e : α → PyData} (h : ∀ a, noL (e a) = true) : ∀ l : List α, noLAll (l.map e) = true
  | [] => rfl
  | a :: l => by
    show (noL (e a) && noLAll (l.map e)) = true
    rw [h a, noL_map h l]; rfl
theorem nd_map {α : Type} {e : α → PyData} {n : Nat} (h : ∀ a, (nk (e a)).depth ≤ n) : ∀ l : List α, NestedKey.depthAll (nkAll (l.map e)) ≤ n
  | [] => Nat.zero_le _
  | a :: l => by
    have h1 := nd_map h l
    have h2 := h a
    show NestedKey.depthAll (nk (e a) :: nkAll (l.map e)) ≤ n
    simp only [NestedKey.depthAll]
    omega
theorem eqvs_map {α : Type} {e : α → PyData} (h : ∀ a b, PyData.eqv (e a) (e b) = true ↔ a = b) : ∀ l m : List α, PyData.eqvAll (l.map e) (m.map e) = true ↔ l = m
  | [], [] => by simp [PyData.eqvAll]
  | [], b :: m => by simp [PyData.eqvAll]
  | a :: l, [] => by simp [PyData.eqvAll]
  | a :: l, b :: m => by
    rw [List.map_cons, List.map_cons, PyData.eqvAll, Bool.and_eq_true, h a b, eqvs_map h l m, List.cons.injEq]
theorem nks_map {α : Type} {e : α → PyData} (h : ∀ a b, nk (e a) = nk (e b) → a = b) : ∀ l m : List α, nkAll (l.map e) = nkAll (m.map e) → l = m
  | [], [], _ => rfl
  | [], b :: m, z => by simp [nkAll] at z
  | a :: l, [], z => by simp [nkAll] at z
  | a :: l, b :: m, z => by
    have z : nk (e a) :: nkAll (l.map e) = nk (e b) :: nkAll (m.map e) := z
    rw [List.cons.injEq] at z
    rw [h a b z.1, nks_map h l m z.2]
theorem al_map {α : Type} {e : α → PyData} (h : ∀ a b, PySem.W.alike (e a) (e b) = true) : ∀ l m : List α, PySem.W.alikeAll (l.map e) (m.map e) = true
  | [], _ => by simp [PySem.W.alikeAll]
  | a :: l, [] => by simp [PySem.W.alikeAll]
  | a :: l, b :: m => by
    rw [List.map_cons, List.map_cons, PySem.W.alikeAll, h a b, al_map h l m]; rfl
/-- tuples of what is known apart -/
theorem enc_tup {α : Type} {e : α → PyData} (h : Enc e) (hd : ∀ a, (e a).depth ≤ 3) (hn : ∀ a, (nk (e a)).depth ≤ 3) : Enc fun l : List α => PyData.tuple (l.map e) where
  al := fun a b => by simp only [PySem.W.alike]; exact al_map h.al a b
  eq := fun a b => by simp only [PyData.eqv]; exact eqvs_map h.eq a b
  nk := fun a b z => nks_map h.nk a b (by injection z)
  ok := fun a => noL_map h.ok a
  pl := fun a => by simp only [PyData.plain]; exact plain_map h.pl a
  nn := fun a => by intro z; cases z
  dp := fun a => by simp only [PyData.depth]; have := depth_map hd a; omega
  nd := fun a => by
    show (NestedKey.tup (nkAll (a.map e))).depth ≤ 4
    simp only [NestedKey.depth]; have := nd_map hn a; omega
theorem enc_int : Enc PyData.int where
  al := fun a b => by simp [PySem.W.alike]
  eq := fun a b => by simp [PyData.eqv]
  nk := fun a b z => by injection z
  ok := fun a => rfl
  pl := fun a => rfl
  nn := fun a => by intro z; cases z
  dp := fun a => by simp [PyData.depth]
  nd := fun a => by simp [nk, NestedKey.depth]
theorem enc_str : Enc PyData.str where
  al := fun a b => by simp [PySem.W.alike]
  eq := fun a b => by simp [PyData.eqv]
  nk := fun a b z => by injection z
  ok := fun a => rfl
  pl := fun a => rfl
  nn := fun a => by intro z; cases z
  dp := fun a => by simp [PyData.depth]
  nd := fun a => by simp [nk, NestedKey.depth]
theorem dRow_dp (r : Row) : (dRow r).depth ≤ 1 := by
  unfold dRow; simp only [PyData.depth]; have := depth_map (n := 0) (e := PyData.int) (fun a => by simp [PyData.depth]) r; omega
theorem dRow_nd (r : Row) : (nk (dRow r)).depth ≤ 1 := by
  show (NestedKey.tup (nkAll (r.map .int))).depth ≤ 1
  simp only [NestedKey.depth]; have := nd_map (n := 0) (e := PyData.int) (fun a => by simp [nk, NestedKey.depth]) r; omega
theorem enc_row : Enc dRow := enc_tup enc_int (fun a => by simp [PyData.depth]) (fun a => by simp [nk, NestedKey.depth])
theorem dFact_dp (f : Fact) : (dFact f).depth ≤ 2 := by
  have := dRow_dp f.2
  unfold dFact; simp only [PyData.depth, PyData.depthAll]; omega
theorem dFact_nd (f : Fact) : (nk (dFact f)).depth ≤ 2 := by
  have := dRow_nd f.2
  show (NestedKey.tup (nkAll [.str f.1, dRow f.2])).depth ≤ 2
  simp only [NestedKey.depth, nkAll, NestedKey.depthAll, nk]; omega
theorem enc_fact : Enc dFact where
  al := fun a b => by unfold dFact; simp only [PySem.W.alike, PySem.W.alikeAll]; rw [enc_row.al]; rfl
  eq := fun a b => by
    unfold dFact; simp only [PyData.eqv, PyData.eqvAll, Bool.and_eq_true, Bool.and_true]
    rw [enc_row.eq, beq_iff_eq]
    exact ⟨fun ⟨x, y⟩ => Prod.ext x y, fun x => by subst x; exact ⟨rfl, rfl⟩⟩
  nk := fun a b z => by
    have z : NestedKey.tup [.text a.1, nk (dRow a.2)] = NestedKey.tup [.text b.1, nk (dRow b.2)] := z
    injection z with z
    injection z with z1 z2
    injection z2 with z2 _
    injection z1 with z1
    exact Prod.ext z1 (enc_row.nk _ _ z2)
  ok := fun a => by
    show (noL (.str a.1) && (noL (dRow a.2) && true)) = true
    rw [enc_row.ok]; rfl
  pl := fun a => by unfold dFact; simp only [PyData.plain, PyData.plainAll]; rw [enc_row.pl]; rfl
  nn := fun a => by intro z; cases z
  dp := fun a => Nat.le_trans (dFact_dp a) (by decide)
  nd := fun a => Nat.le_trans (dFact_nd a) (by decide)
theorem enc_facts : Enc dFacts := enc_tup enc_fact (fun a => Nat.le_trans (dFact_dp a) (by decide)) (fun a => Nat.le_trans (dFact_nd a) (by decide))
theorem Enc.key {α : Type} {e : α → PyData} (h : Enc e) (a : α) : keyOk (e a) = true := by
  unfold keyOk
  rw [h.ok a, Bool.true_and, decide_eq_true_eq]
  exact Nat.le_trans (h.nd a) (by decide)
/-! ### the order -/
def ltE {α : Type} (e : α → PyData) (a b : α) : Prop := PySem.W.dataLt (e a) (e b) = true
section
variable {α : Type} {e : α → PyData} (h : Enc e)
theorem lt_irr (a : α) : ¬ ltE e a a := fun z => by
  have := (PyProof.Rows.listOrd PyProof.Rows.itemOrd).irrefl (PySem.W.keyToks (e a))
  unfold ltE PySem.W.dataLt at z
  rw [show PyProof.Rows.lexLt PyProof.Rows.itemOrd (PySem.W.keyToks (e a)) (PySem.W.keyToks (e a)) = false from this] at z
  cases z
theorem lt_tr {a b c : α} (x : ltE e a b) (y : ltE e b c) : ltE e a c := (PyProof.Rows.listOrd PyProof.Rows.itemOrd).trans _ _ _ x y
include h in
theorem lt_tot {a b : α} (x : ¬ ltE e a b) (y : ¬ ltE e b a) : a = b := by
  have x' : (PyProof.Rows.listOrd PyProof.Rows.itemOrd).blt (PySem.W.keyToks (e a)) (PySem.W.keyToks (e b)) = false := Bool.eq_false_iff.mpr x
  have y' : (PyProof.Rows.listOrd PyProof.Rows.itemOrd).blt (PySem.W.keyToks (e b)) (PySem.W.keyToks (e a)) = false := Bool.eq_false_iff.mpr y
  have et : PySem.W.keyToks (e a) = PySem.W.keyToks (e b) := (PyProof.Rows.listOrd PyProof.Rows.itemOrd).total _ _ x' y'
  refine (h.eq a b).mp ?_
  cases z : PyData.eqv (e a) (e b) with
  | true => rfl
  | false =>
    exfalso
    have q := (PySem.W.toks_eqv _ _ (h.al a b)).2 z
    have q1 := q [.inl 0] [.inl 1]
    have q2 := q [.inl 1] [.inl 0]
    rw [et, PySem.W.lex_pre] at q1
    rw [et, PySem.W.lex_pre] at q2
    rw [← q2] at q1
    revert q1
    decide
end
end JQ

-- part Qb
set_option Elab.async false
set_option linter.all false
set_option maxRecDepth 100000
set_option maxHeartbeats 2000000
/-! Sorting what is known apart. -/
namespace JQ
open PySem PySem.Spec PyProof.Rows L2
def Asc {α : Type} (e : α → PyData) (l : List α) : Prop := l.Pairwise (ltE e)
def srt {α : Type} (e : α → PyData) (l : List α) : List α := l.mergeSort fun a b => !PySem.W.dataLt (e b) (e a)
theorem map_sort {α : Type} (e : α → PyData) (l : List α) : (l.map e).mergeSort (PySem.W.dataLe false id) = (srt e l).map e := by
  unfold srt
  rw [List.map_mergeSort (s := PySem.W.dataLe false id)]
  intro a _ b _
  rw [PySem.W.dataLe_eq]; rfl
theorem srt_perm {α : Type} (e : α → PyData) (l : List α) : (srt e l).Perm l := List.mergeSort_perm ..
theorem asc_nd {α : Type} {e : α → PyData} {l : List α} (h : Asc e l) : l.Nodup := List.Pairwise.imp (fun {a b} x z => by subst z; exact lt_irr _ x) h
theorem srt_asc {α : Type} {e : α → PyData} (h : Enc e) {l : List α} (hn : l.Nodup) : Asc e (srt e l) := by
  have p : (srt e l).Pairwise fun a b => (!PySem.W.dataLt (e b) (e a)) = true := List.pairwise_mergeSort (le := fun a b => !PySem.W.dataLt (e b) (e a)) (fun a b c x y => by
      simp only [Bool.not_eq_true'] at x y ⊢
      cases z : PySem.W.dataLt (e c) (e a) with
      | false => rfl
      | true =>
        rcases (PyProof.Rows.listOrd PyProof.Rows.itemOrd).negTrans (PySem.W.keyToks (e c)) (PySem.W.keyToks (e b)) (PySem.W.keyToks (e a)) z with w | w
        · have : PySem.W.dataLt (e c) (e b) = true := w
          rw [y] at this; cases this
        · have : PySem.W.dataLt (e b) (e a) = true := w
          rw [x] at this; cases this) (fun a b => by
      cases z : PySem.W.dataLt (e b) (e a) with
      | false => simp
      | true =>
        cases w : PySem.W.dataLt (e a) (e b) with
        | false => simp
        | true => exact absurd (lt_tr (e := e) (a := a) (b := b) (c := a) w z) (lt_irr a)) l
  have n : (srt e l).Nodup := (srt_perm e l).nodup_iff.mpr hn
  exact List.Pairwise.imp₂ (fun {a b} (x : (!PySem.W.dataLt (e b) (e a)) = true) (y : a ≠ b) => by
    cases z : PySem.W.dataLt (e a) (e b) with
    | true => exact z
    | false =>
      refine absurd (lt_tot h (a := a) (b := b) ?_ ?_) y
      · intro w; unfold ltE at w; rw [z] at w; cases w
      · intro w; unfold ltE at w; rw [w] at x; cases x) p n
theorem asc_ext {α : Type} {e : α → PyData} : ∀ {l m : List α}, Asc e l → Asc e m → (∀ x, x ∈ l ↔ x ∈ m) → l = m
  | [], [], _, _, _ => rfl
  | [], b :: m, _, _, h => by have := (h b).mpr (List.mem_cons_self ..); cases this
  | a :: l, [], _, _, h => by have := (h a).mp (List.mem_cons_self ..); cases this
  | a :: l, b :: m, hl, hm, h => by
    have e1 : a = b := by
      rcases List.mem_cons.mp ((h a).mp (List.mem_cons_self ..)) with x | x
      · exact x
      · rcases List.mem_cons.mp ((h b).mpr (List.mem_cons_self ..)) with y | y
        · exact y.symm
        · exact absurd (lt_tr (List.rel_of_pairwise_cons hl y) (List.rel_of_pairwise_cons hm x)) (lt_irr _)
    subst e1
    refine congrArg (a :: ·) (asc_ext (List.Pairwise.of_cons hl) (List.Pairwise.of_cons hm) fun x => ?_)
    constructor
    · intro hx
      rcases List.mem_cons.mp ((h x).mp (List.mem_cons_of_mem _ hx)) with e | z
      · subst e; exact absurd (List.rel_of_pairwise_cons hl hx) (lt_irr _)
      · exact z
    · intro hx
      rcases List.mem_cons.mp ((h x).mpr (List.mem_cons_of_mem _ hx)) with e | z
      · subst e; exact absurd (List.rel_of_pairwise_cons hm hx) (lt_irr _)
      · exact z
end JQ

-- part Dva
set_option Elab.async false
set_option linter.all false
set_option maxRecDepth 100000
set_option maxHeartbeats 2000000
/-! Readings and derivations (printed by gend.py). -/
namespace JQ
open PySem PySem.Spec PyProof.Rows L2
abbrev N_is_name : List Str := ["word", "sign"]
theorem sc_is_name : FnScope N_is_name ["word"] (defScope s_is_name) := ⟨rfl, rfl, rfl, by decide +kernel, rfl, by decide +kernel, by decide +kernel⟩
def t_is_name (c : Cf)  : TS :=
  tSeq (tIfS (tOr (tTest (tOp (rEqP c.K) (tVar 0) (tC (.str "")))) (tOr (tTest (tOp rGtI (tCB (rLen c.K) (tCons (tVar 0) (tNil))) (tC (.int 20)))) (tTest (tOp rNiS (tOp (rIx c.K) (tVar 0) (tC (.int 0))) (tC (.str "abcdefghijklmnopqrstuvwxyz")))))) (tRet (tC (.bl false))) (tNext))
  (tRet (tCB (rAll c.K) (tCons (tLc (iStr (tVar 0)) (gName 1) (tYes) (tOp rInS (tVar 1) (tC (.str "abcdefghijklmnopqrstuvwxyz0123456789"))) [1]) (tNil))))
theorem dv_is_name {P : Program} {w : World} {mg : Str → Option Value} {base : Heap} {K : PySem.W.Frag} (T : Tx K mg)  {f : Addr} {cdv : Value} {A : Around} {outer : List Env} {s : Shared} {H : Hp} {E : XK}
    (hr : Room 0 (A.deeper (envOfC "is_name" (defScope s_is_name) s.heap.objs.size f cdv))) : PSs (cxOf C8.CX0 P w K mg base N_is_name "is_name" (defScope s_is_name) f cdv A outer s H E).nox (defBody s_is_name) (t_is_name (cf P w K) ) :=
  pss_cons (ps_if (PW.pt (pw_or (pt_cmpR (op_eqP hr.units) (pv 0) (pe_str) (nomark _)) (pw_or (pt_cmpR op_gt (pe_callB call_len (by rfl) T.f_len PySem.boot_len (pa_cons (pv 0) (pa_nil))) (C8.pe_gc rfl T.g_NAME_LIMIT) (nomark _)) (pw_or1 (pt_cmpR op_notIn_sign (pe_ix ix_seq (pv 0) (pe_int) (fun _ _ => rfl)) (C8.pe_gc rfl T.g_LETTERS) rfl))))) (pss_one (ps_ret (pe_bl))) (pss_nil))
  (pss_one (ps_ret (pe_callB (cr_all rfl) (by rfl) T.f_all (by decide +kernel) (pa_cons (pe_lc (own := [("sign", 1)]) rfl sc_is_name.nd (pi_str (pv 0)) (blkOk_by (own := [("sign", 1)]) (N := N_is_name) (sc := (defScope s_is_name)) (by decide +kernel)) (fun _ _ _ _ _ => pg_name (i := 1) sc_is_name.nd rfl (by first | exact Or.inl rfl | exact Or.inr rfl)) (fun _ _ _ _ _ => pts_nil) (fun _ _ _ _ _ => pe_cmpR op_in_sign (pv 1) (C8.pe_gc rfl T.g_NAME_SIGNS) rfl)) (pa_nil)))))
abbrev N_right_row : List Str := ["columns", "row", "number"]
theorem sc_right_row : FnScope N_right_row ["columns", "row"] (defScope s_right_row) := ⟨rfl, rfl, rfl, by decide +kernel, rfl, by decide +kernel, by decide +kernel⟩
def t_right_row (c : Cf)  : TS :=
  tRet (tAndV (tOp (rEqP c.K) (tCB (rLen c.K) (tCons (tVar 1) (tNil))) (tVar 0)) (tCB (rAll c.K) (tCons (tLc (iTup c.K (tVar 1)) (gName 2) (tYes) (tChain rLeI rLeI (tUn (rU fun i => .int (-i)) (tC (.int 999999999))) (tVar 2) (tC (.int 999999999))) [2]) (tNil))))
theorem dv_right_row {P : Program} {w : World} {mg : Str → Option Value} {base : Heap} {K : PySem.W.Frag} (T : Tx K mg)  {f : Addr} {cdv : Value} {A : Around} {outer : List Env} {s : Shared} {H : Hp} {E : XK}
    (hr : Room 0 (A.deeper (envOfC "right_row" (defScope s_right_row) s.heap.objs.size f cdv))) : PSs (cxOf C8.CX0 P w K mg base N_right_row "right_row" (defScope s_right_row) f cdv A outer s H E).nox (defBody s_right_row) (t_right_row (cf P w K) ) :=
  pss_one (ps_ret (pe_and (pe_cmpR (op_eqP hr.units) (pe_callB call_len (by rfl) T.f_len PySem.boot_len (pa_cons (pv 1) (pa_nil))) (pv 0) (nomark _)) (pe_one (pe_callB (cr_all rfl) (by rfl) T.f_all (by decide +kernel) (pa_cons (pe_lc (own := [("number", 2)]) rfl sc_right_row.nd (pi_tup (pv 1)) (blkOk_by (own := [("number", 2)]) (N := N_right_row) (sc := (defScope s_right_row)) (by decide +kernel)) (fun _ _ _ _ _ => pg_name (i := 2) sc_right_row.nd rfl (by first | exact Or.inl rfl | exact Or.inr rfl)) (fun _ _ _ _ _ => pts_nil) (fun _ _ _ _ _ => pe_chain op_le op_le (pe_un un_neg (C8.pe_gc rfl T.g_NUMBER_LIMIT)) (pv 2) (C8.pe_gc rfl T.g_NUMBER_LIMIT))) (pa_nil))))))
abbrev N_ascend : List Str := ["items", "k"]
theorem sc_ascend : FnScope N_ascend ["items"] (defScope s_ascend) := ⟨rfl, rfl, rfl, by decide +kernel, rfl, by decide +kernel, by decide +kernel⟩
def t_ascend (c : Cf)  : TS :=
  tRet (tCB (rAll c.K) (tCons (tLc (iRng2 (tCons (tC (.int 1)) (tCons (tCB (rLen c.K) (tCons (tVar 0) (tNil))) (tNil)))) (gName 1) (tYes) (tOp (rLtD c.K) (tOp (rIx c.K) (tVar 0) (tOp rSubI (tVar 1) (tC (.int 1)))) (tOp (rIx c.K) (tVar 0) (tVar 1))) [1]) (tNil)))
theorem dv_ascend {P : Program} {w : World} {mg : Str → Option Value} {base : Heap} {K : PySem.W.Frag} (T : Tx K mg)  {f : Addr} {cdv : Value} {A : Around} {outer : List Env} {s : Shared} {H : Hp} {E : XK}
    (hr : Room 0 (A.deeper (envOfC "ascend" (defScope s_ascend) s.heap.objs.size f cdv))) : PSs (cxOf C8.CX0 P w K mg base N_ascend "ascend" (defScope s_ascend) f cdv A outer s H E).nox (defBody s_ascend) (t_ascend (cf P w K) ) :=
  pss_one (ps_ret (pe_callB (cr_all rfl) (by rfl) T.f_all (by decide +kernel) (pa_cons (pe_lc (own := [("k", 1)]) rfl sc_ascend.nd (pi_range2 (by rfl) T.f_range (pa_cons (pe_int) (pa_cons (pe_callB call_len (by rfl) T.f_len PySem.boot_len (pa_cons (pv 0) (pa_nil))) (pa_nil)))) (blkOk_by (own := [("k", 1)]) (N := N_ascend) (sc := (defScope s_ascend)) (by decide +kernel)) (fun _ _ _ _ _ => pg_name (i := 1) sc_ascend.nd rfl (by first | exact Or.inl rfl | exact Or.inr rfl)) (fun _ _ _ _ _ => pts_nil) (fun _ _ _ _ _ => pe_cmpR (op_ltD hr.units) (pe_ix ix_seq (pv 0) (pe_op op_sub (pv 1) (pe_int)) (fun _ _ => rfl)) (pe_ix ix_seq (pv 0) (pv 1) (fun _ _ => rfl)) (nomark _))) (pa_nil))))
abbrev N_right_table : List Str := ["table", "name", "columns", "rows", "row"]
theorem sc_right_table : FnScope N_right_table ["table"] (defScope s_right_table) := ⟨rfl, rfl, rfl, by decide +kernel, rfl, by decide +kernel, by decide +kernel⟩
def t_right_table (c : Cf) (R_is_name : List DV → (DV → Prop) → Prop) (R_right_row : List DV → (DV → Prop) → Prop) (R_ascend : List DV → (DV → Prop) → Prop) : TS :=
  tSeq (tAsg (tVar 0) (gTup c.K 3 (gCons (gName 1) (gCons (gName 2) (gCons (gName 3) (gNil))))))
  (tSeq (tIfS (tOr (tNot (tB (tCall (spR c R_is_name) [] C8.E0 (tCons (tVar 1) (tNil))))) (tOr (tTest (tOp rLtI (tVar 2) (tC (.int 1)))) (tTest (tOp rGtI (tVar 2) (tC (.int 4)))))) (tRet (tC (.bl false))) (tNext))
  (tRet (tAndV (tCB (rAll c.K) (tCons (tLc (iTup c.K (tVar 3)) (gName 4) (tYes) (tCall (spR c R_right_row) [] C8.E0 (tCons (tVar 2) (tCons (tVar 4) (tNil)))) [4]) (tNil))) (tCall (spR c R_ascend) [] C8.E0 (tCons (tVar 3) (tNil))))))
theorem dv_right_table {P : Program} {w : World} {mg : Str → Option Value} {base : Heap} {K : PySem.W.Frag} (T : Tx K mg) {R_is_name : List DV → (DV → Prop) → Prop} {R_right_row : List DV → (DV → Prop) → Prop} {R_ascend : List DV → (DV → Prop) → Prop} (h_is_name : C8.Cal P w K mg base 1 "is_name" (spR (cf P w K) R_is_name) [])  (h_right_row : C8.Cal P w K mg base 1 "right_row" (spR (cf P w K) R_right_row) [])  (h_ascend : C8.Cal P w K mg base 1 "ascend" (spR (cf P w K) R_ascend) []) {f : Addr} {cdv : Value} {A : Around} {outer : List Env} {s : Shared} {H : Hp} {E : XK}
    (hr : Room 1 (A.deeper (envOfC "right_table" (defScope s_right_table) s.heap.objs.size f cdv))) : PSs (cxOf C8.CX0 P w K mg base N_right_table "right_table" (defScope s_right_table) f cdv A outer s H E).nox (defBody s_right_table) (t_right_table (cf P w K) R_is_name R_right_row R_ascend) :=
  pss_cons (ps_asg (pv 0) (pg_tup rfl (pgs_cons (pg_name (i := 1) sc_right_table.nd rfl (by first | exact Or.inl rfl | exact Or.inr rfl)) (pgs_cons (pg_name (i := 2) sc_right_table.nd rfl (by first | exact Or.inl rfl | exact Or.inr rfl)) (pgs_cons (pg_name (i := 3) sc_right_table.nd rfl (by first | exact Or.inl rfl | exact Or.inr rfl)) (pgs_nil))))))
  (pss_cons (ps_if (PW.pt (pw_or (pt_not (pt_val (C8.pe_c h_is_name hr (by decide) rfl (pa_cons (pv 1) (pa_nil))))) (pw_or (pt_cmpR op_lt (pv 2) (pe_int) (nomark _)) (pw_or1 (pt_cmpR op_gt (pv 2) (C8.pe_gc rfl T.g_COLUMN_LIMIT) (nomark _)))))) (pss_one (ps_ret (pe_bl))) (pss_nil))
  (pss_one (ps_ret (pe_and (pe_callB (cr_all rfl) (by rfl) T.f_all (by decide +kernel) (pa_cons (pe_lc (own := [("row", 4)]) rfl sc_right_table.nd (pi_tup (pv 3)) (blkOk_by (own := [("row", 4)]) (N := N_right_table) (sc := (defScope s_right_table)) (by decide +kernel)) (fun _ _ _ _ _ => pg_name (i := 4) sc_right_table.nd rfl (by first | exact Or.inl rfl | exact Or.inr rfl)) (fun _ _ _ _ _ => pts_nil) (fun _ _ _ _ _ => C8.pe_c h_right_row hr (by decide) rfl (pa_cons (pv 2) (pa_cons (pv 4) (pa_nil))))) (pa_nil))) (pe_one (C8.pe_c h_ascend hr (by decide) rfl (pa_cons (pv 3) (pa_nil))))))))
abbrev N_place_of : List Str := ["catalogue", "name", "k"]
theorem sc_place_of : FnScope N_place_of ["catalogue", "name"] (defScope s_place_of) := ⟨rfl, rfl, rfl, by decide +kernel, rfl, by decide +kernel, by decide +kernel⟩
def t_place_of (c : Cf)  : TS :=
  tSeq (tFor (iRng1 (tCons (tCB (rLen c.K) (tCons (tVar 0) (tNil))) (tNil))) (gName 2) (tIfS (tTest (tOp (rEqP c.K) (tOp (rIx c.K) (tOp (rIx c.K) (tVar 0) (tVar 2)) (tC (.int 0))) (tVar 1))) (tRet (tVar 2)) (tNext)))
  (tRet (tUn (rU fun i => .int (-i)) (tC (.int 1))))
theorem dv_place_of {P : Program} {w : World} {mg : Str → Option Value} {base : Heap} {K : PySem.W.Frag} (T : Tx K mg)  {f : Addr} {cdv : Value} {A : Around} {outer : List Env} {s : Shared} {H : Hp} {E : XK}
    (hr : Room 0 (A.deeper (envOfC "place_of" (defScope s_place_of) s.heap.objs.size f cdv))) : PSs (cxOf C8.CX0 P w K mg base N_place_of "place_of" (defScope s_place_of) f cdv A outer s H E).nox (defBody s_place_of) (t_place_of (cf P w K) ) :=
  pss_cons (ps_for PassesOwn.never rfl (pi_range1 (by rfl) T.f_range (pa_cons (pe_callB call_len (by rfl) T.f_len PySem.boot_len (pa_cons (pv 0) (pa_nil))) (pa_nil))) (pg_name (i := 2) sc_place_of.nd rfl (by first | exact Or.inl rfl | exact Or.inr rfl)) (pss_one (ps_if (pt_cmpR (op_eqP hr.units) (pe_ix ix_seq (pe_ix ix_seq (pv 0) (pv 2) (fun _ _ => rfl)) (pe_int) (fun _ _ => rfl)) (pv 1) (nomark _)) (pss_one (ps_ret (pv 2))) (pss_nil))))
  (pss_one (ps_ret (pe_un un_neg (pe_int))))
abbrev N_table_at : List Str := ["catalogue", "name", "k"]
theorem sc_table_at : FnScope N_table_at ["catalogue", "name"] (defScope s_table_at) := ⟨rfl, rfl, rfl, by decide +kernel, rfl, by decide +kernel, by decide +kernel⟩
def t_table_at (c : Cf) (R_place_of : List DV → (DV → Prop) → Prop) : TS :=
  tSeq (tAsg (tCall (spR c R_place_of) [] C8.E0 (tCons (tVar 0) (tCons (tVar 1) (tNil)))) (gName 2))
  (tSeq (tIfS (tTest (tOp rLtI (tVar 2) (tC (.int 0)))) (tNever) (tNext))
  (tRet (tOp (rIx c.K) (tVar 0) (tVar 2))))
theorem dv_table_at {P : Program} {w : World} {mg : Str → Option Value} {base : Heap} {K : PySem.W.Frag} (T : Tx K mg) {R_place_of : List DV → (DV → Prop) → Prop} (h_place_of : C8.Cal P w K mg base 1 "place_of" (spR (cf P w K) R_place_of) []) {f : Addr} {cdv : Value} {A : Around} {outer : List Env} {s : Shared} {H : Hp} {E : XK}
    (hr : Room 1 (A.deeper (envOfC "table_at" (defScope s_table_at) s.heap.objs.size f cdv))) : PSs (cxOf C8.CX0 P w K mg base N_table_at "table_at" (defScope s_table_at) f cdv A outer s H E).nox (defBody s_table_at) (t_table_at (cf P w K) R_place_of) :=
  pss_cons (ps_set (i := 2) sc_table_at.nd rfl (by first | exact Or.inl rfl | exact Or.inr rfl) (C8.pe_c h_place_of hr (by decide) rfl (pa_cons (pv 0) (pa_cons (pv 1) (pa_nil)))))
  (pss_cons (ps_if (pt_cmpR op_lt (pv 2) (pe_int) (nomark _)) (pss_one (ps_never)) (pss_nil))
  (pss_one (ps_ret (pe_ix ix_seq (pv 0) (pv 2) (fun _ _ => rfl)))))
abbrev N_with_rows : List Str := ["catalogue", "name", "rows", "k"]
theorem sc_with_rows : FnScope N_with_rows ["catalogue", "name", "rows"] (defScope s_with_rows) := ⟨rfl, rfl, rfl, by decide +kernel, rfl, by decide +kernel, by decide +kernel⟩
def t_with_rows (c : Cf) (R_place_of : List DV → (DV → Prop) → Prop) : TS :=
  tSeq (tAsg (tCall (spR c R_place_of) [] C8.E0 (tCons (tVar 0) (tCons (tVar 1) (tNil)))) (gName 3))
  (tRet (tOp (rCatA c.K) (tOp (rCatA c.K) (L2.tSl (rSlA c.K) (tVar 0) (tNoPart) (tPart (tVar 3))) (tTup (tCons (tTup (tCons (tVar 1) (tCons (tOp (rIx c.K) (tOp (rIx c.K) (tVar 0) (tVar 3)) (tC (.int 1))) (tCons (tVar 2) (tNil))))) (tNil)))) (L2.tSl (rSlA c.K) (tVar 0) (tPart (tOp rAddI (tVar 3) (tC (.int 1)))) (tNoPart))))
theorem dv_with_rows {P : Program} {w : World} {mg : Str → Option Value} {base : Heap} {K : PySem.W.Frag} (T : Tx K mg) {R_place_of : List DV → (DV → Prop) → Prop} (h_place_of : C8.Cal P w K mg base 1 "place_of" (spR (cf P w K) R_place_of) []) {f : Addr} {cdv : Value} {A : Around} {outer : List Env} {s : Shared} {H : Hp} {E : XK}
    (hr : Room 1 (A.deeper (envOfC "with_rows" (defScope s_with_rows) s.heap.objs.size f cdv))) : PSs (cxOf C8.CX0 P w K mg base N_with_rows "with_rows" (defScope s_with_rows) f cdv A outer s H E).nox (defBody s_with_rows) (t_with_rows (cf P w K) R_place_of) :=
  pss_cons (ps_set (i := 3) sc_with_rows.nd rfl (by first | exact Or.inl rfl | exact Or.inr rfl) (C8.pe_c h_place_of hr (by decide) rfl (pa_cons (pv 0) (pa_cons (pv 1) (pa_nil)))))
  (pss_one (ps_ret (pe_op op_catA (pe_op op_catA (pe_slice sl_tupA (pv 0) (po_none) (po_some (pv 3))) (pe_tup (pa_cons (pe_tup (pa_cons (pv 1) (pa_cons (pe_ix ix_seq (pe_ix ix_seq (pv 0) (pv 3) (fun _ _ => rfl)) (pe_int) (fun _ _ => rfl)) (pa_cons (pv 2) (pa_nil))))) (pa_nil)))) (pe_slice sl_tupA (pv 0) (po_some (pe_op op_add (pv 3) (pe_int))) (po_none)))))
abbrev N_all_variables : List Str := ["pattern", "found", "name", "variables", "variable"]
theorem sc_all_variables : FnScope N_all_variables ["pattern"] (defScope s_all_variables) := ⟨rfl, rfl, rfl, by decide +kernel, rfl, by decide +kernel, by decide +kernel⟩
def t_all_variables (c : Cf)  : TS :=
  tSeq (tAsg (tLst (tNil)) (gName 1))
  (tSeq (tFor (iTup c.K (tOp (rIx c.K) (tVar 0) (tC (.int 1)))) (gTup c.K 2 (gCons (gName 2) (gCons (gName 3) (gNil)))) (tFor (iTup c.K (tVar 3)) (gName 4) (tIfS (tTest (tOp (rNiX c.K) (tVar 4) (tVar 1))) (tDrop (tBM c.K "list" rAppend (tVar 1) (tCons (tVar 4) (tNil)))) (tNext))))
  (tRet (tCB (rTupN c.K) (tCons (tVar 1) (tNil)))))
theorem dv_all_variables {P : Program} {w : World} {mg : Str → Option Value} {base : Heap} {K : PySem.W.Frag} (T : Tx K mg)  {f : Addr} {cdv : Value} {A : Around} {outer : List Env} {s : Shared} {H : Hp} {E : XK}
    (hr : Room 0 (A.deeper (envOfC "all_variables" (defScope s_all_variables) s.heap.objs.size f cdv))) : PSs (cxOf C8.CX0 P w K mg base N_all_variables "all_variables" (defScope s_all_variables) f cdv A outer s H E).nox (defBody s_all_variables) (t_all_variables (cf P w K) ) :=
  pss_cons (ps_set (i := 1) sc_all_variables.nd rfl (by first | exact Or.inl rfl | exact Or.inr rfl) (pe_lst (pa_nil)))
  (pss_cons (ps_for PassesOwn.never rfl (pi_tup (pe_ix ix_seq (pv 0) (pe_int) (fun _ _ => rfl))) (pg_tup rfl (pgs_cons (pg_name (i := 2) sc_all_variables.nd rfl (by first | exact Or.inl rfl | exact Or.inr rfl)) (pgs_cons (pg_name (i := 3) sc_all_variables.nd rfl (by first | exact Or.inl rfl | exact Or.inr rfl)) (pgs_nil)))) (pss_one (ps_for PassesOwn.never rfl (pi_tup (pv 3)) (pg_name (i := 4) sc_all_variables.nd rfl (by first | exact Or.inl rfl | exact Or.inr rfl)) (pss_one (ps_if (pt_cmpR (op_niX (room65 hr)) (pv 4) (pv 1) rfl) (pss_one (ps_expr (pe_bm PySem.F.plainAttrs_list PySem.F.slot_list_append PySem.F.type_list_append mt_append (pv 1) (pa_cons (pv 4) (pa_nil))))) (pss_nil))))))
  (pss_one (ps_ret (pe_callTy cr_tupN (by rfl) T.f_tuple (by decide +kernel) (pa_cons (pv 1) (pa_nil))))))
abbrev N_check_catalogue : List Str := ["catalogue", "table"]
theorem sc_check_catalogue : FnScope N_check_catalogue ["catalogue"] (defScope s_check_catalogue) := ⟨rfl, rfl, rfl, by decide +kernel, rfl, by decide +kernel, by decide +kernel⟩
def t_check_catalogue (c : Cf) (R_right_table : List DV → (DV → Prop) → Prop) (R_ascend : List DV → (DV → Prop) → Prop) : TS :=
  tSeq (tIfS (tOr (tNot (tB (tCB (rAll c.K) (tCons (tLc (iTup c.K (tVar 0)) (gName 1) (tYes) (tCall (spR c R_right_table) [] C8.E0 (tCons (tVar 1) (tNil))) [1]) (tNil))))) (tNot (tB (tCall (spR c R_ascend) [] C8.E0 (tCons (tLc (iTup c.K (tVar 0)) (gName 1) (tYes) (tOp (rIx c.K) (tVar 1) (tC (.int 0))) [1]) (tNil)))))) (tNever) (tNext))
  (tIfS (tOr (tTest (tOp rGtI (tCB (rLen c.K) (tCons (tVar 0) (tNil))) (tC (.int 8)))) (tB (tCB (rAny c.K) (tCons (tLc (iTup c.K (tVar 0)) (gName 1) (tYes) (tOp rGtI (tCB (rLen c.K) (tCons (tOp (rIx c.K) (tVar 1) (tC (.int 2))) (tNil))) (tC (.int 300))) [1]) (tNil))))) (tNever) (tNext))
theorem dv_check_catalogue {P : Program} {w : World} {mg : Str → Option Value} {base : Heap} {K : PySem.W.Frag} (T : Tx K mg) {R_right_table : List DV → (DV → Prop) → Prop} {R_ascend : List DV → (DV → Prop) → Prop} (h_right_table : C8.Cal P w K mg base 2 "right_table" (spR (cf P w K) R_right_table) [])  (h_ascend : C8.Cal P w K mg base 1 "ascend" (spR (cf P w K) R_ascend) []) {f : Addr} {cdv : Value} {A : Around} {outer : List Env} {s : Shared} {H : Hp} {E : XK}
    (hr : Room 2 (A.deeper (envOfC "check_catalogue" (defScope s_check_catalogue) s.heap.objs.size f cdv))) : PSs (cxOf C8.CX0 P w K mg base N_check_catalogue "check_catalogue" (defScope s_check_catalogue) f cdv A outer s H E).nox (defBody s_check_catalogue) (t_check_catalogue (cf P w K) R_right_table R_ascend) :=
  pss_cons (ps_if (PW.pt (pw_or (pt_not (pt_val (pe_callB (cr_all rfl) (by rfl) T.f_all (by decide +kernel) (pa_cons (pe_lc (own := [("table", 1)]) rfl sc_check_catalogue.nd (pi_tup (pv 0)) (blkOk_by (own := [("table", 1)]) (N := N_check_catalogue) (sc := (defScope s_check_catalogue)) (by decide +kernel)) (fun _ _ _ _ _ => pg_name (i := 1) sc_check_catalogue.nd rfl (by first | exact Or.inl rfl | exact Or.inr rfl)) (fun _ _ _ _ _ => pts_nil) (fun _ _ _ _ _ => C8.pe_c h_right_table hr (by decide) rfl (pa_cons (pv 1) (pa_nil)))) (pa_nil))))) (pw_or1 (pt_not (pt_val (C8.pe_c h_ascend hr (by decide) rfl (pa_cons (pe_lc (own := [("table", 1)]) rfl sc_check_catalogue.nd (pi_tup (pv 0)) (blkOk_by (own := [("table", 1)]) (N := N_check_catalogue) (sc := (defScope s_check_catalogue)) (by decide +kernel)) (fun _ _ _ _ _ => pg_name (i := 1) sc_check_catalogue.nd rfl (by first | exact Or.inl rfl | exact Or.inr rfl)) (fun _ _ _ _ _ => pts_nil) (fun _ _ _ _ _ => pe_ix ix_seq (pv 1) (pe_int) (fun _ _ => rfl))) (pa_nil)))))))) (pss_one (ps_never)) (pss_nil))
  (pss_one (ps_if (PW.pt (pw_or (pt_cmpR op_gt (pe_callB call_len (by rfl) T.f_len PySem.boot_len (pa_cons (pv 0) (pa_nil))) (C8.pe_gc rfl T.g_TABLE_LIMIT) (nomark _)) (pw_or1 (pt_val (pe_callB (cr_any rfl) (by rfl) T.f_any (by decide +kernel) (pa_cons (pe_lc (own := [("table", 1)]) rfl sc_check_catalogue.nd (pi_tup (pv 0)) (blkOk_by (own := [("table", 1)]) (N := N_check_catalogue) (sc := (defScope s_check_catalogue)) (by decide +kernel)) (fun _ _ _ _ _ => pg_name (i := 1) sc_check_catalogue.nd rfl (by first | exact Or.inl rfl | exact Or.inr rfl)) (fun _ _ _ _ _ => pts_nil) (fun _ _ _ _ _ => pe_cmpR op_gt (pe_callB call_len (by rfl) T.f_len PySem.boot_len (pa_cons (pe_ix ix_seq (pv 1) (pe_int) (fun _ _ => rfl)) (pa_nil))) (C8.pe_gc rfl T.g_ROW_LIMIT) (nomark _))) (pa_nil))))))) (pss_one (ps_never)) (pss_nil)))
abbrev N_without_row : List Str := ["catalogue", "name", "row", "rows", "other"]
theorem sc_without_row : FnScope N_without_row ["catalogue", "name", "row"] (defScope s_without_row) := ⟨rfl, rfl, rfl, by decide +kernel, rfl, by decide +kernel, by decide +kernel⟩
def t_without_row (c : Cf) (R_check_catalogue : List DV → (DV → Prop) → Prop) (R_table_at : List DV → (DV → Prop) → Prop) (R_with_rows : List DV → (DV → Prop) → Prop) : TS :=
  tSeq (tDrop (tCall (spR c R_check_catalogue) [] C8.E0 (tCons (tVar 0) (tNil))))
  (tSeq (tAsg (tOp (rIx c.K) (tCall (spR c R_table_at) [] C8.E0 (tCons (tVar 0) (tCons (tVar 1) (tNil)))) (tC (.int 2))) (gName 3))
  (tSeq (tIfS (tTest (tOp (rNiX c.K) (tVar 2) (tVar 3))) (tNever) (tNext))
  (tRet (tCall (spR c R_with_rows) [] C8.E0 (tCons (tVar 0) (tCons (tVar 1) (tCons (tCB (rTupOf c.K) (tCons (tLc (iTup c.K (tVar 3)) (gName 4) (tTest (tOp (rNeP c.K) (tVar 4) (tVar 2))) (tVar 4) [4]) (tNil))) (tNil))))))))
theorem dv_without_row {P : Program} {w : World} {mg : Str → Option Value} {base : Heap} {K : PySem.W.Frag} (T : Tx K mg) {R_check_catalogue : List DV → (DV → Prop) → Prop} {R_table_at : List DV → (DV → Prop) → Prop} {R_with_rows : List DV → (DV → Prop) → Prop} (h_check_catalogue : C8.Cal P w K mg base 3 "check_catalogue" (spR (cf P w K) R_check_catalogue) [])  (h_table_at : C8.Cal P w K mg base 2 "table_at" (spR (cf P w K) R_table_at) [])  (h_with_rows : C8.Cal P w K mg base 2 "with_rows" (spR (cf P w K) R_with_rows) []) {f : Addr} {cdv : Value} {A : Around} {outer : List Env} {s : Shared} {H : Hp} {E : XK}
    (hr : Room 3 (A.deeper (envOfC "without_row" (defScope s_without_row) s.heap.objs.size f cdv))) : PSs (cxOf C8.CX0 P w K mg base N_without_row "without_row" (defScope s_without_row) f cdv A outer s H E).nox (defBody s_without_row) (t_without_row (cf P w K) R_check_catalogue R_table_at R_with_rows) :=
  pss_cons (ps_expr (C8.pe_c h_check_catalogue hr (by decide) rfl (pa_cons (pv 0) (pa_nil))))
  (pss_cons (ps_set (i := 3) sc_without_row.nd rfl (by first | exact Or.inl rfl | exact Or.inr rfl) (pe_ix ix_seq (C8.pe_c h_table_at hr (by decide) rfl (pa_cons (pv 0) (pa_cons (pv 1) (pa_nil)))) (pe_int) (fun _ _ => rfl)))
  (pss_cons (ps_if (pt_cmpR (op_niX (room65 hr)) (pv 2) (pv 3) rfl) (pss_one (ps_never)) (pss_nil))
  (pss_one (ps_ret (C8.pe_c h_with_rows hr (by decide) rfl (pa_cons (pv 0) (pa_cons (pv 1) (pa_cons (pe_callTy call_tuple_of (by rfl) T.f_tuple (by decide +kernel) (pa_cons (pe_lc (own := [("other", 4)]) rfl sc_without_row.nd (pi_tup (pv 3)) (blkOk_by (own := [("other", 4)]) (N := N_without_row) (sc := (defScope s_without_row)) (by decide +kernel)) (fun _ _ _ _ _ => pg_name (i := 4) sc_without_row.nd rfl (by first | exact Or.inl rfl | exact Or.inr rfl)) (fun _ _ _ _ _ => pts_one (pt_cmpR (op_neP hr.units) (pv 4) (pv 2) (nomark _))) (fun _ _ _ _ _ => pv 4)) (pa_nil))) (pa_nil)))))))))
abbrev N_right_atoms : List Str := ["atoms", "columns", "name", "variables", "variable"]
theorem sc_right_atoms : FnScope N_right_atoms ["atoms"] (defScope s_right_atoms) := ⟨rfl, rfl, rfl, by decide +kernel, rfl, by decide +kernel, by decide +kernel⟩
def t_right_atoms (c : Cf) (R_is_name : List DV → (DV → Prop) → Prop) : TS :=
  tSeq (tAsg (tDNewK) (gName 1))
  (tSeq (tFor (iTup c.K (tVar 0)) (gTup c.K 2 (gCons (gName 2) (gCons (gName 3) (gNil)))) (tSeq (tIfS (tOr (tNot (tB (tCall (spR c R_is_name) [] C8.E0 (tCons (tVar 2) (tNil))))) (tNot (tTest (tChain rLeI rLeI (tC (.int 1)) (tCB (rLen c.K) (tCons (tVar 3) (tNil))) (tC (.int 4)))))) (tRet (tC (.bl false))) (tNext))
  (tSeq (tIfS (tNot (tB (tCB (rAll c.K) (tCons (tLc (iTup c.K (tVar 3)) (gName 4) (tYes) (tCall (spR c R_is_name) [] C8.E0 (tCons (tVar 4) (tNil))) [4]) (tNil))))) (tRet (tC (.bl false))) (tNext))
  (tSeq (tIfS (tTest (tOp (rNeP c.K) (tDGet2 (tVar 1) (tVar 2) (tCB (rLen c.K) (tCons (tVar 3) (tNil)))) (tCB (rLen c.K) (tCons (tVar 3) (tNil))))) (tRet (tC (.bl false))) (tNext))
  (sDPut (tVar 1) (tVar 2) (tCB (rLen c.K) (tCons (tVar 3) (tNil))))))))
  (tRet (tOp rGtI (tCB (rLen c.K) (tCons (tVar 0) (tNil))) (tC (.int 0)))))
theorem dv_right_atoms {P : Program} {w : World} {mg : Str → Option Value} {base : Heap} {K : PySem.W.Frag} (T : Tx K mg) {R_is_name : List DV → (DV → Prop) → Prop} (h_is_name : C8.Cal P w K mg base 1 "is_name" (spR (cf P w K) R_is_name) []) {f : Addr} {cdv : Value} {A : Around} {outer : List Env} {s : Shared} {H : Hp} {E : XK}
    (hr : Room 1 (A.deeper (envOfC "right_atoms" (defScope s_right_atoms) s.heap.objs.size f cdv))) : PSs (cxOf C8.CX0 P w K mg base N_right_atoms "right_atoms" (defScope s_right_atoms) f cdv A outer s H E).nox (defBody s_right_atoms) (t_right_atoms (cf P w K) R_is_name) :=
  pss_cons (ps_set (i := 1) sc_right_atoms.nd rfl (by first | exact Or.inl rfl | exact Or.inr rfl) (pe_dnewK))
  (pss_cons (ps_for PassesOwn.never rfl (pi_tup (pv 0)) (pg_tup rfl (pgs_cons (pg_name (i := 2) sc_right_atoms.nd rfl (by first | exact Or.inl rfl | exact Or.inr rfl)) (pgs_cons (pg_name (i := 3) sc_right_atoms.nd rfl (by first | exact Or.inl rfl | exact Or.inr rfl)) (pgs_nil)))) (pss_cons (ps_if (PW.pt (pw_or (pt_not (pt_val (C8.pe_c h_is_name hr (by decide) rfl (pa_cons (pv 2) (pa_nil))))) (pw_or1 (pt_not (pt_chain op_le op_le (pe_int) (pe_callB call_len (by rfl) T.f_len PySem.boot_len (pa_cons (pv 3) (pa_nil))) (C8.pe_gc rfl T.g_PLACE_LIMIT)))))) (pss_one (ps_ret (pe_bl))) (pss_nil))
  (pss_cons (ps_if (pt_not (pt_val (pe_callB (cr_all rfl) (by rfl) T.f_all (by decide +kernel) (pa_cons (pe_lc (own := [("variable", 4)]) rfl sc_right_atoms.nd (pi_tup (pv 3)) (blkOk_by (own := [("variable", 4)]) (N := N_right_atoms) (sc := (defScope s_right_atoms)) (by decide +kernel)) (fun _ _ _ _ _ => pg_name (i := 4) sc_right_atoms.nd rfl (by first | exact Or.inl rfl | exact Or.inr rfl)) (fun _ _ _ _ _ => pts_nil) (fun _ _ _ _ _ => C8.pe_c h_is_name hr (by decide) rfl (pa_cons (pv 4) (pa_nil)))) (pa_nil))))) (pss_one (ps_ret (pe_bl))) (pss_nil))
  (pss_cons (ps_if (pt_cmpR (op_neP hr.units) (pe_dget2 (hu_of hr) (pv 1) (pv 2) (pe_callB call_len (by rfl) T.f_len PySem.boot_len (pa_cons (pv 3) (pa_nil))) ⟨rfl, rfl, rfl, rfl⟩) (pe_callB call_len (by rfl) T.f_len PySem.boot_len (pa_cons (pv 3) (pa_nil))) (nomark _)) (pss_one (ps_ret (pe_bl))) (pss_nil))
  (pss_one (ps_dput (hu_of hr) (pv 1) (pv 2) (pe_callB call_len (by rfl) T.f_len PySem.boot_len (pa_cons (pv 3) (pa_nil))) rfl))))))
  (pss_one (ps_ret (pe_cmpR op_gt (pe_callB call_len (by rfl) T.f_len PySem.boot_len (pa_cons (pv 0) (pa_nil))) (pe_int) (nomark _)))))
abbrev N_check_pattern : List Str := ["pattern", "head", "atoms", "variables", "good", "variable", "k"]
theorem sc_check_pattern : FnScope N_check_pattern ["pattern"] (defScope s_check_pattern) := ⟨rfl, rfl, rfl, by decide +kernel, rfl, by decide +kernel, by decide +kernel⟩
def t_check_pattern (c : Cf) (R_all_variables : List DV → (DV → Prop) → Prop) (R_right_atoms : List DV → (DV → Prop) → Prop) : TS :=
  tSeq (tAsg (tVar 0) (gTup c.K 2 (gCons (gName 1) (gCons (gName 2) (gNil)))))
  (tSeq (tAsg (tCall (spR c R_all_variables) [] C8.E0 (tCons (tVar 0) (tNil))) (gName 3))
  (tSeq (tAsg (tAndV (tCall (spR c R_right_atoms) [] C8.E0 (tCons (tVar 2) (tNil))) (tCB (rAll c.K) (tCons (tLc (iTup c.K (tVar 1)) (gName 5) (tYes) (tOp (rInX c.K) (tVar 5) (tVar 3)) [5]) (tNil)))) (gName 4))
  (tSeq (tIfS (tOr (tNot (tB (tVar 4))) (tB (tCB (rAny c.K) (tCons (tLc (iRng1 (tCons (tCB (rLen c.K) (tCons (tVar 1) (tNil))) (tNil))) (gName 6) (tYes) (tOp (rInX c.K) (tOp (rIx c.K) (tVar 1) (tVar 6)) (L2.tSl (rSlA c.K) (tVar 1) (tNoPart) (tPart (tVar 6)))) [6]) (tNil))))) (tNever) (tNext))
  (tIfS (tOr (tTest (tOp rGtI (tCB (rLen c.K) (tCons (tVar 2) (tNil))) (tC (.int 8)))) (tTest (tOp rGtI (tCB (rLen c.K) (tCons (tVar 3) (tNil))) (tC (.int 8))))) (tNever) (tNext)))))
theorem dv_check_pattern {P : Program} {w : World} {mg : Str → Option Value} {base : Heap} {K : PySem.W.Frag} (T : Tx K mg) {R_all_variables : List DV → (DV → Prop) → Prop} {R_right_atoms : List DV → (DV → Prop) → Prop} (h_all_variables : C8.Cal P w K mg base 1 "all_variables" (spR (cf P w K) R_all_variables) [])  (h_right_atoms : C8.Cal P w K mg base 2 "right_atoms" (spR (cf P w K) R_right_atoms) []) {f : Addr} {cdv : Value} {A : Around} {outer : List Env} {s : Shared} {H : Hp} {E : XK}
    (hr : Room 2 (A.deeper (envOfC "check_pattern" (defScope s_check_pattern) s.heap.objs.size f cdv))) : PSs (cxOf C8.CX0 P w K mg base N_check_pattern "check_pattern" (defScope s_check_pattern) f cdv A outer s H E).nox (defBody s_check_pattern) (t_check_pattern (cf P w K) R_all_variables R_right_atoms) :=
  pss_cons (ps_asg (pv 0) (pg_tup rfl (pgs_cons (pg_name (i := 1) sc_check_pattern.nd rfl (by first | exact Or.inl rfl | exact Or.inr rfl)) (pgs_cons (pg_name (i := 2) sc_check_pattern.nd rfl (by first | exact Or.inl rfl | exact Or.inr rfl)) (pgs_nil)))))
  (pss_cons (ps_set (i := 3) sc_check_pattern.nd rfl (by first | exact Or.inl rfl | exact Or.inr rfl) (C8.pe_c h_all_variables hr (by decide) rfl (pa_cons (pv 0) (pa_nil))))
  (pss_cons (ps_set (i := 4) sc_check_pattern.nd rfl (by first | exact Or.inl rfl | exact Or.inr rfl) (pe_and (C8.pe_c h_right_atoms hr (by decide) rfl (pa_cons (pv 2) (pa_nil))) (pe_one (pe_callB (cr_all rfl) (by rfl) T.f_all (by decide +kernel) (pa_cons (pe_lc (own := [("variable", 5)]) rfl sc_check_pattern.nd (pi_tup (pv 1)) (blkOk_by (own := [("variable", 5)]) (N := N_check_pattern) (sc := (defScope s_check_pattern)) (by decide +kernel)) (fun _ _ _ _ _ => pg_name (i := 5) sc_check_pattern.nd rfl (by first | exact Or.inl rfl | exact Or.inr rfl)) (fun _ _ _ _ _ => pts_nil) (fun _ _ _ _ _ => pe_cmpR (op_inX (room65 hr)) (pv 5) (pv 3) rfl)) (pa_nil))))))
  (pss_cons (ps_if (PW.pt (pw_or (pt_not (pt_val (pv 4))) (pw_or1 (pt_val (pe_callB (cr_any rfl) (by rfl) T.f_any (by decide +kernel) (pa_cons (pe_lc (own := [("k", 6)]) rfl sc_check_pattern.nd (pi_range1 (by rfl) T.f_range (pa_cons (pe_callB call_len (by rfl) T.f_len PySem.boot_len (pa_cons (pv 1) (pa_nil))) (pa_nil))) (blkOk_by (own := [("k", 6)]) (N := N_check_pattern) (sc := (defScope s_check_pattern)) (by decide +kernel)) (fun _ _ _ _ _ => pg_name (i := 6) sc_check_pattern.nd rfl (by first | exact Or.inl rfl | exact Or.inr rfl)) (fun _ _ _ _ _ => pts_nil) (fun _ _ _ _ _ => pe_cmpR (op_inX (room65 hr)) (pe_ix ix_seq (pv 1) (pv 6) (fun _ _ => rfl)) (pe_slice sl_tupA (pv 1) (po_none) (po_some (pv 6))) rfl)) (pa_nil))))))) (pss_one (ps_never)) (pss_nil))
  (pss_one (ps_if (PW.pt (pw_or (pt_cmpR op_gt (pe_callB call_len (by rfl) T.f_len PySem.boot_len (pa_cons (pv 2) (pa_nil))) (C8.pe_gc rfl T.g_ATOM_LIMIT) (nomark _)) (pw_or1 (pt_cmpR op_gt (pe_callB call_len (by rfl) T.f_len PySem.boot_len (pa_cons (pv 3) (pa_nil))) (C8.pe_gc rfl T.g_VARIABLE_LIMIT) (nomark _))))) (pss_one (ps_never)) (pss_nil))))))
abbrev N_check_fit : List Str := ["catalogue", "pattern", "name", "variables"]
theorem sc_check_fit : FnScope N_check_fit ["catalogue", "pattern"] (defScope s_check_fit) := ⟨rfl, rfl, rfl, by decide +kernel, rfl, by decide +kernel, by decide +kernel⟩
def t_check_fit (c : Cf) (R_check_catalogue : List DV → (DV → Prop) → Prop) (R_check_pattern : List DV → (DV → Prop) → Prop) (R_table_at : List DV → (DV → Prop) → Prop) : TS :=
  tSeq (tDrop (tCall (spR c R_check_catalogue) [] C8.E0 (tCons (tVar 0) (tNil))))
  (tSeq (tDrop (tCall (spR c R_check_pattern) [] C8.E0 (tCons (tVar 1) (tNil))))
  (tFor (iTup c.K (tOp (rIx c.K) (tVar 1) (tC (.int 1)))) (gTup c.K 2 (gCons (gName 2) (gCons (gName 3) (gNil)))) (tIfS (tTest (tOp (rNeP c.K) (tOp (rIx c.K) (tCall (spR c R_table_at) [] C8.E0 (tCons (tVar 0) (tCons (tVar 2) (tNil)))) (tC (.int 1))) (tCB (rLen c.K) (tCons (tVar 3) (tNil))))) (tNever) (tNext))))
theorem dv_check_fit {P : Program} {w : World} {mg : Str → Option Value} {base : Heap} {K : PySem.W.Frag} (T : Tx K mg) {R_check_catalogue : List DV → (DV → Prop) → Prop} {R_check_pattern : List DV → (DV → Prop) → Prop} {R_table_at : List DV → (DV → Prop) → Prop} (h_check_catalogue : C8.Cal P w K mg base 3 "check_catalogue" (spR (cf P w K) R_check_catalogue) [])  (h_check_pattern : C8.Cal P w K mg base 3 "check_pattern" (spR (cf P w K) R_check_pattern) [])  (h_table_at : C8.Cal P w K mg base 2 "table_at" (spR (cf P w K) R_table_at) []) {f : Addr} {cdv : Value} {A : Around} {outer : List Env} {s : Shared} {H : Hp} {E : XK}
    (hr : Room 3 (A.deeper (envOfC "check_fit" (defScope s_check_fit) s.heap.objs.size f cdv))) : PSs (cxOf C8.CX0 P w K mg base N_check_fit "check_fit" (defScope s_check_fit) f cdv A outer s H E).nox (defBody s_check_fit) (t_check_fit (cf P w K) R_check_catalogue R_check_pattern R_table_at) :=
  pss_cons (ps_expr (C8.pe_c h_check_catalogue hr (by decide) rfl (pa_cons (pv 0) (pa_nil))))
  (pss_cons (ps_expr (C8.pe_c h_check_pattern hr (by decide) rfl (pa_cons (pv 1) (pa_nil))))
  (pss_one (ps_for PassesOwn.never rfl (pi_tup (pe_ix ix_seq (pv 1) (pe_int) (fun _ _ => rfl))) (pg_tup rfl (pgs_cons (pg_name (i := 2) sc_check_fit.nd rfl (by first | exact Or.inl rfl | exact Or.inr rfl)) (pgs_cons (pg_name (i := 3) sc_check_fit.nd rfl (by first | exact Or.inl rfl | exact Or.inr rfl)) (pgs_nil)))) (pss_one (ps_if (pt_cmpR (op_neP hr.units) (pe_ix ix_seq (C8.pe_c h_table_at hr (by decide) rfl (pa_cons (pv 0) (pa_cons (pv 2) (pa_nil)))) (pe_int) (fun _ _ => rfl)) (pe_callB call_len (by rfl) T.f_len PySem.boot_len (pa_cons (pv 3) (pa_nil))) (nomark _)) (pss_one (ps_never)) (pss_nil))))))
end JQ

-- part Dvb
set_option Elab.async false
set_option linter.all false
set_option maxRecDepth 100000
set_option maxHeartbeats 2000000
/-! Readings and derivations (printed by gend.py). -/
namespace JQ
open PySem PySem.Spec PyProof.Rows L2
abbrev N_place_from : List Str := ["row", "start", "n", "low", "high", "middle"]
theorem sc_place_from : FnScope N_place_from ["row", "start", "n"] (defScope s_place_from) := ⟨rfl, rfl, rfl, by decide +kernel, rfl, by decide +kernel, by decide +kernel⟩
def t_place_from (c : Cf)  : TS :=
  tSeq (tAsg (tVar 1) (gName 3))
  (tSeq (tAsg (tCB (rLen c.K) (tCons (tVar 0) (tNil))) (gName 4))
  (tSeq (tWhile (tTest (tOp rLtI (tVar 3) (tVar 4))) (tSeq (tAsg (tOp rDivI (tOp rAddI (tVar 3) (tVar 4)) (tC (.int 2))) (gName 5))
  (tIfS (tTest (tOp rLtI (tOp (rIx c.K) (tVar 0) (tVar 5)) (tVar 2))) (tAsg (tOp rAddI (tVar 5) (tC (.int 1))) (gName 3)) (tAsg (tVar 5) (gName 4)))))
  (tRet (tVar 3))))
theorem dv_place_from {P : Program} {w : World} {mg : Str → Option Value} {base : Heap} {K : PySem.W.Frag} (T : Tx K mg)  {f : Addr} {cdv : Value} {A : Around} {outer : List Env} {s : Shared} {H : Hp} {E : XK}
    (hr : Room 0 (A.deeper (envOfC "place_from" (defScope s_place_from) s.heap.objs.size f cdv))) : PSs (cxOf C8.CX0 P w K mg base N_place_from "place_from" (defScope s_place_from) f cdv A outer s H E).nox (defBody s_place_from) (t_place_from (cf P w K) ) :=
  pss_cons (ps_set (i := 3) sc_place_from.nd rfl (by first | exact Or.inl rfl | exact Or.inr rfl) (pv 1))
  (pss_cons (ps_set (i := 4) sc_place_from.nd rfl (by first | exact Or.inl rfl | exact Or.inr rfl) (pe_callB call_len (by rfl) T.f_len PySem.boot_len (pa_cons (pv 0) (pa_nil))))
  (pss_cons (ps_while PassesOwn.never (pt_cmpR op_lt (pv 3) (pv 4) (nomark _)) (pss_cons (ps_set (i := 5) sc_place_from.nd rfl (by first | exact Or.inl rfl | exact Or.inr rfl) (pe_op op_fdivN (pe_op op_add (pv 3) (pv 4)) (pe_int)))
  (pss_one (ps_if (pt_cmpR op_lt (pe_ix ix_seq (pv 0) (pv 5) (fun _ _ => rfl)) (pv 2) (nomark _)) (pss_one (ps_set (i := 3) sc_place_from.nd rfl (by first | exact Or.inl rfl | exact Or.inr rfl) (pe_op op_add (pv 5) (pe_int)))) (pss_one (ps_set (i := 4) sc_place_from.nd rfl (by first | exact Or.inl rfl | exact Or.inr rfl) (pv 5)))))))
  (pss_one (ps_ret (pv 3)))))
abbrev N_common : List Str := ["rows", "places", "found", "k", "agree", "j", "goal"]
theorem sc_common : FnScope N_common ["rows"] (defScope s_common) := ⟨rfl, rfl, rfl, by decide +kernel, rfl, by decide +kernel, by decide +kernel⟩
def t_common (c : Cf) (R_place_from : List DV → (DV → Prop) → Prop) : TS :=
  tSeq (tIfS (tTest (tOp (rEqP c.K) (tCB (rLen c.K) (tCons (tVar 0) (tNil))) (tC (.int 0)))) (tRet (tTup (tNil))) (tNext))
  (tSeq (tAsg (tOp rRep (tLst (tCons (tC (.int 0)) (tNil))) (tCB (rLen c.K) (tCons (tVar 0) (tNil)))) (gName 1))
  (tSeq (tAsg (tLst (tNil)) (gName 2))
  (tSeq (tAsg (tC (.int 0)) (gName 3))
  (tSeq (tAsg (tC (.int 0)) (gName 4))
  (tSeq (tWhile (tB (tCB (rAll c.K) (tCons (tLc (iRng1 (tCons (tCB (rLen c.K) (tCons (tVar 0) (tNil))) (tNil))) (gName 5) (tYes) (tOp rLtI (tOp (rIx c.K) (tVar 1) (tVar 5)) (tCB (rLen c.K) (tCons (tOp (rIx c.K) (tVar 0) (tVar 5)) (tNil)))) [5]) (tNil)))) (tSeq (tAsg (tOp (rIx c.K) (tOp (rIx c.K) (tVar 0) (tVar 3)) (tOp (rIx c.K) (tVar 1) (tVar 3))) (gName 6))
  (tSeq (tAsg (tOp rAddI (tVar 4) (tC (.int 1))) (gName 4))
  (tIfS (tTest (tOp (rEqP c.K) (tVar 4) (tCB (rLen c.K) (tCons (tVar 0) (tNil))))) (tSeq (tDrop (tBM c.K "list" rAppend (tVar 2) (tCons (tVar 6) (tNil))))
  (tSeq (tAsg (tOp rAddI (tVar 6) (tC (.int 1))) (gName 6))
  (tSeq (tAsg (tC (.int 0)) (gName 4))
  (tAsg (tCall (spR c R_place_from) [] C8.E0 (tCons (tOp (rIx c.K) (tVar 0) (tVar 3)) (tCons (tOp (rIx c.K) (tVar 1) (tVar 3)) (tCons (tVar 6) (tNil))))) (gSub (tVar 1) (tVar 3) rSetL))))) (tSeq (tAsg (tOp rModI (tOp rAddI (tVar 3) (tC (.int 1))) (tCB (rLen c.K) (tCons (tVar 0) (tNil)))) (gName 3))
  (tSeq (tAsg (tCall (spR c R_place_from) [] C8.E0 (tCons (tOp (rIx c.K) (tVar 0) (tVar 3)) (tCons (tOp (rIx c.K) (tVar 1) (tVar 3)) (tCons (tVar 6) (tNil))))) (gSub (tVar 1) (tVar 3) rSetL))
  (tIfS (tAnd (tTest (tOp rLtI (tOp (rIx c.K) (tVar 1) (tVar 3)) (tCB (rLen c.K) (tCons (tOp (rIx c.K) (tVar 0) (tVar 3)) (tNil))))) (tTest (tOp (rNeP c.K) (tOp (rIx c.K) (tOp (rIx c.K) (tVar 0) (tVar 3)) (tOp (rIx c.K) (tVar 1) (tVar 3))) (tVar 6)))) (tAsg (tC (.int 0)) (gName 4)) (tNext))))))))
  (tRet (tCB (rTupOf c.K) (tCons (tVar 2) (tNil)))))))))
theorem dv_common {P : Program} {w : World} {mg : Str → Option Value} {base : Heap} {K : PySem.W.Frag} (T : Tx K mg) {R_place_from : List DV → (DV → Prop) → Prop} (h_place_from : C8.Cal P w K mg base 1 "place_from" (spR (cf P w K) R_place_from) []) {f : Addr} {cdv : Value} {A : Around} {outer : List Env} {s : Shared} {H : Hp} {E : XK}
    (hr : Room 1 (A.deeper (envOfC "common" (defScope s_common) s.heap.objs.size f cdv))) : PSs (cxOf C8.CX0 P w K mg base N_common "common" (defScope s_common) f cdv A outer s H E).nox (defBody s_common) (t_common (cf P w K) R_place_from) :=
  pss_cons (ps_if (pt_cmpR (op_eqP hr.units) (pe_callB call_len (by rfl) T.f_len PySem.boot_len (pa_cons (pv 0) (pa_nil))) (pe_int) (nomark _)) (pss_one (ps_ret (pe_tup (pa_nil)))) (pss_nil))
  (pss_cons (ps_set (i := 1) sc_common.nd rfl (by first | exact Or.inl rfl | exact Or.inr rfl) (pe_op op_rep (pe_lst (pa_cons (pe_int) (pa_nil))) (pe_callB call_len (by rfl) T.f_len PySem.boot_len (pa_cons (pv 0) (pa_nil)))))
  (pss_cons (ps_set (i := 2) sc_common.nd rfl (by first | exact Or.inl rfl | exact Or.inr rfl) (pe_lst (pa_nil)))
  (pss_cons (ps_set (i := 3) sc_common.nd rfl (by first | exact Or.inl rfl | exact Or.inr rfl) (pe_int))
  (pss_cons (ps_set (i := 4) sc_common.nd rfl (by first | exact Or.inl rfl | exact Or.inr rfl) (pe_int))
  (pss_cons (ps_while PassesOwn.never (pt_val (pe_callB (cr_all rfl) (by rfl) T.f_all (by decide +kernel) (pa_cons (pe_lc (own := [("j", 5)]) rfl sc_common.nd (pi_range1 (by rfl) T.f_range (pa_cons (pe_callB call_len (by rfl) T.f_len PySem.boot_len (pa_cons (pv 0) (pa_nil))) (pa_nil))) (blkOk_by (own := [("j", 5)]) (N := N_common) (sc := (defScope s_common)) (by decide +kernel)) (fun _ _ _ _ _ => pg_name (i := 5) sc_common.nd rfl (by first | exact Or.inl rfl | exact Or.inr rfl)) (fun _ _ _ _ _ => pts_nil) (fun _ _ _ _ _ => pe_cmpR op_lt (pe_ix ix_seq (pv 1) (pv 5) (fun _ _ => rfl)) (pe_callB call_len (by rfl) T.f_len PySem.boot_len (pa_cons (pe_ix ix_seq (pv 0) (pv 5) (fun _ _ => rfl)) (pa_nil))) (nomark _))) (pa_nil)))) (pss_cons (ps_set (i := 6) sc_common.nd rfl (by first | exact Or.inl rfl | exact Or.inr rfl) (pe_ix ix_seq (pe_ix ix_seq (pv 0) (pv 3) (fun _ _ => rfl)) (pe_ix ix_seq (pv 1) (pv 3) (fun _ _ => rfl)) (fun _ _ => rfl)))
  (pss_cons (ps_set (i := 4) sc_common.nd rfl (by first | exact Or.inl rfl | exact Or.inr rfl) (pe_op op_add (pv 4) (pe_int)))
  (pss_one (ps_if (pt_cmpR (op_eqP hr.units) (pv 4) (pe_callB call_len (by rfl) T.f_len PySem.boot_len (pa_cons (pv 0) (pa_nil))) (nomark _)) (pss_cons (ps_expr (pe_bm PySem.F.plainAttrs_list PySem.F.slot_list_append PySem.F.type_list_append mt_append (pv 2) (pa_cons (pv 6) (pa_nil))))
  (pss_cons (ps_set (i := 6) sc_common.nd rfl (by first | exact Or.inl rfl | exact Or.inr rfl) (pe_op op_add (pv 6) (pe_int)))
  (pss_cons (ps_set (i := 4) sc_common.nd rfl (by first | exact Or.inl rfl | exact Or.inr rfl) (pe_int))
  (pss_one (ps_asg (C8.pe_c h_place_from hr (by decide) rfl (pa_cons (pe_ix ix_seq (pv 0) (pv 3) (fun _ _ => rfl)) (pa_cons (pe_ix ix_seq (pv 1) (pv 3) (fun _ _ => rfl)) (pa_cons (pv 6) (pa_nil))))) (pg_sub (pv 1) (pv 3) set_list)))))) (pss_cons (ps_set (i := 3) sc_common.nd rfl (by first | exact Or.inl rfl | exact Or.inr rfl) (pe_op op_modN (pe_op op_add (pv 3) (pe_int)) (pe_callB call_len (by rfl) T.f_len PySem.boot_len (pa_cons (pv 0) (pa_nil)))))
  (pss_cons (ps_asg (C8.pe_c h_place_from hr (by decide) rfl (pa_cons (pe_ix ix_seq (pv 0) (pv 3) (fun _ _ => rfl)) (pa_cons (pe_ix ix_seq (pv 1) (pv 3) (fun _ _ => rfl)) (pa_cons (pv 6) (pa_nil))))) (pg_sub (pv 1) (pv 3) set_list))
  (pss_one (ps_if (PW.pt (pw_and (pt_cmpR op_lt (pe_ix ix_seq (pv 1) (pv 3) (fun _ _ => rfl)) (pe_callB call_len (by rfl) T.f_len PySem.boot_len (pa_cons (pe_ix ix_seq (pv 0) (pv 3) (fun _ _ => rfl)) (pa_nil))) (nomark _)) (pw_and1 (pt_cmpR (op_neP hr.units) (pe_ix ix_seq (pe_ix ix_seq (pv 0) (pv 3) (fun _ _ => rfl)) (pe_ix ix_seq (pv 1) (pv 3) (fun _ _ => rfl)) (fun _ _ => rfl)) (pv 6) (nomark _))))) (pss_one (ps_set (i := 4) sc_common.nd rfl (by first | exact Or.inl rfl | exact Or.inr rfl) (pe_int))) (pss_nil))))))))))
  (pss_one (ps_ret (pe_callTy call_tuple_of (by rfl) T.f_tuple (by decide +kernel) (pa_cons (pv 2) (pa_nil))))))))))
abbrev N_choices : List Str := ["facts", "many", "found", "k", "rest"]
theorem sc_choices : FnScope N_choices ["facts", "many"] (defScope s_choices) := ⟨rfl, rfl, rfl, by decide +kernel, rfl, by decide +kernel, by decide +kernel⟩
def t_choices (c : Cf) (R_choices : List DV → (DV → Prop) → Prop) : TS :=
  tSeq (tIfS (tTest (tOp (rEqP c.K) (tVar 1) (tC (.int 0)))) (tRet (tLst (tCons (tTup (tNil)) (tNil)))) (tNext))
  (tSeq (tAsg (tLst (tNil)) (gName 2))
  (tSeq (tFor (iRng1 (tCons (tCB (rLen c.K) (tCons (tVar 0) (tNil))) (tNil))) (gName 3) (tFor (iList c.K (tCall (spR c R_choices) [] C8.E0 (tCons (L2.tSl (rSlL c.K) (tVar 0) (tPart (tOp rAddI (tVar 3) (tC (.int 1)))) (tNoPart)) (tCons (tOp rSubI (tVar 1) (tC (.int 1))) (tNil))))) (gName 4) (tDrop (tBM c.K "list" rAppend (tVar 2) (tCons (tOp (rCatA c.K) (tTup (tCons (tOp (rIx c.K) (tVar 0) (tVar 3)) (tNil))) (tVar 4)) (tNil))))))
  (tRet (tVar 2))))
theorem dv_choices {P : Program} {w : World} {mg : Str → Option Value} {base : Heap} {K : PySem.W.Frag} (T : Tx K mg) {n : Nat} {R_choices : List DV → (DV → Prop) → Prop} (h_choices : C8.Cal P w K mg base n "choices" (spR (cf P w K) R_choices) []) {f : Addr} {cdv : Value} {A : Around} {outer : List Env} {s : Shared} {H : Hp} {E : XK}
    (hr : Room n (A.deeper (envOfC "choices" (defScope s_choices) s.heap.objs.size f cdv))) : PSs (cxOf C8.CX0 P w K mg base N_choices "choices" (defScope s_choices) f cdv A outer s H E).nox (defBody s_choices) (t_choices (cf P w K) R_choices) :=
  pss_cons (ps_if (pt_cmpR (op_eqP hr.units) (pv 1) (pe_int) (nomark _)) (pss_one (ps_ret (pe_lst (pa_cons (pe_tup (pa_nil)) (pa_nil))))) (pss_nil))
  (pss_cons (ps_set (i := 2) sc_choices.nd rfl (by first | exact Or.inl rfl | exact Or.inr rfl) (pe_lst (pa_nil)))
  (pss_cons (ps_for PassesOwn.never rfl (pi_range1 (by rfl) T.f_range (pa_cons (pe_callB call_len (by rfl) T.f_len PySem.boot_len (pa_cons (pv 0) (pa_nil))) (pa_nil))) (pg_name (i := 3) sc_choices.nd rfl (by first | exact Or.inl rfl | exact Or.inr rfl)) (pss_one (ps_for PassesOwn.never rfl (pi_list (C8.pe_c h_choices hr (Nat.le_refl _) rfl (pa_cons (pe_slice sl_list (pv 0) (po_some (pe_op op_add (pv 3) (pe_int))) (po_none)) (pa_cons (pe_op op_sub (pv 1) (pe_int)) (pa_nil))))) (pg_name (i := 4) sc_choices.nd rfl (by first | exact Or.inl rfl | exact Or.inr rfl)) (pss_one (ps_expr (pe_bm PySem.F.plainAttrs_list PySem.F.slot_list_append PySem.F.type_list_append mt_append (pv 2) (pa_cons (pe_op op_catA (pe_tup (pa_cons (pe_ix ix_seq (pv 0) (pv 3) (fun _ _ => rfl)) (pa_nil))) (pv 4)) (pa_nil))))))))
  (pss_one (ps_ret (pv 2)))))
abbrev N_check_cut : List Str := ["catalogue", "pattern", "answer", "facts", "rows", "names", "name", "columns", "inner", "row"]
theorem sc_check_cut : FnScope N_check_cut ["catalogue", "pattern", "answer", "facts"] (defScope s_check_cut) := ⟨rfl, rfl, rfl, by decide +kernel, rfl, by decide +kernel, by decide +kernel⟩
def t_check_cut (c : Cf) (R_witnesses : List DV → (DV → Prop) → Prop) (R_ascend : List DV → (DV → Prop) → Prop) (R_table_at : List DV → (DV → Prop) → Prop) (R_meets_all : List DV → (DV → Prop) → Prop) : TS :=
  tSeq (tAsg (tCall (spR c R_witnesses) [] C8.E0 (tCons (tVar 0) (tCons (tVar 1) (tCons (tVar 2) (tNil))))) (gName 4))
  (tSeq (tAsg (tLc (iTup c.K (tVar 0)) (gTup c.K 3 (gCons (gName 6) (gCons (gName 7) (gCons (gName 8) (gNil))))) (tYes) (tVar 6) [6, 7, 8]) (gName 5))
  (tSeq (tIfS (tOr (tNot (tB (tCall (spR c R_ascend) [] C8.E0 (tCons (tVar 3) (tNil))))) (tNot (tB (tCB (rAll c.K) (tCons (tLc (iTup c.K (tVar 3)) (gTup c.K 2 (gCons (gName 6) (gCons (gName 9) (gNil)))) (tYes) (tAndV (tOp (rInX c.K) (tVar 6) (tVar 5)) (tOp (rInX c.K) (tVar 9) (tOp (rIx c.K) (tCall (spR c R_table_at) [] C8.E0 (tCons (tVar 0) (tCons (tVar 6) (tNil)))) (tC (.int 2))))) [6, 9]) (tNil)))))) (tRet (tC (.bl false))) (tNext))
  (tRet (tCall (spR c R_meets_all) [] C8.E0 (tCons (tVar 4) (tCons (tVar 3) (tNil)))))))
theorem dv_check_cut {P : Program} {w : World} {mg : Str → Option Value} {base : Heap} {K : PySem.W.Frag} (T : Tx K mg) {R_witnesses : List DV → (DV → Prop) → Prop} {R_ascend : List DV → (DV → Prop) → Prop} {R_table_at : List DV → (DV → Prop) → Prop} {R_meets_all : List DV → (DV → Prop) → Prop} (h_witnesses : C8.Cal P w K mg base 9 "witnesses" (spR (cf P w K) R_witnesses) [])  (h_ascend : C8.Cal P w K mg base 1 "ascend" (spR (cf P w K) R_ascend) [])  (h_table_at : C8.Cal P w K mg base 2 "table_at" (spR (cf P w K) R_table_at) [])  (h_meets_all : C8.Cal P w K mg base 1 "meets_all" (spR (cf P w K) R_meets_all) []) {f : Addr} {cdv : Value} {A : Around} {outer : List Env} {s : Shared} {H : Hp} {E : XK}
    (hr : Room 9 (A.deeper (envOfC "check_cut" (defScope s_check_cut) s.heap.objs.size f cdv))) : PSs (cxOf C8.CX0 P w K mg base N_check_cut "check_cut" (defScope s_check_cut) f cdv A outer s H E).nox (defBody s_check_cut) (t_check_cut (cf P w K) R_witnesses R_ascend R_table_at R_meets_all) :=
  pss_cons (ps_set (i := 4) sc_check_cut.nd rfl (by first | exact Or.inl rfl | exact Or.inr rfl) (C8.pe_c h_witnesses hr (by decide) rfl (pa_cons (pv 0) (pa_cons (pv 1) (pa_cons (pv 2) (pa_nil))))))
  (pss_cons (ps_set (i := 5) sc_check_cut.nd rfl (by first | exact Or.inl rfl | exact Or.inr rfl) (pe_lc (own := [("name", 6), ("columns", 7), ("inner", 8)]) rfl sc_check_cut.nd (pi_tup (pv 0)) (blkOk_by (own := [("name", 6), ("columns", 7), ("inner", 8)]) (N := N_check_cut) (sc := (defScope s_check_cut)) (by decide +kernel)) (fun _ _ _ _ _ => pg_tup rfl (pgs_cons (pg_name (i := 6) sc_check_cut.nd rfl (by first | exact Or.inl rfl | exact Or.inr rfl)) (pgs_cons (pg_name (i := 7) sc_check_cut.nd rfl (by first | exact Or.inl rfl | exact Or.inr rfl)) (pgs_cons (pg_name (i := 8) sc_check_cut.nd rfl (by first | exact Or.inl rfl | exact Or.inr rfl)) (pgs_nil))))) (fun _ _ _ _ _ => pts_nil) (fun _ _ _ _ _ => pv 6)))
  (pss_cons (ps_if (PW.pt (pw_or (pt_not (pt_val (C8.pe_c h_ascend hr (by decide) rfl (pa_cons (pv 3) (pa_nil))))) (pw_or1 (pt_not (pt_val (pe_callB (cr_all rfl) (by rfl) T.f_all (by decide +kernel) (pa_cons (pe_lc (own := [("name", 6), ("row", 9)]) rfl sc_check_cut.nd (pi_tup (pv 3)) (blkOk_by (own := [("name", 6), ("row", 9)]) (N := N_check_cut) (sc := (defScope s_check_cut)) (by decide +kernel)) (fun _ _ _ _ _ => pg_tup rfl (pgs_cons (pg_name (i := 6) sc_check_cut.nd rfl (by first | exact Or.inl rfl | exact Or.inr rfl)) (pgs_cons (pg_name (i := 9) sc_check_cut.nd rfl (by first | exact Or.inl rfl | exact Or.inr rfl)) (pgs_nil)))) (fun _ _ _ _ _ => pts_nil) (fun _ _ _ _ _ => pe_and (pe_cmpR (op_inX (room65 hr)) (pv 6) (pv 5) rfl) (pe_one (pe_cmpR (op_inX (room65 hr)) (pv 9) (pe_ix ix_seq (C8.pe_c h_table_at hr (by decide) rfl (pa_cons (pv 0) (pa_cons (pv 6) (pa_nil)))) (pe_int) (fun _ _ => rfl)) rfl)))) (pa_nil)))))))) (pss_one (ps_ret (pe_bl))) (pss_nil))
  (pss_one (ps_ret (C8.pe_c h_meets_all hr (by decide) rfl (pa_cons (pv 4) (pa_cons (pv 3) (pa_nil))))))))
abbrev N__law_table : List Str := ["_law_catalogue_here", "_law_name", "_law_table_here"]
theorem sc__law_table : FnScope N__law_table ["_law_catalogue_here", "_law_name"] (defScope s__law_table) := ⟨rfl, rfl, rfl, by decide +kernel, rfl, by decide +kernel, by decide +kernel⟩
def t__law_table (c : Cf)  : TS :=
  tSeq (tFor (iTup c.K (tVar 0)) (gName 2) (tIfS (tTest (tOp (rEqP c.K) (tOp (rIx c.K) (tVar 2) (tC (.int 0))) (tVar 1))) (tRet (tVar 2)) (tNext)))
  (tRet (tC .non))
theorem dv__law_table {P : Program} {w : World} {mg : Str → Option Value} {base : Heap} {K : PySem.W.Frag} (T : Tx K mg)  {f : Addr} {cdv : Value} {A : Around} {outer : List Env} {s : Shared} {H : Hp} {E : XK}
    (hr : Room 0 (A.deeper (envOfC "_law_table" (defScope s__law_table) s.heap.objs.size f cdv))) : PSs (cxOf C8.CX0 P w K mg base N__law_table "_law_table" (defScope s__law_table) f cdv A outer s H E).nox (defBody s__law_table) (t__law_table (cf P w K) ) :=
  pss_cons (ps_for PassesOwn.never rfl (pi_tup (pv 0)) (pg_name (i := 2) sc__law_table.nd rfl (by first | exact Or.inl rfl | exact Or.inr rfl)) (pss_one (ps_if (pt_cmpR (op_eqP hr.units) (pe_ix ix_seq (pv 2) (pe_int) (fun _ _ => rfl)) (pv 1) (nomark _)) (pss_one (ps_ret (pv 2))) (pss_nil))))
  (pss_one (ps_ret (pe_non)))
abbrev N__law_variables : List Str := ["_law_pattern_here", "_law_found", "_law_name", "_law_inner", "_law_k"]
theorem sc__law_variables : FnScope N__law_variables ["_law_pattern_here"] (defScope s__law_variables) := ⟨rfl, rfl, rfl, by decide +kernel, rfl, by decide +kernel, by decide +kernel⟩
def t__law_variables (c : Cf)  : TS :=
  tSeq (tAsg (tLst (tNil)) (gName 1))
  (tSeq (tFor (iTup c.K (tOp (rIx c.K) (tVar 0) (tC (.int 1)))) (gTup c.K 2 (gCons (gName 2) (gCons (gName 3) (gNil)))) (tAsg (tOp rCat (tVar 1) (tLc (iRng1 (tCons (tCB (rLen c.K) (tCons (tVar 3) (tNil))) (tNil))) (gName 4) (tAnd (tTest (tOp (rNiX c.K) (tOp (rIx c.K) (tVar 3) (tVar 4)) (tVar 1))) (tTest (tOp (rNiX c.K) (tOp (rIx c.K) (tVar 3) (tVar 4)) (L2.tSl (rSlA c.K) (tVar 3) (tNoPart) (tPart (tVar 4)))))) (tOp (rIx c.K) (tVar 3) (tVar 4)) [4])) (gName 1)))
  (tRet (tCB (rTupN c.K) (tCons (tVar 1) (tNil)))))
theorem dv__law_variables {P : Program} {w : World} {mg : Str → Option Value} {base : Heap} {K : PySem.W.Frag} (T : Tx K mg)  {f : Addr} {cdv : Value} {A : Around} {outer : List Env} {s : Shared} {H : Hp} {E : XK}
    (hr : Room 0 (A.deeper (envOfC "_law_variables" (defScope s__law_variables) s.heap.objs.size f cdv))) : PSs (cxOf C8.CX0 P w K mg base N__law_variables "_law_variables" (defScope s__law_variables) f cdv A outer s H E).nox (defBody s__law_variables) (t__law_variables (cf P w K) ) :=
  pss_cons (ps_set (i := 1) sc__law_variables.nd rfl (by first | exact Or.inl rfl | exact Or.inr rfl) (pe_lst (pa_nil)))
  (pss_cons (ps_for PassesOwn.never rfl (pi_tup (pe_ix ix_seq (pv 0) (pe_int) (fun _ _ => rfl))) (pg_tup rfl (pgs_cons (pg_name (i := 2) sc__law_variables.nd rfl (by first | exact Or.inl rfl | exact Or.inr rfl)) (pgs_cons (pg_name (i := 3) sc__law_variables.nd rfl (by first | exact Or.inl rfl | exact Or.inr rfl)) (pgs_nil)))) (pss_one (ps_set (i := 1) sc__law_variables.nd rfl (by first | exact Or.inl rfl | exact Or.inr rfl) (pe_op op_cat (pv 1) (pe_lc (own := [("_law_k", 4)]) rfl sc__law_variables.nd (pi_range1 (by rfl) T.f_range (pa_cons (pe_callB call_len (by rfl) T.f_len PySem.boot_len (pa_cons (pv 3) (pa_nil))) (pa_nil))) (blkOk_by (own := [("_law_k", 4)]) (N := N__law_variables) (sc := (defScope s__law_variables)) (by decide +kernel)) (fun _ _ _ _ _ => pg_name (i := 4) sc__law_variables.nd rfl (by first | exact Or.inl rfl | exact Or.inr rfl)) (fun _ _ _ _ _ => pts_one (PW.pt (pw_and (pt_cmpR (op_niX (room65 hr)) (pe_ix ix_seq (pv 3) (pv 4) (fun _ _ => rfl)) (pv 1) rfl) (pw_and1 (pt_cmpR (op_niX (room65 hr)) (pe_ix ix_seq (pv 3) (pv 4) (fun _ _ => rfl)) (pe_slice sl_tupA (pv 3) (po_none) (po_some (pv 4))) rfl))))) (fun _ _ _ _ _ => pe_ix ix_seq (pv 3) (pv 4) (fun _ _ => rfl)))))))
  (pss_one (ps_ret (pe_callTy cr_tupN (by rfl) T.f_tuple (by decide +kernel) (pa_cons (pv 1) (pa_nil))))))
abbrev N__law_named : List Str := ["_law_order", "_law_row", "_law_known", "_law_k"]
theorem sc__law_named : FnScope N__law_named ["_law_order", "_law_row"] (defScope s__law_named) := ⟨rfl, rfl, rfl, by decide +kernel, rfl, by decide +kernel, by decide +kernel⟩
def t__law_named (c : Cf)  : TS :=
  tSeq (tAsg (tDNewK) (gName 2))
  (tSeq (tFor (iRng1 (tCons (tCB (rLen c.K) (tCons (tVar 0) (tNil))) (tNil))) (gName 3) (sDPut (tVar 2) (tOp (rIx c.K) (tVar 0) (tVar 3)) (tOp (rIx c.K) (tVar 1) (tVar 3))))
  (tRet (tVar 2)))
theorem dv__law_named {P : Program} {w : World} {mg : Str → Option Value} {base : Heap} {K : PySem.W.Frag} (T : Tx K mg)  {f : Addr} {cdv : Value} {A : Around} {outer : List Env} {s : Shared} {H : Hp} {E : XK}
    (hr : Room 0 (A.deeper (envOfC "_law_named" (defScope s__law_named) s.heap.objs.size f cdv))) : PSs (cxOf C8.CX0 P w K mg base N__law_named "_law_named" (defScope s__law_named) f cdv A outer s H E).nox (defBody s__law_named) (t__law_named (cf P w K) ) :=
  pss_cons (ps_set (i := 2) sc__law_named.nd rfl (by first | exact Or.inl rfl | exact Or.inr rfl) (pe_dnewK))
  (pss_cons (ps_for PassesOwn.never rfl (pi_range1 (by rfl) T.f_range (pa_cons (pe_callB call_len (by rfl) T.f_len PySem.boot_len (pa_cons (pv 0) (pa_nil))) (pa_nil))) (pg_name (i := 3) sc__law_named.nd rfl (by first | exact Or.inl rfl | exact Or.inr rfl)) (pss_one (ps_dput (hu_of hr) (pv 2) (pe_ix ix_seq (pv 0) (pv 3) (fun _ _ => rfl)) (pe_ix ix_seq (pv 1) (pv 3) (fun _ _ => rfl)) rfl)))
  (pss_one (ps_ret (pv 2))))
abbrev N__law_sets : List Str := ["_law_facts_here", "_law_many", "_law_found", "_law_k", "_law_longer", "_law_one", "_law_fact"]
theorem sc__law_sets : FnScope N__law_sets ["_law_facts_here", "_law_many"] (defScope s__law_sets) := ⟨rfl, rfl, rfl, by decide +kernel, rfl, by decide +kernel, by decide +kernel⟩
def t__law_sets (c : Cf)  : TS :=
  tSeq (tAsg (tLst (tCons (tTup (tNil)) (tNil))) (gName 2))
  (tSeq (tFor (iRng1 (tCons (tVar 1) (tNil))) (gName 3) (tSeq (tAsg (tLst (tNil)) (gName 4))
  (tSeq (tFor (iList c.K (tVar 2)) (gName 5) (tAsg (tOp rCat (tVar 4) (tLc (iList c.K (tVar 0)) (gName 6) (tOr (tTest (tOp (rEqP c.K) (tCB (rLen c.K) (tCons (tVar 5) (tNil))) (tC (.int 0)))) (tTest (tOp (rLtD c.K) (tOp (rIx c.K) (tVar 5) (tUn (rU fun i => .int (-i)) (tC (.int 1)))) (tVar 6)))) (tOp (rCatA c.K) (tVar 5) (tTup (tCons (tVar 6) (tNil)))) [6])) (gName 4)))
  (tAsg (tVar 4) (gName 2)))))
  (tRet (tVar 2)))
theorem dv__law_sets {P : Program} {w : World} {mg : Str → Option Value} {base : Heap} {K : PySem.W.Frag} (T : Tx K mg)  {f : Addr} {cdv : Value} {A : Around} {outer : List Env} {s : Shared} {H : Hp} {E : XK}
    (hr : Room 0 (A.deeper (envOfC "_law_sets" (defScope s__law_sets) s.heap.objs.size f cdv))) : PSs (cxOf C8.CX0 P w K mg base N__law_sets "_law_sets" (defScope s__law_sets) f cdv A outer s H E).nox (defBody s__law_sets) (t__law_sets (cf P w K) ) :=
  pss_cons (ps_set (i := 2) sc__law_sets.nd rfl (by first | exact Or.inl rfl | exact Or.inr rfl) (pe_lst (pa_cons (pe_tup (pa_nil)) (pa_nil))))
  (pss_cons (ps_for PassesOwn.never rfl (pi_range1 (by rfl) T.f_range (pa_cons (pv 1) (pa_nil))) (pg_name (i := 3) sc__law_sets.nd rfl (by first | exact Or.inl rfl | exact Or.inr rfl)) (pss_cons (ps_set (i := 4) sc__law_sets.nd rfl (by first | exact Or.inl rfl | exact Or.inr rfl) (pe_lst (pa_nil)))
  (pss_cons (ps_for PassesOwn.never rfl (pi_list (pv 2)) (pg_name (i := 5) sc__law_sets.nd rfl (by first | exact Or.inl rfl | exact Or.inr rfl)) (pss_one (ps_set (i := 4) sc__law_sets.nd rfl (by first | exact Or.inl rfl | exact Or.inr rfl) (pe_op op_cat (pv 4) (pe_lc (own := [("_law_fact", 6)]) rfl sc__law_sets.nd (pi_list (pv 0)) (blkOk_by (own := [("_law_fact", 6)]) (N := N__law_sets) (sc := (defScope s__law_sets)) (by decide +kernel)) (fun _ _ _ _ _ => pg_name (i := 6) sc__law_sets.nd rfl (by first | exact Or.inl rfl | exact Or.inr rfl)) (fun _ _ _ _ _ => pts_one (PW.pt (pw_or (pt_cmpR (op_eqP hr.units) (pe_callB call_len (by rfl) T.f_len PySem.boot_len (pa_cons (pv 5) (pa_nil))) (pe_int) (nomark _)) (pw_or1 (pt_cmpR (op_ltD hr.units) (pe_ix ix_seq (pv 5) (pe_un un_neg (pe_int)) (fun _ _ => rfl)) (pv 6) (nomark _)))))) (fun _ _ _ _ _ => pe_op op_catA (pv 5) (pe_tup (pa_cons (pv 6) (pa_nil)))))))))
  (pss_one (ps_set (i := 2) sc__law_sets.nd rfl (by first | exact Or.inl rfl | exact Or.inr rfl) (pv 4))))))
  (pss_one (ps_ret (pv 2))))
abbrev N__law_gone : List Str := ["_law_catalogue_here", "_law_pattern_here", "_law_answer", "_law_facts_here", "_law_name", "_law_row"]
theorem sc__law_gone : FnScope N__law_gone ["_law_catalogue_here", "_law_pattern_here", "_law_answer", "_law_facts_here"] (defScope s__law_gone) := ⟨rfl, rfl, rfl, by decide +kernel, rfl, by decide +kernel, by decide +kernel⟩
def t__law_gone (c : Cf) (R_without_row : List DV → (DV → Prop) → Prop) (R_plain_answers : List DV → (DV → Prop) → Prop) : TS :=
  tSeq (tFor (iTup c.K (tVar 3)) (gTup c.K 2 (gCons (gName 4) (gCons (gName 5) (gNil)))) (tAsg (tCall (spR c R_without_row) [] C8.E0 (tCons (tVar 0) (tCons (tVar 4) (tCons (tVar 5) (tNil))))) (gName 0)))
  (tRet (tOp (rNiX c.K) (tVar 2) (tCall (spR c R_plain_answers) [] C8.E0 (tCons (tVar 0) (tCons (tVar 1) (tNil))))))
theorem dv__law_gone {P : Program} {w : World} {mg : Str → Option Value} {base : Heap} {K : PySem.W.Frag} (T : Tx K mg) {R_without_row : List DV → (DV → Prop) → Prop} {R_plain_answers : List DV → (DV → Prop) → Prop} (h_without_row : C8.Cal P w K mg base 4 "without_row" (spR (cf P w K) R_without_row) [])  (h_plain_answers : C8.Cal P w K mg base 5 "plain_answers" (spR (cf P w K) R_plain_answers) []) {f : Addr} {cdv : Value} {A : Around} {outer : List Env} {s : Shared} {H : Hp} {E : XK}
    (hr : Room 5 (A.deeper (envOfC "_law_gone" (defScope s__law_gone) s.heap.objs.size f cdv))) : PSs (cxOf C8.CX0 P w K mg base N__law_gone "_law_gone" (defScope s__law_gone) f cdv A outer s H E).nox (defBody s__law_gone) (t__law_gone (cf P w K) R_without_row R_plain_answers) :=
  pss_cons (ps_for PassesOwn.never rfl (pi_tup (pv 3)) (pg_tup rfl (pgs_cons (pg_name (i := 4) sc__law_gone.nd rfl (by first | exact Or.inl rfl | exact Or.inr rfl)) (pgs_cons (pg_name (i := 5) sc__law_gone.nd rfl (by first | exact Or.inl rfl | exact Or.inr rfl)) (pgs_nil)))) (pss_one (ps_set (i := 0) sc__law_gone.nd rfl (by first | exact Or.inl rfl | exact Or.inr rfl) (C8.pe_c h_without_row hr (by decide) rfl (pa_cons (pv 0) (pa_cons (pv 4) (pa_cons (pv 5) (pa_nil))))))))
  (pss_one (ps_ret (pe_cmpR (op_niX (room65 hr)) (pv 2) (C8.pe_c h_plain_answers hr (by decide) rfl (pa_cons (pv 0) (pa_cons (pv 1) (pa_nil)))) rfl)))
abbrev N__law_agrees : List Str := ["_law_inner", "_law_row", "_law_known", "_law_seen", "_law_k"]
theorem sc__law_agrees : FnScope N__law_agrees ["_law_inner", "_law_row", "_law_known"] (defScope s__law_agrees) := ⟨rfl, rfl, rfl, by decide +kernel, rfl, by decide +kernel, by decide +kernel⟩
def t__law_agrees (c : Cf)  : TS :=
  tSeq (tAsg (tDNewK) (gName 3))
  (tSeq (tFor (iRng1 (tCons (tCB (rLen c.K) (tCons (tVar 0) (tNil))) (tNil))) (gName 4) (tSeq (tIfS (tAnd (tB (tDIn (tOp (rIx c.K) (tVar 0) (tVar 4)) (tVar 2))) (tTest (tOp (rNeP c.K) (tDGet (tVar 2) (tOp (rIx c.K) (tVar 0) (tVar 4))) (tOp (rIx c.K) (tVar 1) (tVar 4))))) (tRet (tC (.bl false))) (tNext))
  (tSeq (tIfS (tAnd (tB (tDIn (tOp (rIx c.K) (tVar 0) (tVar 4)) (tVar 3))) (tTest (tOp (rNeP c.K) (tDGet (tVar 3) (tOp (rIx c.K) (tVar 0) (tVar 4))) (tOp (rIx c.K) (tVar 1) (tVar 4))))) (tRet (tC (.bl false))) (tNext))
  (sDPut (tVar 3) (tOp (rIx c.K) (tVar 0) (tVar 4)) (tOp (rIx c.K) (tVar 1) (tVar 4))))))
  (tRet (tC (.bl true))))
theorem dv__law_agrees {P : Program} {w : World} {mg : Str → Option Value} {base : Heap} {K : PySem.W.Frag} (T : Tx K mg)  {f : Addr} {cdv : Value} {A : Around} {outer : List Env} {s : Shared} {H : Hp} {E : XK}
    (hr : Room 0 (A.deeper (envOfC "_law_agrees" (defScope s__law_agrees) s.heap.objs.size f cdv))) : PSs (cxOf C8.CX0 P w K mg base N__law_agrees "_law_agrees" (defScope s__law_agrees) f cdv A outer s H E).nox (defBody s__law_agrees) (t__law_agrees (cf P w K) ) :=
  pss_cons (ps_set (i := 3) sc__law_agrees.nd rfl (by first | exact Or.inl rfl | exact Or.inr rfl) (pe_dnewK))
  (pss_cons (ps_for PassesOwn.never rfl (pi_range1 (by rfl) T.f_range (pa_cons (pe_callB call_len (by rfl) T.f_len PySem.boot_len (pa_cons (pv 0) (pa_nil))) (pa_nil))) (pg_name (i := 4) sc__law_agrees.nd rfl (by first | exact Or.inl rfl | exact Or.inr rfl)) (pss_cons (ps_if (PW.pt (pw_and (pt_cmp (pc_din (hu_of hr) (pe_ix ix_seq (pv 0) (pv 4) (fun _ _ => rfl)) (pv 2)) rfl) (pw_and1 (pt_cmpR (op_neP hr.units) (pe_dget (hu_of hr) (pv 2) (pe_ix ix_seq (pv 0) (pv 4) (fun _ _ => rfl)) (fun _ _ => rfl)) (pe_ix ix_seq (pv 1) (pv 4) (fun _ _ => rfl)) (nomark _))))) (pss_one (ps_ret (pe_bl))) (pss_nil))
  (pss_cons (ps_if (PW.pt (pw_and (pt_cmp (pc_din (hu_of hr) (pe_ix ix_seq (pv 0) (pv 4) (fun _ _ => rfl)) (pv 3)) rfl) (pw_and1 (pt_cmpR (op_neP hr.units) (pe_dget (hu_of hr) (pv 3) (pe_ix ix_seq (pv 0) (pv 4) (fun _ _ => rfl)) (fun _ _ => rfl)) (pe_ix ix_seq (pv 1) (pv 4) (fun _ _ => rfl)) (nomark _))))) (pss_one (ps_ret (pe_bl))) (pss_nil))
  (pss_one (ps_dput (hu_of hr) (pv 3) (pe_ix ix_seq (pv 0) (pv 4) (fun _ _ => rfl)) (pe_ix ix_seq (pv 1) (pv 4) (fun _ _ => rfl)) rfl)))))
  (pss_one (ps_ret (pe_bl))))
abbrev N_least_cut : List Str := ["catalogue", "pattern", "answer", "rows", "facts", "many", "chosen"]
theorem sc_least_cut : FnScope N_least_cut ["catalogue", "pattern", "answer"] (defScope s_least_cut) := ⟨rfl, rfl, rfl, by decide +kernel, rfl, by decide +kernel, by decide +kernel⟩
def t_least_cut (c : Cf) (R_witnesses : List DV → (DV → Prop) → Prop) (R_facts_in : List DV → (DV → Prop) → Prop) (R_choices : List DV → (DV → Prop) → Prop) (R_meets_all : List DV → (DV → Prop) → Prop) : TS :=
  tSeq (tAsg (tCall (spR c R_witnesses) [] C8.E0 (tCons (tVar 0) (tCons (tVar 1) (tCons (tVar 2) (tNil))))) (gName 3))
  (tSeq (tAsg (tCall (spR c R_facts_in) [] C8.E0 (tCons (tVar 3) (tNil))) (gName 4))
  (tSeq (tIfS (tTest (tOp rGtI (tCB (rLen c.K) (tCons (tVar 4) (tNil))) (tC (.int 16)))) (tNever) (tNext))
  (tSeq (tAsg (tC (.int 1)) (gName 5))
  (tWhile (tB (tC (.bl true))) (tSeq (tFor (iList c.K (tCall (spR c R_choices) [] C8.E0 (tCons (tVar 4) (tCons (tVar 5) (tNil))))) (gName 6) (tIfS (tB (tCall (spR c R_meets_all) [] C8.E0 (tCons (tVar 3) (tCons (tVar 6) (tNil))))) (tRet (tVar 6)) (tNext)))
  (tAsg (tOp rAddI (tVar 5) (tC (.int 1))) (gName 5)))))))
theorem dv_least_cut {P : Program} {w : World} {mg : Str → Option Value} {base : Heap} {K : PySem.W.Frag} (T : Tx K mg) {R_witnesses : List DV → (DV → Prop) → Prop} {R_facts_in : List DV → (DV → Prop) → Prop} {R_choices : List DV → (DV → Prop) → Prop} {R_meets_all : List DV → (DV → Prop) → Prop} (h_witnesses : C8.Cal P w K mg base 9 "witnesses" (spR (cf P w K) R_witnesses) [])  (h_facts_in : C8.Cal P w K mg base 1 "facts_in" (spR (cf P w K) R_facts_in) [])  (h_choices : C8.Cal P w K mg base 20 "choices" (spR (cf P w K) R_choices) [])  (h_meets_all : C8.Cal P w K mg base 1 "meets_all" (spR (cf P w K) R_meets_all) []) {f : Addr} {cdv : Value} {A : Around} {outer : List Env} {s : Shared} {H : Hp} {E : XK}
    (hr : Room 20 (A.deeper (envOfC "least_cut" (defScope s_least_cut) s.heap.objs.size f cdv))) : PSs (cxOf C8.CX0 P w K mg base N_least_cut "least_cut" (defScope s_least_cut) f cdv A outer s H E).nox (defBody s_least_cut) (t_least_cut (cf P w K) R_witnesses R_facts_in R_choices R_meets_all) :=
  pss_cons (ps_set (i := 3) sc_least_cut.nd rfl (by first | exact Or.inl rfl | exact Or.inr rfl) (C8.pe_c h_witnesses hr (by decide) rfl (pa_cons (pv 0) (pa_cons (pv 1) (pa_cons (pv 2) (pa_nil))))))
  (pss_cons (ps_set (i := 4) sc_least_cut.nd rfl (by first | exact Or.inl rfl | exact Or.inr rfl) (C8.pe_c h_facts_in hr (by decide) rfl (pa_cons (pv 3) (pa_nil))))
  (pss_cons (ps_if (pt_cmpR op_gt (pe_callB call_len (by rfl) T.f_len PySem.boot_len (pa_cons (pv 4) (pa_nil))) (C8.pe_gc rfl T.g_FACT_LIMIT) (nomark _)) (pss_one (ps_never)) (pss_nil))
  (pss_cons (ps_set (i := 5) sc_least_cut.nd rfl (by first | exact Or.inl rfl | exact Or.inr rfl) (pe_int))
  (pss_one (ps_while PassesOwn.never (pt_val (pe_bl)) (pss_cons (ps_for PassesOwn.never rfl (pi_list (C8.pe_c h_choices hr (by decide) rfl (pa_cons (pv 4) (pa_cons (pv 5) (pa_nil))))) (pg_name (i := 6) sc_least_cut.nd rfl (by first | exact Or.inl rfl | exact Or.inr rfl)) (pss_one (ps_if (pt_val (C8.pe_c h_meets_all hr (by decide) rfl (pa_cons (pv 3) (pa_cons (pv 6) (pa_nil))))) (pss_one (ps_ret (pv 6))) (pss_nil))))
  (pss_one (ps_set (i := 5) sc_least_cut.nd rfl (by first | exact Or.inl rfl | exact Or.inr rfl) (pe_op op_add (pv 5) (pe_int))))))))))
abbrev N_plain_assignments : List Str := ["catalogue", "pattern", "found", "name", "variables", "longer", "assignment", "row", "fresh"]
theorem sc_plain_assignments : FnScope N_plain_assignments ["catalogue", "pattern"] (defScope s_plain_assignments) := ⟨rfl, rfl, rfl, by decide +kernel, rfl, by decide +kernel, by decide +kernel⟩
def t_plain_assignments (c : Cf) (R_table_at : List DV → (DV → Prop) → Prop) (R_agreed : List DV → (DV → Prop) → Prop) : TS :=
  tSeq (tAsg (tLst (tCons (tDNewK) (tNil))) (gName 2))
  (tSeq (tFor (iTup c.K (tOp (rIx c.K) (tVar 1) (tC (.int 1)))) (gTup c.K 2 (gCons (gName 3) (gCons (gName 4) (gNil)))) (tSeq (tAsg (tLst (tNil)) (gName 5))
  (tSeq (tFor (iList c.K (tVar 2)) (gName 6) (tFor (iTup c.K (tOp (rIx c.K) (tCall (spR c R_table_at) [] C8.E0 (tCons (tVar 0) (tCons (tVar 3) (tNil)))) (tC (.int 2)))) (gName 7) (tSeq (tAsg (tCall (spR c R_agreed) [] C8.E0 (tCons (tVar 6) (tCons (tVar 4) (tCons (tVar 7) (tNil))))) (gName 8))
  (tIfS (tTest (tOp rNotN (tVar 8) (tC .non))) (tDrop (tBM c.K "list" rAppend (tVar 5) (tCons (tVar 8) (tNil)))) (tNext)))))
  (tAsg (tVar 5) (gName 2)))))
  (tRet (tVar 2)))
theorem dv_plain_assignments {P : Program} {w : World} {mg : Str → Option Value} {base : Heap} {K : PySem.W.Frag} (T : Tx K mg) {R_table_at : List DV → (DV → Prop) → Prop} {R_agreed : List DV → (DV → Prop) → Prop} (h_table_at : C8.Cal P w K mg base 2 "table_at" (spR (cf P w K) R_table_at) [])  (h_agreed : C8.Cal P w K mg base 1 "agreed" (spR (cf P w K) R_agreed) []) {f : Addr} {cdv : Value} {A : Around} {outer : List Env} {s : Shared} {H : Hp} {E : XK}
    (hr : Room 2 (A.deeper (envOfC "plain_assignments" (defScope s_plain_assignments) s.heap.objs.size f cdv))) : PSs (cxOf C8.CX0 P w K mg base N_plain_assignments "plain_assignments" (defScope s_plain_assignments) f cdv A outer s H E).nox (defBody s_plain_assignments) (t_plain_assignments (cf P w K) R_table_at R_agreed) :=
  pss_cons (ps_set (i := 2) sc_plain_assignments.nd rfl (by first | exact Or.inl rfl | exact Or.inr rfl) (pe_lst (pa_cons (pe_dnewK) (pa_nil))))
  (pss_cons (ps_for PassesOwn.never rfl (pi_tup (pe_ix ix_seq (pv 1) (pe_int) (fun _ _ => rfl))) (pg_tup rfl (pgs_cons (pg_name (i := 3) sc_plain_assignments.nd rfl (by first | exact Or.inl rfl | exact Or.inr rfl)) (pgs_cons (pg_name (i := 4) sc_plain_assignments.nd rfl (by first | exact Or.inl rfl | exact Or.inr rfl)) (pgs_nil)))) (pss_cons (ps_set (i := 5) sc_plain_assignments.nd rfl (by first | exact Or.inl rfl | exact Or.inr rfl) (pe_lst (pa_nil)))
  (pss_cons (ps_for PassesOwn.never rfl (pi_list (pv 2)) (pg_name (i := 6) sc_plain_assignments.nd rfl (by first | exact Or.inl rfl | exact Or.inr rfl)) (pss_one (ps_for PassesOwn.never rfl (pi_tup (pe_ix ix_seq (C8.pe_c h_table_at hr (by decide) rfl (pa_cons (pv 0) (pa_cons (pv 3) (pa_nil)))) (pe_int) (fun _ _ => rfl))) (pg_name (i := 7) sc_plain_assignments.nd rfl (by first | exact Or.inl rfl | exact Or.inr rfl)) (pss_cons (ps_set (i := 8) sc_plain_assignments.nd rfl (by first | exact Or.inl rfl | exact Or.inr rfl) (C8.pe_c h_agreed hr (by decide) rfl (pa_cons (pv 6) (pa_cons (pv 4) (pa_cons (pv 7) (pa_nil))))))
  (pss_one (ps_if (pt_cmpR op_notN (pv 8) pe_non (nomark _)) (pss_one (ps_expr (pe_bm PySem.F.plainAttrs_list PySem.F.slot_list_append PySem.F.type_list_append mt_append (pv 5) (pa_cons (pv 8) (pa_nil))))) (pss_nil)))))))
  (pss_one (ps_set (i := 2) sc_plain_assignments.nd rfl (by first | exact Or.inl rfl | exact Or.inr rfl) (pv 5))))))
  (pss_one (ps_ret (pv 2))))
abbrev N_agreed : List Str := ["assignment", "variables", "row", "fresh", "k"]
theorem sc_agreed : FnScope N_agreed ["assignment", "variables", "row"] (defScope s_agreed) := ⟨rfl, rfl, rfl, by decide +kernel, rfl, by decide +kernel, by decide +kernel⟩
def t_agreed (c : Cf)  : TS :=
  tSeq (tAsg (tCB rDictOf (tCons (tVar 0) (tNil))) (gName 3))
  (tSeq (tFor (iRng1 (tCons (tCB (rLen c.K) (tCons (tVar 1) (tNil))) (tNil))) (gName 4) (tSeq (tIfS (tTest (tOp (rNeP c.K) (tDGet2 (tVar 3) (tOp (rIx c.K) (tVar 1) (tVar 4)) (tOp (rIx c.K) (tVar 2) (tVar 4))) (tOp (rIx c.K) (tVar 2) (tVar 4)))) (tRet (tC .non)) (tNext))
  (sDPut (tVar 3) (tOp (rIx c.K) (tVar 1) (tVar 4)) (tOp (rIx c.K) (tVar 2) (tVar 4)))))
  (tRet (tVar 3)))
theorem dv_agreed {P : Program} {w : World} {mg : Str → Option Value} {base : Heap} {K : PySem.W.Frag} (T : Tx K mg)  {f : Addr} {cdv : Value} {A : Around} {outer : List Env} {s : Shared} {H : Hp} {E : XK}
    (hr : Room 0 (A.deeper (envOfC "agreed" (defScope s_agreed) s.heap.objs.size f cdv))) : PSs (cxOf C8.CX0 P w K mg base N_agreed "agreed" (defScope s_agreed) f cdv A outer s H E).nox (defBody s_agreed) (t_agreed (cf P w K) ) :=
  pss_cons (ps_set (i := 3) sc_agreed.nd rfl (by first | exact Or.inl rfl | exact Or.inr rfl) (pe_callTy cr_dictOf (by rfl) T.f_dict (by decide +kernel) (pa_cons (pv 0) (pa_nil))))
  (pss_cons (ps_for PassesOwn.never rfl (pi_range1 (by rfl) T.f_range (pa_cons (pe_callB call_len (by rfl) T.f_len PySem.boot_len (pa_cons (pv 1) (pa_nil))) (pa_nil))) (pg_name (i := 4) sc_agreed.nd rfl (by first | exact Or.inl rfl | exact Or.inr rfl)) (pss_cons (ps_if (pt_cmpR (op_neP hr.units) (pe_dget2 (hu_of hr) (pv 3) (pe_ix ix_seq (pv 1) (pv 4) (fun _ _ => rfl)) (pe_ix ix_seq (pv 2) (pv 4) (fun _ _ => rfl)) ⟨rfl, rfl, rfl, rfl⟩) (pe_ix ix_seq (pv 2) (pv 4) (fun _ _ => rfl)) (nomark _)) (pss_one (ps_ret (pe_non))) (pss_nil))
  (pss_one (ps_dput (hu_of hr) (pv 3) (pe_ix ix_seq (pv 1) (pv 4) (fun _ _ => rfl)) (pe_ix ix_seq (pv 2) (pv 4) (fun _ _ => rfl)) rfl))))
  (pss_one (ps_ret (pv 3))))
abbrev N_plain_answers : List Str := ["catalogue", "pattern", "found", "assignment", "variable"]
theorem sc_plain_answers : FnScope N_plain_answers ["catalogue", "pattern"] (defScope s_plain_answers) := ⟨rfl, rfl, rfl, by decide +kernel, rfl, by decide +kernel, by decide +kernel⟩
def t_plain_answers (c : Cf) (R_check_fit : List DV → (DV → Prop) → Prop) (R_plain_assignments : List DV → (DV → Prop) → Prop) : TS :=
  tSeq (tDrop (tCall (spR c R_check_fit) [] C8.E0 (tCons (tVar 0) (tCons (tVar 1) (tNil)))))
  (tSeq (tAsg (tDNewX c) (gName 2))
  (tSeq (tFor (iList c.K (tCall (spR c R_plain_assignments) [] C8.E0 (tCons (tVar 0) (tCons (tVar 1) (tNil))))) (gName 3) (sKsPut c (tVar 2) (tCB (rTupOf c.K) (tCons (tLc (iTup c.K (tOp (rIx c.K) (tVar 1) (tC (.int 0)))) (gName 4) (tYes) (tDGet (tVar 3) (tVar 4)) [4]) (tNil))) (tC (.bl true))))
  (tRet (tCB (rTupOf c.K) (tCons (tCB (rSortKs c) (tCons (tVar 2) (tNil))) (tNil))))))
theorem dv_plain_answers {P : Program} {w : World} {mg : Str → Option Value} {base : Heap} {K : PySem.W.Frag} (T : Tx K mg) {R_check_fit : List DV → (DV → Prop) → Prop} {R_plain_assignments : List DV → (DV → Prop) → Prop} (h_check_fit : C8.Cal P w K mg base 4 "check_fit" (spR (cf P w K) R_check_fit) [])  (h_plain_assignments : C8.Cal P w K mg base 3 "plain_assignments" (spR (cf P w K) R_plain_assignments) []) {f : Addr} {cdv : Value} {A : Around} {outer : List Env} {s : Shared} {H : Hp} {E : XK}
    (hr : Room 4 (A.deeper (envOfC "plain_answers" (defScope s_plain_answers) s.heap.objs.size f cdv))) : PSs (cxOf C8.CX0 P w K mg base N_plain_answers "plain_answers" (defScope s_plain_answers) f cdv A outer s H E).nox (defBody s_plain_answers) (t_plain_answers (cf P w K) R_check_fit R_plain_assignments) :=
  pss_cons (ps_expr (C8.pe_c h_check_fit hr (by decide) rfl (pa_cons (pv 0) (pa_cons (pv 1) (pa_nil)))))
  (pss_cons (ps_set (i := 2) sc_plain_answers.nd rfl (by first | exact Or.inl rfl | exact Or.inr rfl) (pe_dnewX))
  (pss_cons (ps_for PassesOwn.never rfl (pi_list (C8.pe_c h_plain_assignments hr (by decide) rfl (pa_cons (pv 0) (pa_cons (pv 1) (pa_nil))))) (pg_name (i := 3) sc_plain_answers.nd rfl (by first | exact Or.inl rfl | exact Or.inr rfl)) (pss_one (ps_ksput hr (pv 2) (pe_callTy call_tuple_of (by rfl) T.f_tuple (by decide +kernel) (pa_cons (pe_lc (own := [("variable", 4)]) rfl sc_plain_answers.nd (pi_tup (pe_ix ix_seq (pv 1) (pe_int) (fun _ _ => rfl))) (blkOk_by (own := [("variable", 4)]) (N := N_plain_answers) (sc := (defScope s_plain_answers)) (by decide +kernel)) (fun _ _ _ _ _ => pg_name (i := 4) sc_plain_answers.nd rfl (by first | exact Or.inl rfl | exact Or.inr rfl)) (fun _ _ _ _ _ => pts_nil) (fun _ _ _ _ _ => pe_dget (hu_of hr) (pv 3) (pv 4) (fun _ _ => rfl))) (pa_nil))) (pe_bl) rfl)))
  (pss_one (ps_ret (pe_callTy call_tuple_of (by rfl) T.f_tuple (by decide +kernel) (pa_cons (pe_callB (cr_sortKs rfl hr.units) (by rfl) T.f_sorted (by decide +kernel) (pa_cons (pv 2) (pa_nil))) (pa_nil)))))))
abbrev N_facts_in : List Str := ["rows", "found", "row", "fact"]
theorem sc_facts_in : FnScope N_facts_in ["rows"] (defScope s_facts_in) := ⟨rfl, rfl, rfl, by decide +kernel, rfl, by decide +kernel, by decide +kernel⟩
def t_facts_in (c : Cf)  : TS :=
  tSeq (tAsg (tDNewX c) (gName 1))
  (tSeq (tFor (iTup c.K (tVar 0)) (gName 2) (tFor (iTup c.K (tVar 2)) (gName 3) (sKsPut c (tVar 1) (tVar 3) (tC (.bl true)))))
  (tRet (tCB (rSortKs c) (tCons (tVar 1) (tNil)))))
theorem dv_facts_in {P : Program} {w : World} {mg : Str → Option Value} {base : Heap} {K : PySem.W.Frag} (T : Tx K mg)  {f : Addr} {cdv : Value} {A : Around} {outer : List Env} {s : Shared} {H : Hp} {E : XK}
    (hr : Room 0 (A.deeper (envOfC "facts_in" (defScope s_facts_in) s.heap.objs.size f cdv))) : PSs (cxOf C8.CX0 P w K mg base N_facts_in "facts_in" (defScope s_facts_in) f cdv A outer s H E).nox (defBody s_facts_in) (t_facts_in (cf P w K) ) :=
  pss_cons (ps_set (i := 1) sc_facts_in.nd rfl (by first | exact Or.inl rfl | exact Or.inr rfl) (pe_dnewX))
  (pss_cons (ps_for PassesOwn.never rfl (pi_tup (pv 0)) (pg_name (i := 2) sc_facts_in.nd rfl (by first | exact Or.inl rfl | exact Or.inr rfl)) (pss_one (ps_for PassesOwn.never rfl (pi_tup (pv 2)) (pg_name (i := 3) sc_facts_in.nd rfl (by first | exact Or.inl rfl | exact Or.inr rfl)) (pss_one (ps_ksput hr (pv 1) (pv 3) (pe_bl) rfl)))))
  (pss_one (ps_ret (pe_callB (cr_sortKs rfl hr.units) (by rfl) T.f_sorted (by decide +kernel) (pa_cons (pv 1) (pa_nil))))))
abbrev N__law_cut : List Str := ["_law_catalogue_here", "_law_pattern_here", "_law_answer", "_law_found"]
theorem sc__law_cut : FnScope N__law_cut ["_law_catalogue_here", "_law_pattern_here", "_law_answer"] (defScope s__law_cut) := ⟨rfl, rfl, rfl, by decide +kernel, rfl, by decide +kernel, by decide +kernel⟩
def t__law_cut (c : Cf) (R_least_cut : List DV → (DV → Prop) → Prop) : TS :=
  tSeq (fun D σ H => (tAsg (tCall (spR c R_least_cut) [] C8.E0 (tCons (tVar 0) (tCons (tVar 1) (tCons (tVar 2) (tNil))))) (gName 3)) D σ H)
  (tRet (tVar 3))
theorem dv__law_cut {P : Program} {w : World} {mg : Str → Option Value} {base : Heap} {K : PySem.W.Frag} (T : Tx K mg) {R_least_cut : List DV → (DV → Prop) → Prop} (h_least_cut : C8.Cal P w K mg base 21 "least_cut" (spR (cf P w K) R_least_cut) []) {f : Addr} {cdv : Value} {A : Around} {outer : List Env} {s : Shared} {H : Hp} {E : XK}
    (hr : Room 21 (A.deeper (envOfC "_law_cut" (defScope s__law_cut) s.heap.objs.size f cdv))) : PSs (cxOf C8.CX0 P w K mg base N__law_cut "_law_cut" (defScope s__law_cut) f cdv A outer s H E).nox (defBody s__law_cut) (t__law_cut (cf P w K) R_least_cut) :=
  pss_cons (ps_try_only (tb := fun _ => tAsg (tCall (spR (cf P w K) R_least_cut) [] C8.E0 (tCons (tVar 0) (tCons (tVar 1) (tCons (tVar 2) (tNil))))) (gName 3)) (ts := fun _ _ _ => tRet (tC .non)) (Wout := fun _ _ _ _ => False) rfl rfl ⟨rfl, by decide, Or.inl T.x_TooLarge⟩ takes0 (fun W pn xe tk _ => pss_one (ps_set (i := 3) sc__law_cut.nd rfl (by first | exact Or.inl rfl | exact Or.inr rfl) (C8.pe_c h_least_cut hr (by decide) rfl (pa_cons (pv 0) (pa_cons (pv 1) (pa_cons (pv 2) (pa_nil))))))) (fun a oe cls d pn hz hf => pss_one (ps_ret (pe_non))))
  (pss_one (ps_ret (pv 3)))
abbrev N__law_assignments : List Str := ["_law_catalogue_here", "_law_pattern_here", "_law_order", "_law_row"]
theorem sc__law_assignments : FnScope N__law_assignments ["_law_catalogue_here", "_law_pattern_here"] (defScope s__law_assignments) := ⟨rfl, rfl, rfl, by decide +kernel, rfl, by decide +kernel, by decide +kernel⟩
def t__law_assignments (c : Cf) (R__law_variables : List DV → (DV → Prop) → Prop) (R__law_partials : List DV → (DV → Prop) → Prop) (R__law_named : List DV → (DV → Prop) → Prop) : TS :=
  tSeq (tAsg (tCall (spR c R__law_variables) [] C8.E0 (tCons (tVar 1) (tNil))) (gName 2))
  (tRet (tLc (iList c.K (tOp (rIx c.K) (tCall (spR c R__law_partials) [] C8.E0 (tCons (tVar 0) (tCons (tVar 1) (tCons (tVar 2) (tNil))))) (tUn (rU fun i => .int (-i)) (tC (.int 1))))) (gName 3) (tYes) (tCall (spR c R__law_named) [] C8.E0 (tCons (tVar 2) (tCons (tVar 3) (tNil)))) [3]))
theorem dv__law_assignments {P : Program} {w : World} {mg : Str → Option Value} {base : Heap} {K : PySem.W.Frag} (T : Tx K mg) {R__law_variables : List DV → (DV → Prop) → Prop} {R__law_partials : List DV → (DV → Prop) → Prop} {R__law_named : List DV → (DV → Prop) → Prop} (h__law_variables : C8.Cal P w K mg base 1 "_law_variables" (spR (cf P w K) R__law_variables) [])  (h__law_partials : C8.Cal P w K mg base 2 "_law_partials" (spR (cf P w K) R__law_partials) [])  (h__law_named : C8.Cal P w K mg base 1 "_law_named" (spR (cf P w K) R__law_named) []) {f : Addr} {cdv : Value} {A : Around} {outer : List Env} {s : Shared} {H : Hp} {E : XK}
    (hr : Room 2 (A.deeper (envOfC "_law_assignments" (defScope s__law_assignments) s.heap.objs.size f cdv))) : PSs (cxOf C8.CX0 P w K mg base N__law_assignments "_law_assignments" (defScope s__law_assignments) f cdv A outer s H E).nox (defBody s__law_assignments) (t__law_assignments (cf P w K) R__law_variables R__law_partials R__law_named) :=
  pss_cons (ps_set (i := 2) sc__law_assignments.nd rfl (by first | exact Or.inl rfl | exact Or.inr rfl) (C8.pe_c h__law_variables hr (by decide) rfl (pa_cons (pv 1) (pa_nil))))
  (pss_one (ps_ret (pe_lc (own := [("_law_row", 3)]) rfl sc__law_assignments.nd (pi_list (pe_ix ix_seq (C8.pe_c h__law_partials hr (by decide) rfl (pa_cons (pv 0) (pa_cons (pv 1) (pa_cons (pv 2) (pa_nil))))) (pe_un un_neg (pe_int)) (fun _ _ => rfl))) (blkOk_by (own := [("_law_row", 3)]) (N := N__law_assignments) (sc := (defScope s__law_assignments)) (by decide +kernel)) (fun _ _ _ _ _ => pg_name (i := 3) sc__law_assignments.nd rfl (by first | exact Or.inl rfl | exact Or.inr rfl)) (fun _ _ _ _ _ => pts_nil) (fun _ _ _ _ _ => C8.pe_c h__law_named hr (by decide) rfl (pa_cons (pv 2) (pa_cons (pv 3) (pa_nil)))))))
abbrev N__law_partials : List Str := ["_law_catalogue_here", "_law_pattern_here", "_law_order", "_law_values", "_law_table_here", "_law_row", "_law_n", "_law_rows_here", "_law_name", "_law_inner", "_law_k", "_law_longer", "_law_prefix", "_law_known", "_law_j", "_law_good"]
theorem sc__law_partials : FnScope N__law_partials ["_law_catalogue_here", "_law_pattern_here", "_law_order"] (defScope s__law_partials) := ⟨rfl, rfl, rfl, by decide +kernel, rfl, by decide +kernel, by decide +kernel⟩
def t__law_partials (c : Cf) (w : World) (R__law_table : List DV → (DV → Prop) → Prop) (R__law_agrees : List DV → (DV → Prop) → Prop) : TS :=
  tSeq (tAsg (tLst (tNil)) (gName 3))
  (tSeq (tFor (iTup c.K (tVar 0)) (gName 4) (tFor (iTup c.K (tOp (rIx c.K) (tVar 4) (tC (.int 2)))) (gName 5) (tAsg (tOp rCat (tVar 3) (tLc (iTup c.K (tVar 5)) (gName 6) (tTest (tOp (rNiX c.K) (tVar 6) (tVar 3))) (tVar 6) [6])) (gName 3))))
  (tSeq (tAsg (tCB (rSortedSet w) (tCons (tCB (rSetI c.K w) (tCons (tVar 3) (tNil))) tNil)) (gName 3))
  (tSeq (tAsg (tLst (tCons (tLst (tNil)) (tNil))) (gName 7))
  (tSeq (tAsg (tLst (tCons (tTup (tNil)) (tNil))) (gSub (tVar 7) (tC (.int 0)) rSetL))
  (tSeq (tFor (iTup c.K (tOp (rIx c.K) (tVar 1) (tC (.int 1)))) (gTup c.K 2 (gCons (gName 8) (gCons (gName 9) (gNil)))) (tIfS (tNot (tB (tCB (rAny c.K) (tCons (tLc (iTup c.K (tOp (rIx c.K) (tCall (spR c R__law_table) [] C8.E0 (tCons (tVar 0) (tCons (tVar 8) (tNil)))) (tC (.int 2)))) (gName 5) (tYes) (tCall (spR c R__law_agrees) [] C8.E0 (tCons (tVar 9) (tCons (tVar 5) (tCons (tDNewK) (tNil))))) [5]) (tNil))))) (tAsg (tLst (tNil)) (gSub (tVar 7) (tC (.int 0)) rSetL)) (tNext)))
  (tSeq (tFor (iRng1 (tCons (tCB (rLen c.K) (tCons (tVar 2) (tNil))) (tNil))) (gName 10) (tSeq (tAsg (tLst (tNil)) (gName 11))
  (tSeq (tFor (iList c.K (tOp (rIx c.K) (tVar 7) (tVar 10))) (gName 12) (tFor (iList c.K (tVar 3)) (gName 6) (tSeq (tAsg (tDNewK) (gName 13))
  (tSeq (tFor (iRng1 (tCons (tVar 10) (tNil))) (gName 14) (sDPut (tVar 13) (tOp (rIx c.K) (tVar 2) (tVar 14)) (tOp (rIx c.K) (tVar 12) (tVar 14))))
  (tSeq (sDPut (tVar 13) (tOp (rIx c.K) (tVar 2) (tVar 10)) (tVar 6))
  (tSeq (tAsg (tC (.bl true)) (gName 15))
  (tSeq (tFor (iTup c.K (tOp (rIx c.K) (tVar 1) (tC (.int 1)))) (gTup c.K 2 (gCons (gName 8) (gCons (gName 9) (gNil)))) (tIfS (tAnd (tTest (tOp (rInX c.K) (tOp (rIx c.K) (tVar 2) (tVar 10)) (tVar 9))) (tB (tVar 15))) (tAsg (tCB (rAny c.K) (tCons (tLc (iTup c.K (tOp (rIx c.K) (tCall (spR c R__law_table) [] C8.E0 (tCons (tVar 0) (tCons (tVar 8) (tNil)))) (tC (.int 2)))) (gName 5) (tYes) (tCall (spR c R__law_agrees) [] C8.E0 (tCons (tVar 9) (tCons (tVar 5) (tCons (tVar 13) (tNil))))) [5]) (tNil))) (gName 15)) (tNext)))
  (tIfS (tB (tVar 15)) (tDrop (tBM c.K "list" rAppend (tVar 11) (tCons (tOp (rCatA c.K) (tVar 12) (tTup (tCons (tVar 6) (tNil)))) (tNil)))) (tNext)))))))))
  (tDrop (tBM c.K "list" rAppend (tVar 7) (tCons (tVar 11) (tNil)))))))
  (tRet (tVar 7))))))))
theorem dv__law_partials {P : Program} {w : World} {mg : Str → Option Value} {base : Heap} {K : PySem.W.Frag} (T : Tx K mg) {R__law_table : List DV → (DV → Prop) → Prop} {R__law_agrees : List DV → (DV → Prop) → Prop} (h__law_table : C8.Cal P w K mg base 1 "_law_table" (spR (cf P w K) R__law_table) [])  (h__law_agrees : C8.Cal P w K mg base 1 "_law_agrees" (spR (cf P w K) R__law_agrees) []) {f : Addr} {cdv : Value} {A : Around} {outer : List Env} {s : Shared} {H : Hp} {E : XK}
    (hr : Room 1 (A.deeper (envOfC "_law_partials" (defScope s__law_partials) s.heap.objs.size f cdv))) : PSs (cxOf C8.CX0 P w K mg base N__law_partials "_law_partials" (defScope s__law_partials) f cdv A outer s H E).nox (defBody s__law_partials) (t__law_partials (cf P w K) w R__law_table R__law_agrees) :=
  pss_cons (ps_set (i := 3) sc__law_partials.nd rfl (by first | exact Or.inl rfl | exact Or.inr rfl) (pe_lst (pa_nil)))
  (pss_cons (ps_for PassesOwn.never rfl (pi_tup (pv 0)) (pg_name (i := 4) sc__law_partials.nd rfl (by first | exact Or.inl rfl | exact Or.inr rfl)) (pss_one (ps_for PassesOwn.never rfl (pi_tup (pe_ix ix_seq (pv 4) (pe_int) (fun _ _ => rfl))) (pg_name (i := 5) sc__law_partials.nd rfl (by first | exact Or.inl rfl | exact Or.inr rfl)) (pss_one (ps_set (i := 3) sc__law_partials.nd rfl (by first | exact Or.inl rfl | exact Or.inr rfl) (pe_op op_cat (pv 3) (pe_lc (own := [("_law_n", 6)]) rfl sc__law_partials.nd (pi_tup (pv 5)) (blkOk_by (own := [("_law_n", 6)]) (N := N__law_partials) (sc := (defScope s__law_partials)) (by decide +kernel)) (fun _ _ _ _ _ => pg_name (i := 6) sc__law_partials.nd rfl (by first | exact Or.inl rfl | exact Or.inr rfl)) (fun _ _ _ _ _ => pts_one (pt_cmpR (op_niX (room65 hr)) (pv 6) (pv 3) rfl)) (fun _ _ _ _ _ => pv 6))))))))
  (pss_cons (ps_set (i := 3) sc__law_partials.nd rfl (by first | exact Or.inl rfl | exact Or.inr rfl) (pe_callB (cr_sortedSet rfl) (by rfl) T.f_sorted (by decide +kernel) (pa_cons (pe_callTy (cr_setI rfl) (by rfl) T.f_set (by decide +kernel) (pa_cons (pv 3) (pa_nil))) pa_nil)))
  (pss_cons (ps_set (i := 7) sc__law_partials.nd rfl (by first | exact Or.inl rfl | exact Or.inr rfl) (pe_lst (pa_cons (pe_lst (pa_nil)) (pa_nil))))
  (pss_cons (ps_asg (pe_lst (pa_cons (pe_tup (pa_nil)) (pa_nil))) (pg_sub (pv 7) (pe_int) set_list))
  (pss_cons (ps_for PassesOwn.never rfl (pi_tup (pe_ix ix_seq (pv 1) (pe_int) (fun _ _ => rfl))) (pg_tup rfl (pgs_cons (pg_name (i := 8) sc__law_partials.nd rfl (by first | exact Or.inl rfl | exact Or.inr rfl)) (pgs_cons (pg_name (i := 9) sc__law_partials.nd rfl (by first | exact Or.inl rfl | exact Or.inr rfl)) (pgs_nil)))) (pss_one (ps_if (pt_not (pt_val (pe_callB (cr_any rfl) (by rfl) T.f_any (by decide +kernel) (pa_cons (pe_lc (own := [("_law_row", 5)]) rfl sc__law_partials.nd (pi_tup (pe_ix ix_seq (C8.pe_c h__law_table hr (by decide) rfl (pa_cons (pv 0) (pa_cons (pv 8) (pa_nil)))) (pe_int) (fun _ _ => rfl))) (blkOk_by (own := [("_law_row", 5)]) (N := N__law_partials) (sc := (defScope s__law_partials)) (by decide +kernel)) (fun _ _ _ _ _ => pg_name (i := 5) sc__law_partials.nd rfl (by first | exact Or.inl rfl | exact Or.inr rfl)) (fun _ _ _ _ _ => pts_nil) (fun _ _ _ _ _ => C8.pe_c h__law_agrees hr (by decide) rfl (pa_cons (pv 9) (pa_cons (pv 5) (pa_cons (pe_dnewK) (pa_nil)))))) (pa_nil))))) (pss_one (ps_asg (pe_lst (pa_nil)) (pg_sub (pv 7) (pe_int) set_list))) (pss_nil))))
  (pss_cons (ps_for PassesOwn.never rfl (pi_range1 (by rfl) T.f_range (pa_cons (pe_callB call_len (by rfl) T.f_len PySem.boot_len (pa_cons (pv 2) (pa_nil))) (pa_nil))) (pg_name (i := 10) sc__law_partials.nd rfl (by first | exact Or.inl rfl | exact Or.inr rfl)) (pss_cons (ps_set (i := 11) sc__law_partials.nd rfl (by first | exact Or.inl rfl | exact Or.inr rfl) (pe_lst (pa_nil)))
  (pss_cons (ps_for PassesOwn.never rfl (pi_list (pe_ix ix_seq (pv 7) (pv 10) (fun _ _ => rfl))) (pg_name (i := 12) sc__law_partials.nd rfl (by first | exact Or.inl rfl | exact Or.inr rfl)) (pss_one (ps_for PassesOwn.never rfl (pi_list (pv 3)) (pg_name (i := 6) sc__law_partials.nd rfl (by first | exact Or.inl rfl | exact Or.inr rfl)) (pss_cons (ps_set (i := 13) sc__law_partials.nd rfl (by first | exact Or.inl rfl | exact Or.inr rfl) (pe_dnewK))
  (pss_cons (ps_for PassesOwn.never rfl (pi_range1 (by rfl) T.f_range (pa_cons (pv 10) (pa_nil))) (pg_name (i := 14) sc__law_partials.nd rfl (by first | exact Or.inl rfl | exact Or.inr rfl)) (pss_one (ps_dput (hu_of hr) (pv 13) (pe_ix ix_seq (pv 2) (pv 14) (fun _ _ => rfl)) (pe_ix ix_seq (pv 12) (pv 14) (fun _ _ => rfl)) rfl)))
  (pss_cons (ps_dput (hu_of hr) (pv 13) (pe_ix ix_seq (pv 2) (pv 10) (fun _ _ => rfl)) (pv 6) rfl)
  (pss_cons (ps_set (i := 15) sc__law_partials.nd rfl (by first | exact Or.inl rfl | exact Or.inr rfl) (pe_bl))
  (pss_cons (ps_for PassesOwn.never rfl (pi_tup (pe_ix ix_seq (pv 1) (pe_int) (fun _ _ => rfl))) (pg_tup rfl (pgs_cons (pg_name (i := 8) sc__law_partials.nd rfl (by first | exact Or.inl rfl | exact Or.inr rfl)) (pgs_cons (pg_name (i := 9) sc__law_partials.nd rfl (by first | exact Or.inl rfl | exact Or.inr rfl)) (pgs_nil)))) (pss_one (ps_if (PW.pt (pw_and (pt_cmpR (op_inX (room65 hr)) (pe_ix ix_seq (pv 2) (pv 10) (fun _ _ => rfl)) (pv 9) rfl) (pw_and1 (pt_val (pv 15))))) (pss_one (ps_set (i := 15) sc__law_partials.nd rfl (by first | exact Or.inl rfl | exact Or.inr rfl) (pe_callB (cr_any rfl) (by rfl) T.f_any (by decide +kernel) (pa_cons (pe_lc (own := [("_law_row", 5)]) rfl sc__law_partials.nd (pi_tup (pe_ix ix_seq (C8.pe_c h__law_table hr (by decide) rfl (pa_cons (pv 0) (pa_cons (pv 8) (pa_nil)))) (pe_int) (fun _ _ => rfl))) (blkOk_by (own := [("_law_row", 5)]) (N := N__law_partials) (sc := (defScope s__law_partials)) (by decide +kernel)) (fun _ _ _ _ _ => pg_name (i := 5) sc__law_partials.nd rfl (by first | exact Or.inl rfl | exact Or.inr rfl)) (fun _ _ _ _ _ => pts_nil) (fun _ _ _ _ _ => C8.pe_c h__law_agrees hr (by decide) rfl (pa_cons (pv 9) (pa_cons (pv 5) (pa_cons (pv 13) (pa_nil)))))) (pa_nil))))) (pss_nil))))
  (pss_one (ps_if (pt_val (pv 15)) (pss_one (ps_expr (pe_bm PySem.F.plainAttrs_list PySem.F.slot_list_append PySem.F.type_list_append mt_append (pv 11) (pa_cons (pe_op op_catA (pv 12) (pe_tup (pa_cons (pv 6) (pa_nil)))) (pa_nil))))) (pss_nil)))))))))))
  (pss_one (ps_expr (pe_bm PySem.F.plainAttrs_list PySem.F.slot_list_append PySem.F.type_list_append mt_append (pv 7) (pa_cons (pv 11) (pa_nil))))))))
  (pss_one (ps_ret (pv 7)))))))))
end JQ

-- part Dvc
set_option Elab.async false
set_option linter.all false
set_option maxRecDepth 100000
set_option maxHeartbeats 2000000
/-! Readings and derivations (printed by gend.py). -/
namespace JQ
open PySem PySem.Spec PyProof.Rows L2
abbrev N_meets_all : List Str := ["rows", "facts", "fact", "row"]
theorem sc_meets_all : FnScope N_meets_all ["rows", "facts"] (defScope s_meets_all) := ⟨rfl, rfl, rfl, by decide +kernel, rfl, by decide +kernel, by decide +kernel⟩
def t_meets_all (c : Cf)  : TS :=
  tRet (tCB (rAll c.K) (tCons (tLc (iTup c.K (tVar 0)) (gName 3) (tYes) (tCB (rAny c.K) (tCons (tLc (iTup c.K (tVar 1)) (gName 2) (tYes) (tOp (rInX c.K) (tVar 2) (tVar 3)) [2]) (tNil))) [3]) (tNil)))
theorem dv_meets_all {P : Program} {w : World} {mg : Str → Option Value} {base : Heap} {K : PySem.W.Frag} (T : Tx K mg)  {f : Addr} {cdv : Value} {A : Around} {outer : List Env} {s : Shared} {H : Hp} {E : XK}
    (hr : Room 0 (A.deeper (envOfC "meets_all" (defScope s_meets_all) s.heap.objs.size f cdv))) : PSs (cxOf C8.CX0 P w K mg base N_meets_all "meets_all" (defScope s_meets_all) f cdv A outer s H E).nox (defBody s_meets_all) (t_meets_all (cf P w K) ) :=
  pss_one (ps_ret (pe_callB (cr_all rfl) (by rfl) T.f_all (by decide +kernel) (pa_cons (pe_lc (own := [("row", 3)]) rfl sc_meets_all.nd (pi_tup (pv 0)) (blkOk_by (own := [("row", 3)]) (N := N_meets_all) (sc := (defScope s_meets_all)) (by decide +kernel)) (fun _ _ _ _ _ => pg_name (i := 3) sc_meets_all.nd rfl (by first | exact Or.inl rfl | exact Or.inr rfl)) (fun _ _ _ _ _ => pts_nil) (fun _ _ _ _ _ => pe_callB (cr_any rfl) (by rfl) T.f_any (by decide +kernel) (pa_cons (pe_lc (own := [("fact", 2)]) rfl sc_meets_all.nd (pi_tup (pv 1)) (blkOk_by (own := [("fact", 2)]) (N := N_meets_all) (sc := (relS _ (defScope s_meets_all))) (by decide +kernel)) (fun _ _ _ _ _ => pg_name (i := 2) sc_meets_all.nd rfl (by first | exact Or.inl rfl | exact Or.inr rfl)) (fun _ _ _ _ _ => pts_nil) (fun _ _ _ _ _ => pe_cmpR (op_inX (room65 hr)) (pv 2) (pv 3) rfl)) (pa_nil)))) (pa_nil))))
abbrev N__law_facts : List Str := ["_law_pattern_here", "_law_known", "_law_variable", "_law_name", "_law_inner"]
theorem sc__law_facts : FnScope N__law_facts ["_law_pattern_here", "_law_known"] (defScope s__law_facts) := ⟨rfl, rfl, rfl, by decide +kernel, rfl, by decide +kernel, by decide +kernel⟩
def t__law_facts (c : Cf)  : TS :=
  tRet (tLc (iTup c.K (tOp (rIx c.K) (tVar 0) (tC (.int 1)))) (gTup c.K 2 (gCons (gName 3) (gCons (gName 4) (gNil)))) (tYes) (tTup (tCons (tVar 3) (tCons (tCB (rTupOf c.K) (tCons (tLc (iTup c.K (tVar 4)) (gName 2) (tYes) (tDGet (tVar 1) (tVar 2)) [2]) (tNil))) (tNil)))) [3, 4])
theorem dv__law_facts {P : Program} {w : World} {mg : Str → Option Value} {base : Heap} {K : PySem.W.Frag} (T : Tx K mg)  {f : Addr} {cdv : Value} {A : Around} {outer : List Env} {s : Shared} {H : Hp} {E : XK}
    (hr : Room 0 (A.deeper (envOfC "_law_facts" (defScope s__law_facts) s.heap.objs.size f cdv))) : PSs (cxOf C8.CX0 P w K mg base N__law_facts "_law_facts" (defScope s__law_facts) f cdv A outer s H E).nox (defBody s__law_facts) (t__law_facts (cf P w K) ) :=
  pss_one (ps_ret (pe_lc (own := [("_law_name", 3), ("_law_inner", 4)]) rfl sc__law_facts.nd (pi_tup (pe_ix ix_seq (pv 0) (pe_int) (fun _ _ => rfl))) (blkOk_by (own := [("_law_name", 3), ("_law_inner", 4)]) (N := N__law_facts) (sc := (defScope s__law_facts)) (by decide +kernel)) (fun _ _ _ _ _ => pg_tup rfl (pgs_cons (pg_name (i := 3) sc__law_facts.nd rfl (by first | exact Or.inl rfl | exact Or.inr rfl)) (pgs_cons (pg_name (i := 4) sc__law_facts.nd rfl (by first | exact Or.inl rfl | exact Or.inr rfl)) (pgs_nil)))) (fun _ _ _ _ _ => pts_nil) (fun _ _ _ _ _ => pe_tup (pa_cons (pv 3) (pa_cons (pe_callTy call_tuple_of (by rfl) T.f_tuple (by decide +kernel) (pa_cons (pe_lc (own := [("_law_variable", 2)]) rfl sc__law_facts.nd (pi_tup (pv 4)) (blkOk_by (own := [("_law_variable", 2)]) (N := N__law_facts) (sc := (relS _ (defScope s__law_facts))) (by decide +kernel)) (fun _ _ _ _ _ => pg_name (i := 2) sc__law_facts.nd rfl (by first | exact Or.inl rfl | exact Or.inr rfl)) (fun _ _ _ _ _ => pts_nil) (fun _ _ _ _ _ => pe_dget (hu_of hr) (pv 1) (pv 2) (fun _ _ => rfl))) (pa_nil))) (pa_nil))))))
abbrev N_witnesses : List Str := ["catalogue", "pattern", "answer", "order", "found", "row", "variable", "facts", "name", "inner"]
theorem sc_witnesses : FnScope N_witnesses ["catalogue", "pattern", "answer"] (defScope s_witnesses) := ⟨rfl, rfl, rfl, by decide +kernel, rfl, by decide +kernel, by decide +kernel⟩
def t_witnesses (c : Cf) (R_check_fit : List DV → (DV → Prop) → Prop) (R_all_variables : List DV → (DV → Prop) → Prop) (R_joined : List DV → (DV → Prop) → Prop) : TS :=
  tSeq (tDrop (tCall (spR c R_check_fit) [] C8.E0 (tCons (tVar 0) (tCons (tVar 1) (tNil)))))
  (tSeq (tAsg (tCall (spR c R_all_variables) [] C8.E0 (tCons (tVar 1) (tNil))) (gName 3))
  (tSeq (tAsg (tDNewX c) (gName 4))
  (tSeq (tFor (iTup c.K (tOp (rIx c.K) (tCall (spR c R_joined) [] C8.E0 (tCons (tVar 0) (tCons (tVar 1) (tCons (tVar 3) (tCons (tC (.int 20000)) (tNil)))))) (tC (.int 0)))) (gName 5) (tIfS (tTest (tOp (rEqP c.K) (tCB (rTupOf c.K) (tCons (tLc (iTup c.K (tOp (rIx c.K) (tVar 1) (tC (.int 0)))) (gName 6) (tYes) (tOp (rIx c.K) (tVar 5) (tIdx (tVar 3) (tVar 6))) [6]) (tNil))) (tVar 2))) (tSeq (tAsg (tLc (iTup c.K (tOp (rIx c.K) (tVar 1) (tC (.int 1)))) (gTup c.K 2 (gCons (gName 8) (gCons (gName 9) (gNil)))) (tYes) (tTup (tCons (tVar 8) (tCons (tCB (rTupOf c.K) (tCons (tLc (iTup c.K (tVar 9)) (gName 6) (tYes) (tOp (rIx c.K) (tVar 5) (tIdx (tVar 3) (tVar 6))) [6]) (tNil))) (tNil)))) [8, 9]) (gName 7))
  (sKsPut c (tVar 4) (tCB (rTupOf c.K) (tCons (tCB (rSortX c) (tCons (tCB (rSetX c) (tCons (tVar 7) (tNil))) tNil)) (tNil))) (tC (.bl true)))) (tNext)))
  (tSeq (tIfS (tTest (tOp (rEqP c.K) (tCB (rLenKs c) (tCons (tVar 4) (tNil))) (tC (.int 0)))) (tNever) (tNext))
  (tRet (tCB (rTupOf c.K) (tCons (tCB (rSortKs c) (tCons (tVar 4) (tNil))) (tNil))))))))
theorem dv_witnesses {P : Program} {w : World} {mg : Str → Option Value} {base : Heap} {K : PySem.W.Frag} (T : Tx K mg) {R_check_fit : List DV → (DV → Prop) → Prop} {R_all_variables : List DV → (DV → Prop) → Prop} {R_joined : List DV → (DV → Prop) → Prop} (h_check_fit : C8.Cal P w K mg base 4 "check_fit" (spR (cf P w K) R_check_fit) [])  (h_all_variables : C8.Cal P w K mg base 1 "all_variables" (spR (cf P w K) R_all_variables) [])  (h_joined : C8.Cal P w K mg base 8 "joined" (spR (cf P w K) R_joined) []) {f : Addr} {cdv : Value} {A : Around} {outer : List Env} {s : Shared} {H : Hp} {E : XK}
    (hr : Room 8 (A.deeper (envOfC "witnesses" (defScope s_witnesses) s.heap.objs.size f cdv))) : PSs (cxOf C8.CX0 P w K mg base N_witnesses "witnesses" (defScope s_witnesses) f cdv A outer s H E).nox (defBody s_witnesses) (t_witnesses (cf P w K) R_check_fit R_all_variables R_joined) :=
  pss_cons (ps_expr (C8.pe_c h_check_fit hr (by decide) rfl (pa_cons (pv 0) (pa_cons (pv 1) (pa_nil)))))
  (pss_cons (ps_set (i := 3) sc_witnesses.nd rfl (by first | exact Or.inl rfl | exact Or.inr rfl) (C8.pe_c h_all_variables hr (by decide) rfl (pa_cons (pv 1) (pa_nil))))
  (pss_cons (ps_set (i := 4) sc_witnesses.nd rfl (by first | exact Or.inl rfl | exact Or.inr rfl) (pe_dnewX))
  (pss_cons (ps_for PassesOwn.never rfl (pi_tup (pe_ix ix_seq (C8.pe_c h_joined hr (by decide) rfl (pa_cons (pv 0) (pa_cons (pv 1) (pa_cons (pv 3) (pa_cons (C8.pe_gc rfl T.g_VISIT_LIMIT) (pa_nil)))))) (pe_int) (fun _ _ => rfl))) (pg_name (i := 5) sc_witnesses.nd rfl (by first | exact Or.inl rfl | exact Or.inr rfl)) (pss_one (ps_if (pt_cmpR (op_eqP hr.units) (pe_callTy call_tuple_of (by rfl) T.f_tuple (by decide +kernel) (pa_cons (pe_lc (own := [("variable", 6)]) rfl sc_witnesses.nd (pi_tup (pe_ix ix_seq (pv 1) (pe_int) (fun _ _ => rfl))) (blkOk_by (own := [("variable", 6)]) (N := N_witnesses) (sc := (defScope s_witnesses)) (by decide +kernel)) (fun _ _ _ _ _ => pg_name (i := 6) sc_witnesses.nd rfl (by first | exact Or.inl rfl | exact Or.inr rfl)) (fun _ _ _ _ _ => pts_nil) (fun _ _ _ _ _ => pe_ix ix_seq (pv 5) (pe_idx (pv 3) (pv 6)) (fun _ _ => rfl))) (pa_nil))) (pv 2) (nomark _)) (pss_cons (ps_setLc (i := 7) (own := [("name", 8), ("inner", 9)]) rfl sc_witnesses.nd rfl rfl (sw_true rfl rfl rfl (by decide +kernel)) (pi_tup (pe_ix ix_seq (pv 1) (pe_int) (fun _ _ => rfl))) (blkOk_by (own := [("name", 8), ("inner", 9)]) (N := N_witnesses) (sc := (defScope s_witnesses)) (by decide +kernel)) (fun _ _ _ _ _ => pg_tup rfl (pgs_cons (pg_name (i := 8) sc_witnesses.nd rfl (by first | exact Or.inl rfl | exact Or.inr rfl)) (pgs_cons (pg_name (i := 9) sc_witnesses.nd rfl (by first | exact Or.inl rfl | exact Or.inr rfl)) (pgs_nil)))) (fun _ _ _ _ _ => pts_nil) (fun _ _ _ _ _ => pe_tup (pa_cons (pv 8) (pa_cons (pe_callTy call_tuple_of (by rfl) T.f_tuple (by decide +kernel) (pa_cons (pe_lc (own := [("variable", 6)]) rfl sc_witnesses.nd (pi_tup (pv 9)) (blkOk_by (own := [("variable", 6)]) (N := N_witnesses) (sc := (relS _ (defScope s_witnesses))) (by decide +kernel)) (fun _ _ _ _ _ => pg_name (i := 6) sc_witnesses.nd rfl (by first | exact Or.inl rfl | exact Or.inr rfl)) (fun _ _ _ _ _ => pts_nil) (fun _ _ _ _ _ => pe_ix ix_seq (pv 5) (pe_idx (pv 3) (pv 6)) (fun _ _ => rfl))) (pa_nil))) (pa_nil)))))
  (pss_one (ps_ksput hr (pv 4) (pe_callTy call_tuple_of (by rfl) T.f_tuple (by decide +kernel) (pa_cons (pe_callB (cr_sortX rfl hr.units) (by rfl) T.f_sorted (by decide +kernel) (pa_cons (pe_callTy (cr_setX rfl hr.units) (by rfl) T.f_set (by decide +kernel) (pa_cons (pv 7) (pa_nil))) pa_nil)) (pa_nil))) (pe_bl) rfl))) (pss_nil))))
  (pss_cons (ps_if (pt_cmpR (op_eqP hr.units) (pe_callB cr_lenKs (by rfl) T.f_len PySem.boot_len (pa_cons (pv 4) (pa_nil))) (pe_int) (nomark _)) (pss_one (ps_never)) (pss_nil))
  (pss_one (ps_ret (pe_callTy call_tuple_of (by rfl) T.f_tuple (by decide +kernel) (pa_cons (pe_callB (cr_sortKs rfl hr.units) (by rfl) T.f_sorted (by decide +kernel) (pa_cons (pv 4) (pa_nil))) (pa_nil)))))))))
abbrev N__law_begin : List Str := ["_law_script", "_law_seed", "_law_cell"]
theorem sc__law_begin : FnScope N__law_begin ["_law_script"] (defScope s__law_begin) := ⟨rfl, rfl, rfl, by decide +kernel, rfl, by decide +kernel, by decide +kernel⟩
def t__law_begin (c : Cf)  : TS :=
  tSeq (tAsg (tC (.int 1)) (gName 1))
  (tSeq (tFor (iList c.K (tVar 0)) (gName 2) (tAsg (tOp rModI (tOp rAddI (tOp rAddI (tOp rMulI (tVar 1) (tC (.int 69621))) (tOp rModI (tCB rInt1 (tCons (tVar 2) (tNil))) (tC (.int 2147483629)))) (tC (.int 7))) (tC (.int 2147483647))) (gName 1)))
  (tRet (tLst (tCons (tCB (rListOf c.K) (tCons (tVar 0) (tNil))) (tCons (tC (.int 0)) (tCons (tC (.int 0)) (tCons (tVar 1) (tNil))))))))
theorem dv__law_begin {P : Program} {w : World} {mg : Str → Option Value} {base : Heap} {K : PySem.W.Frag} (T : Tx K mg)  {f : Addr} {cdv : Value} {A : Around} {outer : List Env} {s : Shared} {H : Hp} {E : XK}
    (hr : Room 0 (A.deeper (envOfC "_law_begin" (defScope s__law_begin) s.heap.objs.size f cdv))) : PSs (cxOf C8.CX0 P w K mg base N__law_begin "_law_begin" (defScope s__law_begin) f cdv A outer s H E).nox (defBody s__law_begin) (t__law_begin (cf P w K) ) :=
  pss_cons (ps_set (i := 1) sc__law_begin.nd rfl (by first | exact Or.inl rfl | exact Or.inr rfl) (pe_int))
  (pss_cons (ps_for PassesOwn.never rfl (pi_list (pv 0)) (pg_name (i := 2) sc__law_begin.nd rfl (by first | exact Or.inl rfl | exact Or.inr rfl)) (pss_one (ps_set (i := 1) sc__law_begin.nd rfl (by first | exact Or.inl rfl | exact Or.inr rfl) (pe_op op_modN (pe_op op_add (pe_op op_add (pe_op op_mul (pv 1) (pe_int)) (pe_op op_modN (pe_callTy call_int1 (by rfl) T.f_int (by decide +kernel) (pa_cons (pv 2) (pa_nil))) (pe_int))) (pe_int)) (pe_int)))))
  (pss_one (ps_ret (pe_lst (pa_cons (pe_callTy call_list_of (by rfl) T.f_list (by decide +kernel) (pa_cons (pv 0) (pa_nil))) (pa_cons (pe_int) (pa_cons (pe_int) (pa_cons (pv 1) (pa_nil)))))))))
abbrev N__law_take : List Str := ["_law_d", "_law_many", "_law_small", "_law_digit"]
theorem sc__law_take : FnScope N__law_take ["_law_d", "_law_many"] (defScope s__law_take) := ⟨rfl, rfl, rfl, by decide +kernel, rfl, by decide +kernel, by decide +kernel⟩
def t__law_take (c : Cf)  : TS :=
  tSeq (tIfS (tAnd (tTest (tOp (rEqP c.K) (tOp (rIx c.K) (tVar 0) (tC (.int 2))) (tC (.int 0)))) (tTest (tOp rLtI (tOp (rIx c.K) (tVar 0) (tC (.int 1))) (tCB (rLen c.K) (tCons (tOp (rIx c.K) (tVar 0) (tC (.int 0))) (tNil)))))) (tSeq (tAsg (tCB rAbs (tCons (tCB rInt1 (tCons (tOp (rIx c.K) (tOp (rIx c.K) (tVar 0) (tC (.int 0))) (tOp (rIx c.K) (tVar 0) (tC (.int 1)))) (tNil))) (tNil))) (gSub (tVar 0) (tC (.int 2)) rSetL))
  (tSeq (tAsg (tOp rAddI (tOp (rIx c.K) (tVar 0) (tC (.int 1))) (tC (.int 1))) (gSub (tVar 0) (tC (.int 1)) rSetL))
  (tIfS (tTest (tOp rLtI (tOp (rIx c.K) (tVar 0) (tC (.int 2))) (tOp rPowI (tC (.int 10)) (tC (.int 18))))) (tSeq (tAsg (tCB rInt1 (tCons (tOp (rIx c.K) (tVar 0) (tC (.int 2))) (tNil))) (gName 2))
  (tSeq (tAsg (tC (.int 0)) (gSub (tVar 0) (tC (.int 2)) rSetL))
  (tRet (tOp rModI (tVar 2) (tVar 1))))) (tNext)))) (tNext))
  (tSeq (tIfS (tTest (tOp rGtI (tOp (rIx c.K) (tVar 0) (tC (.int 2))) (tC (.int 0)))) (tSeq (tAsg (tOp rModI (tCB rInt1 (tCons (tOp (rIx c.K) (tVar 0) (tC (.int 2))) (tNil))) (tVar 1)) (gName 3))
  (tSeq (tAsg (tOp rDivI (tCB rInt1 (tCons (tOp (rIx c.K) (tVar 0) (tC (.int 2))) (tNil))) (tVar 1)) (gSub (tVar 0) (tC (.int 2)) rSetL))
  (tRet (tVar 3)))) (tNext))
  (tSeq (tAsg (tOp rModI (tCB rInt1 (tCons (tOp rAddI (tOp rMulI (tOp (rIx c.K) (tVar 0) (tC (.int 3))) (tC (.int 48271))) (tC (.int 11))) (tNil))) (tC (.int 2147483647))) (gSub (tVar 0) (tC (.int 3)) rSetL))
  (tRet (tOp rModI (tCB rInt1 (tCons (tOp rDivI (tOp (rIx c.K) (tVar 0) (tC (.int 3))) (tC (.int 3))) (tNil))) (tVar 1)))))
theorem dv__law_take {P : Program} {w : World} {mg : Str → Option Value} {base : Heap} {K : PySem.W.Frag} (T : Tx K mg)  {f : Addr} {cdv : Value} {A : Around} {outer : List Env} {s : Shared} {H : Hp} {E : XK}
    (hr : Room 0 (A.deeper (envOfC "_law_take" (defScope s__law_take) s.heap.objs.size f cdv))) : PSs (cxOf C8.CX0 P w K mg base N__law_take "_law_take" (defScope s__law_take) f cdv A outer s H E).nox (defBody s__law_take) (t__law_take (cf P w K) ) :=
  pss_cons (ps_if (PW.pt (pw_and (pt_cmpR (op_eqP hr.units) (pe_ix ix_seq (pv 0) (pe_int) (fun _ _ => rfl)) (pe_int) (nomark _)) (pw_and1 (pt_cmpR op_lt (pe_ix ix_seq (pv 0) (pe_int) (fun _ _ => rfl)) (pe_callB call_len (by rfl) T.f_len PySem.boot_len (pa_cons (pe_ix ix_seq (pv 0) (pe_int) (fun _ _ => rfl)) (pa_nil))) (nomark _))))) (pss_cons (ps_asg (pe_callB call_abs (by rfl) T.f_abs (by decide +kernel) (pa_cons (pe_callTy call_int1 (by rfl) T.f_int (by decide +kernel) (pa_cons (pe_ix ix_seq (pe_ix ix_seq (pv 0) (pe_int) (fun _ _ => rfl)) (pe_ix ix_seq (pv 0) (pe_int) (fun _ _ => rfl)) (fun _ _ => rfl)) (pa_nil))) (pa_nil))) (pg_sub (pv 0) (pe_int) set_list))
  (pss_cons (ps_asg (pe_op op_add (pe_ix ix_seq (pv 0) (pe_int) (fun _ _ => rfl)) (pe_int)) (pg_sub (pv 0) (pe_int) set_list))
  (pss_one (ps_if (pt_cmpR op_lt (pe_ix ix_seq (pv 0) (pe_int) (fun _ _ => rfl)) (pe_op op_pow (pe_int) (pe_int)) (nomark _)) (pss_cons (ps_set (i := 2) sc__law_take.nd rfl (by first | exact Or.inl rfl | exact Or.inr rfl) (pe_callTy call_int1 (by rfl) T.f_int (by decide +kernel) (pa_cons (pe_ix ix_seq (pv 0) (pe_int) (fun _ _ => rfl)) (pa_nil))))
  (pss_cons (ps_asg (pe_int) (pg_sub (pv 0) (pe_int) set_list))
  (pss_one (ps_ret (pe_op op_modN (pv 2) (pv 1)))))) (pss_nil))))) (pss_nil))
  (pss_cons (ps_if (pt_cmpR op_gt (pe_ix ix_seq (pv 0) (pe_int) (fun _ _ => rfl)) (pe_int) (nomark _)) (pss_cons (ps_set (i := 3) sc__law_take.nd rfl (by first | exact Or.inl rfl | exact Or.inr rfl) (pe_op op_modN (pe_callTy call_int1 (by rfl) T.f_int (by decide +kernel) (pa_cons (pe_ix ix_seq (pv 0) (pe_int) (fun _ _ => rfl)) (pa_nil))) (pv 1)))
  (pss_cons (ps_asg (pe_op op_fdivN (pe_callTy call_int1 (by rfl) T.f_int (by decide +kernel) (pa_cons (pe_ix ix_seq (pv 0) (pe_int) (fun _ _ => rfl)) (pa_nil))) (pv 1)) (pg_sub (pv 0) (pe_int) set_list))
  (pss_one (ps_ret (pv 3))))) (pss_nil))
  (pss_cons (ps_asg (pe_op op_modN (pe_callTy call_int1 (by rfl) T.f_int (by decide +kernel) (pa_cons (pe_op op_add (pe_op op_mul (pe_ix ix_seq (pv 0) (pe_int) (fun _ _ => rfl)) (pe_int)) (pe_int)) (pa_nil))) (pe_int)) (pg_sub (pv 0) (pe_int) set_list))
  (pss_one (ps_ret (pe_op op_modN (pe_callTy call_int1 (by rfl) T.f_int (by decide +kernel) (pa_cons (pe_op op_fdivN (pe_ix ix_seq (pv 0) (pe_int) (fun _ _ => rfl)) (pe_int)) (pa_nil))) (pv 1))))))
abbrev N__law_rows : List Str := ["_law_d", "_law_columns", "_law_most", "_law_reach", "_law_rows_here", "_law_k", "_law_row", "_law_j"]
theorem sc__law_rows : FnScope N__law_rows ["_law_d", "_law_columns", "_law_most", "_law_reach"] (defScope s__law_rows) := ⟨rfl, rfl, rfl, by decide +kernel, rfl, by decide +kernel, by decide +kernel⟩
def t__law_rows (c : Cf) (sp__law_take : Sp) : TS :=
  tSeq (tAsg (tLst (tNil)) (gName 4))
  (tSeq (tFor (iRng1 (tCons (tCall sp__law_take [] C8.E0 (tCons (tVar 0) (tCons (tOp rAddI (tVar 2) (tC (.int 1))) (tNil)))) (tNil))) (gName 5) (tSeq (tAsg (tCB (rTupOf c.K) (tCons (tLc (iRng1 (tCons (tVar 1) (tNil))) (gName 7) (tYes) (tCall sp__law_take [] C8.E0 (tCons (tVar 0) (tCons (tVar 3) (tNil)))) [7]) (tNil))) (gName 6))
  (tIfS (tTest (tOp (rNiX c.K) (tVar 6) (tVar 4))) (tDrop (tBM c.K "list" rAppend (tVar 4) (tCons (tVar 6) (tNil)))) (tNext))))
  (tRet (tCB (rTupOf c.K) (tCons (tCB (rSortD c.K) (tCons (tVar 4) (tNil))) (tNil)))))
theorem dv__law_rows {P : Program} {w : World} {mg : Str → Option Value} {base : Heap} {K : PySem.W.Frag} (T : Tx K mg) {sp__law_take : Sp} (h__law_take : C8.Cal P w K mg base 1 "_law_take" sp__law_take []) {f : Addr} {cdv : Value} {A : Around} {outer : List Env} {s : Shared} {H : Hp} {E : XK}
    (hr : Room 1 (A.deeper (envOfC "_law_rows" (defScope s__law_rows) s.heap.objs.size f cdv))) : PSs (cxOf C8.CX0 P w K mg base N__law_rows "_law_rows" (defScope s__law_rows) f cdv A outer s H E).nox (defBody s__law_rows) (t__law_rows (cf P w K) sp__law_take) :=
  pss_cons (ps_set (i := 4) sc__law_rows.nd rfl (by first | exact Or.inl rfl | exact Or.inr rfl) (pe_lst (pa_nil)))
  (pss_cons (ps_for PassesOwn.never rfl (pi_range1 (by rfl) T.f_range (pa_cons (C8.pe_c h__law_take hr (by decide) rfl (pa_cons (pv 0) (pa_cons (pe_op op_add (pv 2) (pe_int)) (pa_nil)))) (pa_nil))) (pg_name (i := 5) sc__law_rows.nd rfl (by first | exact Or.inl rfl | exact Or.inr rfl)) (pss_cons (ps_set (i := 6) sc__law_rows.nd rfl (by first | exact Or.inl rfl | exact Or.inr rfl) (pe_callTy call_tuple_of (by rfl) T.f_tuple (by decide +kernel) (pa_cons (pe_lc (own := [("_law_j", 7)]) rfl sc__law_rows.nd (pi_range1 (by rfl) T.f_range (pa_cons (pv 1) (pa_nil))) (blkOk_by (own := [("_law_j", 7)]) (N := N__law_rows) (sc := (defScope s__law_rows)) (by decide +kernel)) (fun _ _ _ _ _ => pg_name (i := 7) sc__law_rows.nd rfl (by first | exact Or.inl rfl | exact Or.inr rfl)) (fun _ _ _ _ _ => pts_nil) (fun _ _ _ _ _ => C8.pe_c h__law_take hr (by decide) rfl (pa_cons (pv 0) (pa_cons (pv 3) (pa_nil))))) (pa_nil))))
  (pss_one (ps_if (pt_cmpR (op_niX (room65 hr)) (pv 6) (pv 4) rfl) (pss_one (ps_expr (pe_bm PySem.F.plainAttrs_list PySem.F.slot_list_append PySem.F.type_list_append mt_append (pv 4) (pa_cons (pv 6) (pa_nil))))) (pss_nil)))))
  (pss_one (ps_ret (pe_callTy call_tuple_of (by rfl) T.f_tuple (by decide +kernel) (pa_cons (pe_callB (cr_sortD hr.units) (by rfl) T.f_sorted (by decide +kernel) (pa_cons (pv 4) (pa_nil))) (pa_nil))))))
abbrev N__law_catalogue : List Str := ["_law_d", "_law_many", "_law_most", "_law_reach", "_law_tables", "_law_k", "_law_columns"]
theorem sc__law_catalogue : FnScope N__law_catalogue ["_law_d", "_law_many", "_law_most", "_law_reach"] (defScope s__law_catalogue) := ⟨rfl, rfl, rfl, by decide +kernel, rfl, by decide +kernel, by decide +kernel⟩
def t__law_catalogue (c : Cf) (sp__law_take : Sp) (sp__law_rows : Sp) : TS :=
  tSeq (tAsg (tLst (tNil)) (gName 4))
  (tSeq (tFor (iRng1 (tCons (tOp rAddI (tC (.int 1)) (tCall sp__law_take [] C8.E0 (tCons (tVar 0) (tCons (tVar 1) (tNil))))) (tNil))) (gName 5) (tSeq (tAsg (tOp (rIx c.K) (tTup (tCons (tC (.int 2)) (tCons (tC (.int 2)) (tCons (tC (.int 2)) (tCons (tC (.int 1)) (tCons (tC (.int 3)) (tCons (tC (.int 4)) (tNil)))))))) (tCall sp__law_take [] C8.E0 (tCons (tVar 0) (tCons (tC (.int 6)) (tNil))))) (gName 6))
  (tSeq (tIfS (tAnd (tTest (tOp rGtI (tVar 6) (tC (.int 2)))) (tTest (tOp rGtI (tVar 2) (tC (.int 8))))) (tAsg (tC (.int 3)) (gName 6)) (tNext))
  (tDrop (tBM c.K "list" rAppend (tVar 4) (tCons (tTup (tCons (tOp rAddS (tOp (rIx c.K) (tC (.str "abcdefgh")) (tVar 5)) (tCB rStrI (tCons (tVar 6) (tNil)))) (tCons (tVar 6) (tCons (tCall sp__law_rows [] C8.E0 (tCons (tVar 0) (tCons (tVar 6) (tCons (tVar 2) (tCons (tVar 3) (tNil)))))) (tNil))))) (tNil)))))))
  (tRet (tCB (rTupOf c.K) (tCons (tVar 4) (tNil)))))
theorem dv__law_catalogue {P : Program} {w : World} {mg : Str → Option Value} {base : Heap} {K : PySem.W.Frag} (T : Tx K mg) {sp__law_take : Sp} {sp__law_rows : Sp} (h__law_take : C8.Cal P w K mg base 1 "_law_take" sp__law_take [])  (h__law_rows : C8.Cal P w K mg base 2 "_law_rows" sp__law_rows []) {f : Addr} {cdv : Value} {A : Around} {outer : List Env} {s : Shared} {H : Hp} {E : XK}
    (hr : Room 2 (A.deeper (envOfC "_law_catalogue" (defScope s__law_catalogue) s.heap.objs.size f cdv))) : PSs (cxOf C8.CX0 P w K mg base N__law_catalogue "_law_catalogue" (defScope s__law_catalogue) f cdv A outer s H E).nox (defBody s__law_catalogue) (t__law_catalogue (cf P w K) sp__law_take sp__law_rows) :=
  pss_cons (ps_set (i := 4) sc__law_catalogue.nd rfl (by first | exact Or.inl rfl | exact Or.inr rfl) (pe_lst (pa_nil)))
  (pss_cons (ps_for PassesOwn.never rfl (pi_range1 (by rfl) T.f_range (pa_cons (pe_op op_add (pe_int) (C8.pe_c h__law_take hr (by decide) rfl (pa_cons (pv 0) (pa_cons (pv 1) (pa_nil))))) (pa_nil))) (pg_name (i := 5) sc__law_catalogue.nd rfl (by first | exact Or.inl rfl | exact Or.inr rfl)) (pss_cons (ps_set (i := 6) sc__law_catalogue.nd rfl (by first | exact Or.inl rfl | exact Or.inr rfl) (pe_ix ix_seq (pe_tup (pa_cons (pe_int) (pa_cons (pe_int) (pa_cons (pe_int) (pa_cons (pe_int) (pa_cons (pe_int) (pa_cons (pe_int) (pa_nil)))))))) (C8.pe_c h__law_take hr (by decide) rfl (pa_cons (pv 0) (pa_cons (pe_int) (pa_nil)))) (fun _ _ => rfl)))
  (pss_cons (ps_if (PW.pt (pw_and (pt_cmpR op_gt (pv 6) (pe_int) (nomark _)) (pw_and1 (pt_cmpR op_gt (pv 2) (pe_int) (nomark _))))) (pss_one (ps_set (i := 6) sc__law_catalogue.nd rfl (by first | exact Or.inl rfl | exact Or.inr rfl) (pe_int))) (pss_nil))
  (pss_one (ps_expr (pe_bm PySem.F.plainAttrs_list PySem.F.slot_list_append PySem.F.type_list_append mt_append (pv 4) (pa_cons (pe_tup (pa_cons (pe_op op_add_str (pe_ix ix_seq (pe_str) (pv 5) (fun _ _ => rfl)) (pe_callTy call_str_int (by rfl) T.f_str (by decide +kernel) (pa_cons (pv 6) (pa_nil)))) (pa_cons (pv 6) (pa_cons (C8.pe_c h__law_rows hr (by decide) rfl (pa_cons (pv 0) (pa_cons (pv 6) (pa_cons (pv 2) (pa_cons (pv 3) (pa_nil)))))) (pa_nil))))) (pa_nil))))))))
  (pss_one (ps_ret (pe_callTy call_tuple_of (by rfl) T.f_tuple (by decide +kernel) (pa_cons (pv 4) (pa_nil))))))
abbrev N__law_pattern : List Str := ["_law_d", "_law_catalogue_here", "_law_atoms", "_law_many", "_law_names", "_law_body", "_law_k", "_law_table_here", "_law_j", "_law_pattern_here", "_law_variables_here", "_law_head", "_law_one"]
theorem sc__law_pattern : FnScope N__law_pattern ["_law_d", "_law_catalogue_here", "_law_atoms", "_law_many"] (defScope s__law_pattern) := ⟨rfl, rfl, rfl, by decide +kernel, rfl, by decide +kernel, by decide +kernel⟩
def t__law_pattern (c : Cf) (sp__law_take : Sp) (R__law_variables : List DV → (DV → Prop) → Prop) : TS :=
  tSeq (tAsg (L2.tSl (rSlL c.K) (tLst (tCons (tC (.str "x")) (tCons (tC (.str "y")) (tCons (tC (.str "z")) (tCons (tC (.str "u")) (tCons (tC (.str "v")) (tCons (tC (.str "w")) (tNil)))))))) (tNoPart) (tPart (tOp rAddI (tC (.int 1)) (tCall sp__law_take [] C8.E0 (tCons (tVar 0) (tCons (tVar 3) (tNil))))))) (gName 4))
  (tSeq (tAsg (tLst (tNil)) (gName 5))
  (tSeq (tFor (iRng1 (tCons (tOp rAddI (tC (.int 1)) (tCall sp__law_take [] C8.E0 (tCons (tVar 0) (tCons (tVar 2) (tNil))))) (tNil))) (gName 6) (tSeq (tAsg (tOp (rIx c.K) (tVar 1) (tCall sp__law_take [] C8.E0 (tCons (tVar 0) (tCons (tCB (rLen c.K) (tCons (tVar 1) (tNil))) (tNil))))) (gName 7))
  (tDrop (tBM c.K "list" rAppend (tVar 5) (tCons (tTup (tCons (tOp (rIx c.K) (tVar 7) (tC (.int 0))) (tCons (tCB (rTupN c.K) (tCons (tLc (iRng1 (tCons (tOp (rIx c.K) (tVar 7) (tC (.int 1))) (tNil))) (gName 8) (tYes) (tOp (rIx c.K) (tVar 4) (tCall sp__law_take [] C8.E0 (tCons (tVar 0) (tCons (tCB (rLen c.K) (tCons (tVar 4) (tNil))) (tNil))))) [8]) (tNil))) (tNil)))) (tNil))))))
  (tSeq (tAsg (tTup (tCons (tTup (tNil)) (tCons (tCB (rTupOf c.K) (tCons (tVar 5) (tNil))) (tNil)))) (gName 9))
  (tSeq (tAsg (tCall (spR c R__law_variables) [] C8.E0 (tCons (tVar 9) (tNil))) (gName 10))
  (tSeq (tAsg (tLst (tNil)) (gName 11))
  (tSeq (tFor (iRng1 (tCons (tCB (rLen c.K) (tCons (tVar 10) (tNil))) (tNil))) (gName 6) (tSeq (tAsg (tOp (rIx c.K) (tVar 10) (tCall sp__law_take [] C8.E0 (tCons (tVar 0) (tCons (tCB (rLen c.K) (tCons (tVar 10) (tNil))) (tNil))))) (gName 12))
  (tIfS (tAnd (tTest (tOp (rNiX c.K) (tVar 12) (tVar 11))) (tTest (tOp rGtI (tCall sp__law_take [] C8.E0 (tCons (tVar 0) (tCons (tC (.int 3)) (tNil)))) (tC (.int 0))))) (tDrop (tBM c.K "list" rAppend (tVar 11) (tCons (tVar 12) (tNil)))) (tNext))))
  (tRet (tTup (tCons (tCB (rTupN c.K) (tCons (tVar 11) (tNil))) (tCons (tCB (rTupOf c.K) (tCons (tVar 5) (tNil))) (tNil)))))))))))
theorem dv__law_pattern {P : Program} {w : World} {mg : Str → Option Value} {base : Heap} {K : PySem.W.Frag} (T : Tx K mg) {sp__law_take : Sp} {R__law_variables : List DV → (DV → Prop) → Prop} (h__law_take : C8.Cal P w K mg base 1 "_law_take" sp__law_take [])  (h__law_variables : C8.Cal P w K mg base 1 "_law_variables" (spR (cf P w K) R__law_variables) []) {f : Addr} {cdv : Value} {A : Around} {outer : List Env} {s : Shared} {H : Hp} {E : XK}
    (hr : Room 1 (A.deeper (envOfC "_law_pattern" (defScope s__law_pattern) s.heap.objs.size f cdv))) : PSs (cxOf C8.CX0 P w K mg base N__law_pattern "_law_pattern" (defScope s__law_pattern) f cdv A outer s H E).nox (defBody s__law_pattern) (t__law_pattern (cf P w K) sp__law_take R__law_variables) :=
  pss_cons (ps_set (i := 4) sc__law_pattern.nd rfl (by first | exact Or.inl rfl | exact Or.inr rfl) (pe_slice sl_list (pe_lst (pa_cons (pe_str) (pa_cons (pe_str) (pa_cons (pe_str) (pa_cons (pe_str) (pa_cons (pe_str) (pa_cons (pe_str) (pa_nil)))))))) (po_none) (po_some (pe_op op_add (pe_int) (C8.pe_c h__law_take hr (by decide) rfl (pa_cons (pv 0) (pa_cons (pv 3) (pa_nil))))))))
  (pss_cons (ps_set (i := 5) sc__law_pattern.nd rfl (by first | exact Or.inl rfl | exact Or.inr rfl) (pe_lst (pa_nil)))
  (pss_cons (ps_for PassesOwn.never rfl (pi_range1 (by rfl) T.f_range (pa_cons (pe_op op_add (pe_int) (C8.pe_c h__law_take hr (by decide) rfl (pa_cons (pv 0) (pa_cons (pv 2) (pa_nil))))) (pa_nil))) (pg_name (i := 6) sc__law_pattern.nd rfl (by first | exact Or.inl rfl | exact Or.inr rfl)) (pss_cons (ps_set (i := 7) sc__law_pattern.nd rfl (by first | exact Or.inl rfl | exact Or.inr rfl) (pe_ix ix_seq (pv 1) (C8.pe_c h__law_take hr (by decide) rfl (pa_cons (pv 0) (pa_cons (pe_callB call_len (by rfl) T.f_len PySem.boot_len (pa_cons (pv 1) (pa_nil))) (pa_nil)))) (fun _ _ => rfl)))
  (pss_one (ps_expr (pe_bm PySem.F.plainAttrs_list PySem.F.slot_list_append PySem.F.type_list_append mt_append (pv 5) (pa_cons (pe_tup (pa_cons (pe_ix ix_seq (pv 7) (pe_int) (fun _ _ => rfl)) (pa_cons (pe_callTy cr_tupN (by rfl) T.f_tuple (by decide +kernel) (pa_cons (pe_lc (own := [("_law_j", 8)]) rfl sc__law_pattern.nd (pi_range1 (by rfl) T.f_range (pa_cons (pe_ix ix_seq (pv 7) (pe_int) (fun _ _ => rfl)) (pa_nil))) (blkOk_by (own := [("_law_j", 8)]) (N := N__law_pattern) (sc := (defScope s__law_pattern)) (by decide +kernel)) (fun _ _ _ _ _ => pg_name (i := 8) sc__law_pattern.nd rfl (by first | exact Or.inl rfl | exact Or.inr rfl)) (fun _ _ _ _ _ => pts_nil) (fun _ _ _ _ _ => pe_ix ix_seq (pv 4) (C8.pe_c h__law_take hr (by decide) rfl (pa_cons (pv 0) (pa_cons (pe_callB call_len (by rfl) T.f_len PySem.boot_len (pa_cons (pv 4) (pa_nil))) (pa_nil)))) (fun _ _ => rfl))) (pa_nil))) (pa_nil)))) (pa_nil)))))))
  (pss_cons (ps_set (i := 9) sc__law_pattern.nd rfl (by first | exact Or.inl rfl | exact Or.inr rfl) (pe_tup (pa_cons (pe_tup (pa_nil)) (pa_cons (pe_callTy call_tuple_of (by rfl) T.f_tuple (by decide +kernel) (pa_cons (pv 5) (pa_nil))) (pa_nil)))))
  (pss_cons (ps_set (i := 10) sc__law_pattern.nd rfl (by first | exact Or.inl rfl | exact Or.inr rfl) (C8.pe_c h__law_variables hr (by decide) rfl (pa_cons (pv 9) (pa_nil))))
  (pss_cons (ps_set (i := 11) sc__law_pattern.nd rfl (by first | exact Or.inl rfl | exact Or.inr rfl) (pe_lst (pa_nil)))
  (pss_cons (ps_for PassesOwn.never rfl (pi_range1 (by rfl) T.f_range (pa_cons (pe_callB call_len (by rfl) T.f_len PySem.boot_len (pa_cons (pv 10) (pa_nil))) (pa_nil))) (pg_name (i := 6) sc__law_pattern.nd rfl (by first | exact Or.inl rfl | exact Or.inr rfl)) (pss_cons (ps_set (i := 12) sc__law_pattern.nd rfl (by first | exact Or.inl rfl | exact Or.inr rfl) (pe_ix ix_seq (pv 10) (C8.pe_c h__law_take hr (by decide) rfl (pa_cons (pv 0) (pa_cons (pe_callB call_len (by rfl) T.f_len PySem.boot_len (pa_cons (pv 10) (pa_nil))) (pa_nil)))) (fun _ _ => rfl)))
  (pss_one (ps_if (PW.pt (pw_and (pt_cmpR (op_niX (room65 hr)) (pv 12) (pv 11) rfl) (pw_and1 (pt_cmpR op_gt (C8.pe_c h__law_take hr (by decide) rfl (pa_cons (pv 0) (pa_cons (pe_int) (pa_nil)))) (pe_int) (nomark _))))) (pss_one (ps_expr (pe_bm PySem.F.plainAttrs_list PySem.F.slot_list_append PySem.F.type_list_append mt_append (pv 11) (pa_cons (pv 12) (pa_nil))))) (pss_nil)))))
  (pss_one (ps_ret (pe_tup (pa_cons (pe_callTy cr_tupN (by rfl) T.f_tuple (by decide +kernel) (pa_cons (pv 11) (pa_nil))) (pa_cons (pe_callTy call_tuple_of (by rfl) T.f_tuple (by decide +kernel) (pa_cons (pv 5) (pa_nil))) (pa_nil))))))))))))
abbrev N_joined : List Str := ["catalogue", "pattern", "order", "limit", "search", "level", "visits", "k"]
theorem sc_joined : FnScope N_joined ["catalogue", "pattern", "order", "limit"] (defScope s_joined) := ⟨rfl, rfl, rfl, by decide +kernel, rfl, by decide +kernel, by decide +kernel⟩
def t_joined (c : Cf) (C_Search : Addr) (sp_Search : Sp) (sp_Search_first_level : Sp) (sp_Search_deeper : Sp) : TS :=
  tSeq (tAsg (tMake C_Search sp_Search [] C8.E0 (tCons (tVar 0) (tCons (tVar 1) (tCons (tVar 2) (tNil))))) (gName 4))
  (tSeq (tAsg (tMeth C_Search "first_level" sp_Search_first_level [] C8.E0 (tVar 4) tNil) (gName 5))
  (tSeq (tAsg (tLst (tNil)) (gName 6))
  (tSeq (tFor (iRng1 (tCons (tCB (rLen c.K) (tCons (tVar 2) (tNil))) (tNil))) (gName 7) (tSeq (tAsg (tMeth C_Search "deeper" sp_Search_deeper [] C8.E0 (tVar 4) (tCons (tVar 5) (tNil))) (gName 5))
  (tSeq (tIfS (tAnd (tTest (tOp rGtI (tVar 3) (tC (.int 0)))) (tTest (tOp rGtI (tCB (rLen c.K) (tCons (tVar 5) (tNil))) (tVar 3)))) (tNever) (tNext))
  (tDrop (tBM c.K "list" rAppend (tVar 6) (tCons (tCB (rLen c.K) (tCons (tVar 5) (tNil))) (tNil)))))))
  (tRet (tTup (tCons (tCB (rTupOf c.K) (tCons (tVar 5) (tNil))) (tCons (tCB (rTupOf c.K) (tCons (tVar 6) (tNil))) (tNil))))))))
theorem dv_joined {P : Program} {w : World} {mg : Str → Option Value} {base : Heap} {K : PySem.W.Frag} (T : Tx K mg) {C_Search : Addr} {sp_Search : Sp} {sp_Search_first_level : Sp} {sp_Search_deeper : Sp} (h_Search : C8.Mak P w K mg base 6 "Search" C_Search sp_Search [])  (h_Search_first_level : C8.Met P w K mg base 1 C_Search "first_level" sp_Search_first_level [])  (h_Search_deeper : C8.Met P w K mg base 5 C_Search "deeper" sp_Search_deeper []) {f : Addr} {cdv : Value} {A : Around} {outer : List Env} {s : Shared} {H : Hp} {E : XK}
    (hr : Room 7 (A.deeper (envOfC "joined" (defScope s_joined) s.heap.objs.size f cdv))) : PSs (cxOf C8.CX0 P w K mg base N_joined "joined" (defScope s_joined) f cdv A outer s H E).nox (defBody s_joined) (t_joined (cf P w K) C_Search sp_Search sp_Search_first_level sp_Search_deeper) :=
  pss_cons (ps_set (i := 4) sc_joined.nd rfl (by first | exact Or.inl rfl | exact Or.inr rfl) (C8.pe_mk h_Search hr (by decide) rfl (pa_cons (pv 0) (pa_cons (pv 1) (pa_cons (pv 2) (pa_nil))))))
  (pss_cons (ps_set (i := 5) sc_joined.nd rfl (by first | exact Or.inl rfl | exact Or.inr rfl) (C8.pe_mt0 h_Search_first_level hr (by decide) (pv 4)))
  (pss_cons (ps_set (i := 6) sc_joined.nd rfl (by first | exact Or.inl rfl | exact Or.inr rfl) (pe_lst (pa_nil)))
  (pss_cons (ps_for PassesOwn.never rfl (pi_range1 (by rfl) T.f_range (pa_cons (pe_callB call_len (by rfl) T.f_len PySem.boot_len (pa_cons (pv 2) (pa_nil))) (pa_nil))) (pg_name (i := 7) sc_joined.nd rfl (by first | exact Or.inl rfl | exact Or.inr rfl)) (pss_cons (ps_set (i := 5) sc_joined.nd rfl (by first | exact Or.inl rfl | exact Or.inr rfl) (C8.pe_mt h_Search_deeper hr (by decide) (pv 4) (pa_cons (pv 5) (pa_nil))))
  (pss_cons (ps_if (PW.pt (pw_and (pt_cmpR op_gt (pv 3) (pe_int) (nomark _)) (pw_and1 (pt_cmpR op_gt (pe_callB call_len (by rfl) T.f_len PySem.boot_len (pa_cons (pv 5) (pa_nil))) (pv 3) (nomark _))))) (pss_one (ps_never)) (pss_nil))
  (pss_one (ps_expr (pe_bm PySem.F.plainAttrs_list PySem.F.slot_list_append PySem.F.type_list_append mt_append (pv 6) (pa_cons (pe_callB call_len (by rfl) T.f_len PySem.boot_len (pa_cons (pv 5) (pa_nil))) (pa_nil))))))))
  (pss_one (ps_ret (pe_tup (pa_cons (pe_callTy call_tuple_of (by rfl) T.f_tuple (by decide +kernel) (pa_cons (pv 5) (pa_nil))) (pa_cons (pe_callTy call_tuple_of (by rfl) T.f_tuple (by decide +kernel) (pa_cons (pv 6) (pa_nil))) (pa_nil)))))))))
abbrev N_law : List Str := ["_law_script", "_law_d", "_law_catalogue_here", "_law_pattern_here", "_law_answers", "_law_answer", "_law_facts_here", "_law_known", "_law_variable", "_law_fact", "_law_cut_here", "_law_most", "_law_many", "_law_one", "_law_every", "_law_table_here", "_law_row", "_law_some", "_law_told", "_law_none"]
theorem sc_law : FnScope N_law ["_law_script"] (defScope s_law) := ⟨rfl, rfl, rfl, by decide +kernel, rfl, by decide +kernel, by decide +kernel⟩
def t_law (c : Cf) (sp__law_begin : Sp) (sp__law_catalogue : Sp) (sp__law_pattern : Sp) (R_plain_answers : List DV → (DV → Prop) → Prop) (sp__law_take : Sp) (R__law_assignments : List DV → (DV → Prop) → Prop) (R__law_facts : List DV → (DV → Prop) → Prop) (R__law_cut : List DV → (DV → Prop) → Prop) (R__law_gone : List DV → (DV → Prop) → Prop) (R__law_sets : List DV → (DV → Prop) → Prop) (R_check_cut : List DV → (DV → Prop) → Prop) : TS :=
  tSeq (tAsg (tCall sp__law_begin [] C8.E0 (tCons (tVar 0) (tNil))) (gName 1))
  (tSeq (tAsg (tCall sp__law_catalogue [] C8.E0 (tCons (tVar 1) (tCons (tC (.int 3)) (tCons (tC (.int 5)) (tCons (tC (.int 3)) (tNil)))))) (gName 2))
  (tSeq (tAsg (tCall sp__law_pattern [] C8.E0 (tCons (tVar 1) (tCons (tVar 2) (tCons (tC (.int 3)) (tCons (tC (.int 3)) (tNil)))))) (gName 3))
  (tSeq (tAsg (tCall (spR c R_plain_answers) [] C8.E0 (tCons (tVar 2) (tCons (tVar 3) (tNil)))) (gName 4))
  (tSeq (tIfS (tTest (tOp (rEqP c.K) (tCB (rLen c.K) (tCons (tVar 4) (tNil))) (tC (.int 0)))) (tRet (tC (.bl true))) (tNext))
  (tSeq (tAsg (tOp (rIx c.K) (tVar 4) (tCall sp__law_take [] C8.E0 (tCons (tVar 1) (tCons (tCB (rLen c.K) (tCons (tVar 4) (tNil))) (tNil))))) (gName 5))
  (tSeq (tAsg (tLst (tNil)) (gName 6))
  (tSeq (tFor (iList c.K (tCall (spR c R__law_assignments) [] C8.E0 (tCons (tVar 2) (tCons (tVar 3) (tNil))))) (gName 7) (tIfS (tTest (tOp (rEqP c.K) (tCB (rTupOf c.K) (tCons (tLc (iTup c.K (tOp (rIx c.K) (tVar 3) (tC (.int 0)))) (gName 8) (tYes) (tDGet (tVar 7) (tVar 8)) [8]) (tNil))) (tVar 5))) (tAsg (tOp rCat (tVar 6) (tLc (iList c.K (tCall (spR c R__law_facts) [] C8.E0 (tCons (tVar 3) (tCons (tVar 7) (tNil))))) (gName 9) (tTest (tOp (rNiX c.K) (tVar 9) (tVar 6))) (tVar 9) [9])) (gName 6)) (tNext)))
  (tSeq (tAsg (tCB (rSortX c) (tCons (tCB (rSetX c) (tCons (tVar 6) (tNil))) tNil)) (gName 6))
  (tSeq (tAsg (tCall (spR c R__law_cut) [] C8.E0 (tCons (tVar 2) (tCons (tVar 3) (tCons (tVar 5) (tNil))))) (gName 10))
  (tSeq (tIfS (tTest (tOp rGtI (tCB (rLen c.K) (tCons (tVar 6) (tNil))) (tC (.int 16)))) (tRet (tOp rIsN (tVar 10) (tC .non))) (tNext))
  (tSeq (tIfS (tOr (tTest (tOp rIsN (tVar 10) (tC .non))) (tNot (tB (tCall (spR c R__law_gone) [] C8.E0 (tCons (tVar 2) (tCons (tVar 3) (tCons (tVar 5) (tCons (tVar 10) (tNil))))))))) (tRet (tC (.bl false))) (tNext))
  (tSeq (tAsg (tIf (tTest (tOp rLtI (tCB (rLen c.K) (tCons (tVar 6) (tNil))) (tC (.int 8)))) (tCB rMin2 (tCons (tCB (rLen c.K) (tCons (tVar 10) (tNil))) (tCons (tC (.int 2)) (tNil)))) (tC (.int 1))) (gName 11))
  (tSeq (tFor (iRng1 (tCons (tOp rAddI (tVar 11) (tC (.int 1))) (tNil))) (gName 12) (tFor (iList c.K (tCall (spR c R__law_sets) [] C8.E0 (tCons (tVar 6) (tCons (tVar 12) (tNil))))) (gName 13) (tIfS (tAnd (tOr (tTest (tOp rLtI (tVar 12) (tCB (rLen c.K) (tCons (tVar 10) (tNil))))) (tAnd (tTest (tOp (rEqP c.K) (tVar 12) (tCB (rLen c.K) (tCons (tVar 10) (tNil))))) (tTest (tOp (rLtD c.K) (tVar 13) (tVar 10))))) (tB (tCall (spR c R__law_gone) [] C8.E0 (tCons (tVar 2) (tCons (tVar 3) (tCons (tVar 5) (tCons (tVar 13) (tNil)))))))) (tRet (tC (.bl false))) (tNext))))
  (tSeq (tAsg (tLst (tNil)) (gName 14))
  (tSeq (tFor (iTup c.K (tVar 2)) (gName 15) (tAsg (tOp rCat (tVar 14) (tLc (iTup c.K (tOp (rIx c.K) (tVar 15) (tC (.int 2)))) (gName 16) (tYes) (tTup (tCons (tOp (rIx c.K) (tVar 15) (tC (.int 0))) (tCons (tVar 16) (tNil)))) [16])) (gName 14)))
  (tSeq (tAsg (tCB (rTupOf c.K) (tCons (tLc (iList c.K (tVar 14)) (gName 9) (tTest (tOp (rEqP c.K) (tCall sp__law_take [] C8.E0 (tCons (tVar 1) (tCons (tC (.int 3)) (tNil)))) (tC (.int 1)))) (tVar 9) [9]) (tNil))) (gName 17))
  (tSeq (tFor (iTup c.K (tTup (tCons (tVar 10) (tCons (L2.tSl (rSlA c.K) (tVar 10) (tPart (tC (.int 1))) (tNoPart)) (tCons (tVar 17) (tCons (tCB (rTupOf c.K) (tCons (tCB (rSortX c) (tCons (tCB (rSetX c) (tCons (tOp (rCatA c.K) (tVar 10) (tVar 17)) (tNil))) tNil)) (tNil))) (tCons (tTup (tNil)) (tNil)))))))) (gName 13) (tSeq (tAsg (tCall (spR c R_check_cut) [] C8.E0 (tCons (tVar 2) (tCons (tVar 3) (tCons (tVar 5) (tCons (tVar 13) (tNil)))))) (gName 18))
  (tIfS (tOr (tNot (tB (tCB (rIsi c.K) (tCons (tVar 18) (tCons (tC (.ty "bool")) (tNil)))))) (tTest (tOp (rNeP c.K) (tVar 18) (tCall (spR c R__law_gone) [] C8.E0 (tCons (tVar 2) (tCons (tVar 3) (tCons (tVar 5) (tCons (tVar 13) (tNil))))))))) (tRet (tC (.bl false))) (tNext))))
  (tSeq (tAsg (tTup (tCons (tOp (rIx c.K) (tOp (rIx c.K) (tVar 2) (tC (.int 0))) (tC (.int 0))) (tCons (tOp (rRepN c.K) (tTup (tCons (tC (.int 9)) (tNil))) (tOp (rIx c.K) (tOp (rIx c.K) (tVar 2) (tC (.int 0))) (tC (.int 1)))) (tNil)))) (gName 19))
  (tRet (tAndV (tOp rIsB (tCall (spR c R_check_cut) [] C8.E0 (tCons (tVar 2) (tCons (tVar 3) (tCons (tVar 5) (tCons (tOp (rCatA c.K) (tVar 10) (L2.tSl (rSlA c.K) (tVar 10) (tPart (tUn (rU fun i => .int (-i)) (tC (.int 1)))) (tNoPart))) (tNil)))))) (tC (.bl false))) (tOp rIsB (tCall (spR c R_check_cut) [] C8.E0 (tCons (tVar 2) (tCons (tVar 3) (tCons (tVar 5) (tCons (tCB (rTupOf c.K) (tCons (tCB (rSortD c.K) (tCons (tOp (rCatA c.K) (tVar 10) (tTup (tCons (tVar 19) (tNil)))) (tNil))) (tNil))) (tNil)))))) (tC (.bl false)))))))))))))))))))))))
theorem dv_law {P : Program} {w : World} {mg : Str → Option Value} {base : Heap} {K : PySem.W.Frag} (T : Tx K mg) {sp__law_begin : Sp} {sp__law_catalogue : Sp} {sp__law_pattern : Sp} {R_plain_answers : List DV → (DV → Prop) → Prop} {sp__law_take : Sp} {R__law_assignments : List DV → (DV → Prop) → Prop} {R__law_facts : List DV → (DV → Prop) → Prop} {R__law_cut : List DV → (DV → Prop) → Prop} {R__law_gone : List DV → (DV → Prop) → Prop} {R__law_sets : List DV → (DV → Prop) → Prop} {R_check_cut : List DV → (DV → Prop) → Prop} (h__law_begin : C8.Cal P w K mg base 1 "_law_begin" sp__law_begin [])  (h__law_catalogue : C8.Cal P w K mg base 3 "_law_catalogue" sp__law_catalogue [])  (h__law_pattern : C8.Cal P w K mg base 2 "_law_pattern" sp__law_pattern [])  (h_plain_answers : C8.Cal P w K mg base 5 "plain_answers" (spR (cf P w K) R_plain_answers) [])  (h__law_take : C8.Cal P w K mg base 1 "_law_take" sp__law_take [])  (h__law_assignments : C8.Cal P w K mg base 3 "_law_assignments" (spR (cf P w K) R__law_assignments) [])  (h__law_facts : C8.Cal P w K mg base 1 "_law_facts" (spR (cf P w K) R__law_facts) [])  (h__law_cut : C8.Cal P w K mg base 22 "_law_cut" (spR (cf P w K) R__law_cut) [])  (h__law_gone : C8.Cal P w K mg base 6 "_law_gone" (spR (cf P w K) R__law_gone) [])  (h__law_sets : C8.Cal P w K mg base 1 "_law_sets" (spR (cf P w K) R__law_sets) [])  (h_check_cut : C8.Cal P w K mg base 10 "check_cut" (spR (cf P w K) R_check_cut) []) {f : Addr} {cdv : Value} {A : Around} {outer : List Env} {s : Shared} {H : Hp} {E : XK}
    (hr : Room 22 (A.deeper (envOfC "law" (defScope s_law) s.heap.objs.size f cdv))) : PSs (cxOf C8.CX0 P w K mg base N_law "law" (defScope s_law) f cdv A outer s H E).nox (defBody s_law) (t_law (cf P w K) sp__law_begin sp__law_catalogue sp__law_pattern R_plain_answers sp__law_take R__law_assignments R__law_facts R__law_cut R__law_gone R__law_sets R_check_cut) :=
  pss_cons (ps_set (i := 1) sc_law.nd rfl (by first | exact Or.inl rfl | exact Or.inr rfl) (C8.pe_c h__law_begin hr (by decide) rfl (pa_cons (pv 0) (pa_nil))))
  (pss_cons (ps_set (i := 2) sc_law.nd rfl (by first | exact Or.inl rfl | exact Or.inr rfl) (C8.pe_c h__law_catalogue hr (by decide) rfl (pa_cons (pv 1) (pa_cons (pe_int) (pa_cons (pe_int) (pa_cons (pe_int) (pa_nil)))))))
  (pss_cons (ps_set (i := 3) sc_law.nd rfl (by first | exact Or.inl rfl | exact Or.inr rfl) (C8.pe_c h__law_pattern hr (by decide) rfl (pa_cons (pv 1) (pa_cons (pv 2) (pa_cons (pe_int) (pa_cons (pe_int) (pa_nil)))))))
  (pss_cons (ps_set (i := 4) sc_law.nd rfl (by first | exact Or.inl rfl | exact Or.inr rfl) (C8.pe_c h_plain_answers hr (by decide) rfl (pa_cons (pv 2) (pa_cons (pv 3) (pa_nil)))))
  (pss_cons (ps_if (pt_cmpR (op_eqP hr.units) (pe_callB call_len (by rfl) T.f_len PySem.boot_len (pa_cons (pv 4) (pa_nil))) (pe_int) (nomark _)) (pss_one (ps_ret (pe_bl))) (pss_nil))
  (pss_cons (ps_set (i := 5) sc_law.nd rfl (by first | exact Or.inl rfl | exact Or.inr rfl) (pe_ix ix_seq (pv 4) (C8.pe_c h__law_take hr (by decide) rfl (pa_cons (pv 1) (pa_cons (pe_callB call_len (by rfl) T.f_len PySem.boot_len (pa_cons (pv 4) (pa_nil))) (pa_nil)))) (fun _ _ => rfl)))
  (pss_cons (ps_set (i := 6) sc_law.nd rfl (by first | exact Or.inl rfl | exact Or.inr rfl) (pe_lst (pa_nil)))
  (pss_cons (ps_for PassesOwn.never rfl (pi_list (C8.pe_c h__law_assignments hr (by decide) rfl (pa_cons (pv 2) (pa_cons (pv 3) (pa_nil))))) (pg_name (i := 7) sc_law.nd rfl (by first | exact Or.inl rfl | exact Or.inr rfl)) (pss_one (ps_if (pt_cmpR (op_eqP hr.units) (pe_callTy call_tuple_of (by rfl) T.f_tuple (by decide +kernel) (pa_cons (pe_lc (own := [("_law_variable", 8)]) rfl sc_law.nd (pi_tup (pe_ix ix_seq (pv 3) (pe_int) (fun _ _ => rfl))) (blkOk_by (own := [("_law_variable", 8)]) (N := N_law) (sc := (defScope s_law)) (by decide +kernel)) (fun _ _ _ _ _ => pg_name (i := 8) sc_law.nd rfl (by first | exact Or.inl rfl | exact Or.inr rfl)) (fun _ _ _ _ _ => pts_nil) (fun _ _ _ _ _ => pe_dget (hu_of hr) (pv 7) (pv 8) (fun _ _ => rfl))) (pa_nil))) (pv 5) (nomark _)) (pss_one (ps_set (i := 6) sc_law.nd rfl (by first | exact Or.inl rfl | exact Or.inr rfl) (pe_op op_cat (pv 6) (pe_lc (own := [("_law_fact", 9)]) rfl sc_law.nd (pi_list (C8.pe_c h__law_facts hr (by decide) rfl (pa_cons (pv 3) (pa_cons (pv 7) (pa_nil))))) (blkOk_by (own := [("_law_fact", 9)]) (N := N_law) (sc := (defScope s_law)) (by decide +kernel)) (fun _ _ _ _ _ => pg_name (i := 9) sc_law.nd rfl (by first | exact Or.inl rfl | exact Or.inr rfl)) (fun _ _ _ _ _ => pts_one (pt_cmpR (op_niX (room65 hr)) (pv 9) (pv 6) rfl)) (fun _ _ _ _ _ => pv 9))))) (pss_nil))))
  (pss_cons (ps_set (i := 6) sc_law.nd rfl (by first | exact Or.inl rfl | exact Or.inr rfl) (pe_callB (cr_sortX rfl hr.units) (by rfl) T.f_sorted (by decide +kernel) (pa_cons (pe_callTy (cr_setX rfl hr.units) (by rfl) T.f_set (by decide +kernel) (pa_cons (pv 6) (pa_nil))) pa_nil)))
  (pss_cons (ps_set (i := 10) sc_law.nd rfl (by first | exact Or.inl rfl | exact Or.inr rfl) (C8.pe_c h__law_cut hr (by decide) rfl (pa_cons (pv 2) (pa_cons (pv 3) (pa_cons (pv 5) (pa_nil))))))
  (pss_cons (ps_if (pt_cmpR op_gt (pe_callB call_len (by rfl) T.f_len PySem.boot_len (pa_cons (pv 6) (pa_nil))) (pe_int) (nomark _)) (pss_one (ps_ret (pe_cmpR op_isN (pv 10) pe_non (nomark _)))) (pss_nil))
  (pss_cons (ps_if (PW.pt (pw_or (pt_cmpR op_isN (pv 10) pe_non (nomark _)) (pw_or1 (pt_not (pt_val (C8.pe_c h__law_gone hr (by decide) rfl (pa_cons (pv 2) (pa_cons (pv 3) (pa_cons (pv 5) (pa_cons (pv 10) (pa_nil))))))))))) (pss_one (ps_ret (pe_bl))) (pss_nil))
  (pss_cons (ps_set (i := 11) sc_law.nd rfl (by first | exact Or.inl rfl | exact Or.inr rfl) (pe_ifExp (pt_cmpR op_lt (pe_callB call_len (by rfl) T.f_len PySem.boot_len (pa_cons (pv 6) (pa_nil))) (pe_int) (nomark _)) (pe_callB (call_min2 rfl) (by rfl) T.f_min (by decide +kernel) (pa_cons (pe_callB call_len (by rfl) T.f_len PySem.boot_len (pa_cons (pv 10) (pa_nil))) (pa_cons (pe_int) (pa_nil)))) (pe_int)))
  (pss_cons (ps_for PassesOwn.never rfl (pi_range1 (by rfl) T.f_range (pa_cons (pe_op op_add (pv 11) (pe_int)) (pa_nil))) (pg_name (i := 12) sc_law.nd rfl (by first | exact Or.inl rfl | exact Or.inr rfl)) (pss_one (ps_for PassesOwn.never rfl (pi_list (C8.pe_c h__law_sets hr (by decide) rfl (pa_cons (pv 6) (pa_cons (pv 12) (pa_nil))))) (pg_name (i := 13) sc_law.nd rfl (by first | exact Or.inl rfl | exact Or.inr rfl)) (pss_one (ps_if (PW.pt (pw_and (PW.pt (pw_or (pt_cmpR op_lt (pv 12) (pe_callB call_len (by rfl) T.f_len PySem.boot_len (pa_cons (pv 10) (pa_nil))) (nomark _)) (pw_or1 (PW.pt (pw_and (pt_cmpR (op_eqP hr.units) (pv 12) (pe_callB call_len (by rfl) T.f_len PySem.boot_len (pa_cons (pv 10) (pa_nil))) (nomark _)) (pw_and1 (pt_cmpR (op_ltD hr.units) (pv 13) (pv 10) (nomark _)))))))) (pw_and1 (pt_val (C8.pe_c h__law_gone hr (by decide) rfl (pa_cons (pv 2) (pa_cons (pv 3) (pa_cons (pv 5) (pa_cons (pv 13) (pa_nil)))))))))) (pss_one (ps_ret (pe_bl))) (pss_nil))))))
  (pss_cons (ps_set (i := 14) sc_law.nd rfl (by first | exact Or.inl rfl | exact Or.inr rfl) (pe_lst (pa_nil)))
  (pss_cons (ps_for PassesOwn.never rfl (pi_tup (pv 2)) (pg_name (i := 15) sc_law.nd rfl (by first | exact Or.inl rfl | exact Or.inr rfl)) (pss_one (ps_set (i := 14) sc_law.nd rfl (by first | exact Or.inl rfl | exact Or.inr rfl) (pe_op op_cat (pv 14) (pe_lc (own := [("_law_row", 16)]) rfl sc_law.nd (pi_tup (pe_ix ix_seq (pv 15) (pe_int) (fun _ _ => rfl))) (blkOk_by (own := [("_law_row", 16)]) (N := N_law) (sc := (defScope s_law)) (by decide +kernel)) (fun _ _ _ _ _ => pg_name (i := 16) sc_law.nd rfl (by first | exact Or.inl rfl | exact Or.inr rfl)) (fun _ _ _ _ _ => pts_nil) (fun _ _ _ _ _ => pe_tup (pa_cons (pe_ix ix_seq (pv 15) (pe_int) (fun _ _ => rfl)) (pa_cons (pv 16) (pa_nil)))))))))
  (pss_cons (ps_set (i := 17) sc_law.nd rfl (by first | exact Or.inl rfl | exact Or.inr rfl) (pe_callTy call_tuple_of (by rfl) T.f_tuple (by decide +kernel) (pa_cons (pe_lc (own := [("_law_fact", 9)]) rfl sc_law.nd (pi_list (pv 14)) (blkOk_by (own := [("_law_fact", 9)]) (N := N_law) (sc := (defScope s_law)) (by decide +kernel)) (fun _ _ _ _ _ => pg_name (i := 9) sc_law.nd rfl (by first | exact Or.inl rfl | exact Or.inr rfl)) (fun _ _ _ _ _ => pts_one (pt_cmpR (op_eqP hr.units) (C8.pe_c h__law_take hr (by decide) rfl (pa_cons (pv 1) (pa_cons (pe_int) (pa_nil)))) (pe_int) (nomark _))) (fun _ _ _ _ _ => pv 9)) (pa_nil))))
  (pss_cons (ps_for PassesOwn.never rfl (pi_tup (pe_tup (pa_cons (pv 10) (pa_cons (pe_slice sl_tupA (pv 10) (po_some (pe_int)) (po_none)) (pa_cons (pv 17) (pa_cons (pe_callTy call_tuple_of (by rfl) T.f_tuple (by decide +kernel) (pa_cons (pe_callB (cr_sortX rfl hr.units) (by rfl) T.f_sorted (by decide +kernel) (pa_cons (pe_callTy (cr_setX rfl hr.units) (by rfl) T.f_set (by decide +kernel) (pa_cons (pe_op op_catA (pv 10) (pv 17)) (pa_nil))) pa_nil)) (pa_nil))) (pa_cons (pe_tup (pa_nil)) (pa_nil)))))))) (pg_name (i := 13) sc_law.nd rfl (by first | exact Or.inl rfl | exact Or.inr rfl)) (pss_cons (ps_set (i := 18) sc_law.nd rfl (by first | exact Or.inl rfl | exact Or.inr rfl) (C8.pe_c h_check_cut hr (by decide) rfl (pa_cons (pv 2) (pa_cons (pv 3) (pa_cons (pv 5) (pa_cons (pv 13) (pa_nil)))))))
  (pss_one (ps_if (PW.pt (pw_or (pt_not (pt_val (pe_callB call_isi (by rfl) T.f_isinstance (by decide +kernel) (pa_cons (pv 18) (pa_cons (pe_bltn (by rfl) T.f_bool (by decide +kernel) rfl) (pa_nil)))))) (pw_or1 (pt_cmpR (op_neP hr.units) (pv 18) (C8.pe_c h__law_gone hr (by decide) rfl (pa_cons (pv 2) (pa_cons (pv 3) (pa_cons (pv 5) (pa_cons (pv 13) (pa_nil)))))) (nomark _))))) (pss_one (ps_ret (pe_bl))) (pss_nil)))))
  (pss_cons (ps_set (i := 19) sc_law.nd rfl (by first | exact Or.inl rfl | exact Or.inr rfl) (pe_tup (pa_cons (pe_ix ix_seq (pe_ix ix_seq (pv 2) (pe_int) (fun _ _ => rfl)) (pe_int) (fun _ _ => rfl)) (pa_cons (pe_op op_repN (pe_tup (pa_cons (pe_int) (pa_nil))) (pe_ix ix_seq (pe_ix ix_seq (pv 2) (pe_int) (fun _ _ => rfl)) (pe_int) (fun _ _ => rfl))) (pa_nil)))))
  (pss_one (ps_ret (pe_and (pe_cmpR op_isBl (C8.pe_c h_check_cut hr (by decide) rfl (pa_cons (pv 2) (pa_cons (pv 3) (pa_cons (pv 5) (pa_cons (pe_op op_catA (pv 10) (pe_slice sl_tupA (pv 10) (po_some (pe_un un_neg (pe_int))) (po_none))) (pa_nil)))))) (pe_bl) (nomark _)) (pe_one (pe_cmpR op_isBl (C8.pe_c h_check_cut hr (by decide) rfl (pa_cons (pv 2) (pa_cons (pv 3) (pa_cons (pv 5) (pa_cons (pe_callTy call_tuple_of (by rfl) T.f_tuple (by decide +kernel) (pa_cons (pe_callB (cr_sortD hr.units) (by rfl) T.f_sorted (by decide +kernel) (pa_cons (pe_op op_catA (pv 10) (pe_tup (pa_cons (pv 19) (pa_nil)))) (pa_nil))) (pa_nil))) (pa_nil)))))) (pe_bl) (nomark _))))))))))))))))))))))))
end JQ

-- part Dvd
set_option Elab.async false
set_option linter.all false
set_option maxRecDepth 100000
set_option maxHeartbeats 2000000
/-! Readings and derivations (printed by gend.py). -/
namespace JQ
open PySem PySem.Spec PyProof.Rows L2
abbrev N_Trie_init : List Str := ["self", "rows", "positions", "good", "k", "row"]
theorem sc_Trie_init : FnScope N_Trie_init ["self", "rows", "positions"] (defScope s_Trie_init) := ⟨rfl, rfl, rfl, by decide +kernel, rfl, by decide +kernel, by decide +kernel⟩
def t_Trie_init (c : Cf) (C_Trie : Addr) (sp_Trie_put : Sp) : TS :=
  tSeq (tAsg (tAndV (tOp rGtI (tCB (rLen c.K) (tCons (tVar 2) (tNil))) (tC (.int 0))) (tNotV (tCB (rAny c.K) (tCons (tLc (iRng1 (tCons (tCB (rLen c.K) (tCons (tVar 2) (tNil))) (tNil))) (gName 4) (tYes) (tOp (rInX c.K) (tOp (rIx c.K) (tVar 2) (tVar 4)) (L2.tSl (rSlA c.K) (tVar 2) (tNoPart) (tPart (tVar 4)))) [4]) (tNil))))) (gName 3))
  (tSeq (tIfS (tOr (tNot (tB (tVar 3))) (tB (tCB (rAny c.K) (tCons (tLc2 (iList c.K (tVar 1)) (gName 5) (tYes) (iTup c.K (tVar 2)) (gName 4) (tYes) (tOrV (tOp rLtI (tVar 4) (tC (.int 0))) (tOp rGeI (tVar 4) (tCB (rLen c.K) (tCons (tVar 5) (tNil))))) [5, 4] [4]) (tNil))))) (tNever) (tNext))
  (tSeq (sFld c.K (tVar 0) (tDNewK) "top")
  (tSeq (sFld c.K (tVar 0) (tC (.int 0)) "size")
  (tSeq (sFld c.K (tVar 0) (tCB (rLen c.K) (tCons (tVar 2) (tNil))) "depth")
  (tFor (iList c.K (tVar 1)) (gName 5) (tDrop (tMeth C_Trie "put" sp_Trie_put [] C8.E0 (tVar 0) (tCons (tLc (iTup c.K (tVar 2)) (gName 4) (tYes) (tOp (rIx c.K) (tVar 5) (tVar 4)) [4]) (tNil)))))))))
theorem dv_Trie_init {P : Program} {w : World} {mg : Str → Option Value} {base : Heap} {K : PySem.W.Frag} (T : Tx K mg) {C_Trie : Addr} {sp_Trie_put : Sp} (h_Trie_put : C8.Met P w K mg base 1 C_Trie "put" sp_Trie_put []) {f : Addr} {cdv : Value} {A : Around} {outer : List Env} {s : Shared} {H : Hp} {E : XK}
    (hr : Room 1 (A.deeper (envOfC "Trie.__init__" (defScope s_Trie_init) s.heap.objs.size f cdv))) : PSs (cxOf C8.CX0 P w K mg base N_Trie_init "Trie.__init__" (defScope s_Trie_init) f cdv A outer s H E).nox (defBody s_Trie_init) (t_Trie_init (cf P w K) C_Trie sp_Trie_put) :=
  pss_cons (ps_set (i := 3) sc_Trie_init.nd rfl (by first | exact Or.inl rfl | exact Or.inr rfl) (pe_and (pe_cmpR op_gt (pe_callB call_len (by rfl) T.f_len PySem.boot_len (pa_cons (pv 2) (pa_nil))) (pe_int) (nomark _)) (pe_one (pe_not (pe_callB (cr_any rfl) (by rfl) T.f_any (by decide +kernel) (pa_cons (pe_lc (own := [("k", 4)]) rfl sc_Trie_init.nd (pi_range1 (by rfl) T.f_range (pa_cons (pe_callB call_len (by rfl) T.f_len PySem.boot_len (pa_cons (pv 2) (pa_nil))) (pa_nil))) (blkOk_by (own := [("k", 4)]) (N := N_Trie_init) (sc := (defScope s_Trie_init)) (by decide +kernel)) (fun _ _ _ _ _ => pg_name (i := 4) sc_Trie_init.nd rfl (by first | exact Or.inl rfl | exact Or.inr rfl)) (fun _ _ _ _ _ => pts_nil) (fun _ _ _ _ _ => pe_cmpR (op_inX (room65 hr)) (pe_ix ix_seq (pv 2) (pv 4) (fun _ _ => rfl)) (pe_slice sl_tupA (pv 2) (po_none) (po_some (pv 4))) rfl)) (pa_nil)))))))
  (pss_cons (ps_if (PW.pt (pw_or (pt_not (pt_val (pv 3))) (pw_or1 (pt_val (pe_callB (cr_any rfl) (by rfl) T.f_any (by decide +kernel) (pa_cons (pe_lc2 (own := [("row", 5), ("k", 4)]) (vs1 := [4]) rfl sc_Trie_init.nd (pi_list (pv 1)) (blkOk_by (own := [("row", 5), ("k", 4)]) (N := N_Trie_init) (sc := (defScope s_Trie_init)) (by decide +kernel)) (by decide) (fun _ _ _ _ _ => pg_name (i := 5) sc_Trie_init.nd rfl (by first | exact Or.inl rfl | exact Or.inr rfl)) (fun _ _ _ _ _ => pts_nil) (fun _ _ _ _ _ => pi_tup (pv 2)) (fun _ _ _ _ _ => pg_name (i := 4) sc_Trie_init.nd rfl (by first | exact Or.inl rfl | exact Or.inr rfl)) (fun _ _ _ _ _ => pts_nil) (fun _ _ _ _ _ => pe_or (pe_cmpR op_lt (pv 4) (pe_int) (nomark _)) (pe_one (pe_cmpR op_ge (pv 4) (pe_callB call_len (by rfl) T.f_len PySem.boot_len (pa_cons (pv 5) (pa_nil))) (nomark _))))) (pa_nil))))))) (pss_one (ps_never)) (pss_nil))
  (pss_cons (ps_fld (pv 0) (pe_dnewK) rfl)
  (pss_cons (ps_fld (pv 0) (pe_int) rfl)
  (pss_cons (ps_fld (pv 0) (pe_callB call_len (by rfl) T.f_len PySem.boot_len (pa_cons (pv 2) (pa_nil))) rfl)
  (pss_one (ps_for PassesOwn.never rfl (pi_list (pv 1)) (pg_name (i := 5) sc_Trie_init.nd rfl (by first | exact Or.inl rfl | exact Or.inr rfl)) (pss_one (ps_expr (C8.pe_mt h_Trie_put hr (by decide) (pv 0) (pa_cons (pe_lc (own := [("k", 4)]) rfl sc_Trie_init.nd (pi_tup (pv 2)) (blkOk_by (own := [("k", 4)]) (N := N_Trie_init) (sc := (defScope s_Trie_init)) (by decide +kernel)) (fun _ _ _ _ _ => pg_name (i := 4) sc_Trie_init.nd rfl (by first | exact Or.inl rfl | exact Or.inr rfl)) (fun _ _ _ _ _ => pts_nil) (fun _ _ _ _ _ => pe_ix ix_seq (pv 5) (pv 4) (fun _ _ => rfl))) (pa_nil)))))))))))
abbrev N_Trie_put : List Str := ["self", "entries", "node", "k"]
theorem sc_Trie_put : FnScope N_Trie_put ["self", "entries"] (defScope s_Trie_put) := ⟨rfl, rfl, rfl, by decide +kernel, rfl, by decide +kernel, by decide +kernel⟩
def t_Trie_put (c : Cf)  : TS :=
  tSeq (tAsg (tFld c.K (tVar 0) "top") (gName 2))
  (tFor (iRng1 (tCons (tCB (rLen c.K) (tCons (tVar 1) (tNil))) (tNil))) (gName 3) (tSeq (tIfS (tB (tDNotIn (tOp (rIx c.K) (tVar 1) (tVar 3)) (tVar 2))) (tSeq (sDPut (tVar 2) (tOp (rIx c.K) (tVar 1) (tVar 3)) (tDNewK))
  (tIfS (tTest (tOp (rEqP c.K) (tOp rAddI (tVar 3) (tC (.int 1))) (tCB (rLen c.K) (tCons (tVar 1) (tNil))))) (sFld c.K (tVar 0) (tOp rAddI (tFld c.K (tVar 0) "size") (tC (.int 1))) "size") (tNext))) (tNext))
  (tAsg (tDGet (tVar 2) (tOp (rIx c.K) (tVar 1) (tVar 3))) (gName 2))))
theorem dv_Trie_put {P : Program} {w : World} {mg : Str → Option Value} {base : Heap} {K : PySem.W.Frag} (T : Tx K mg)  {f : Addr} {cdv : Value} {A : Around} {outer : List Env} {s : Shared} {H : Hp} {E : XK}
    (hr : Room 0 (A.deeper (envOfC "Trie.put" (defScope s_Trie_put) s.heap.objs.size f cdv))) : PSs (cxOf C8.CX0 P w K mg base N_Trie_put "Trie.put" (defScope s_Trie_put) f cdv A outer s H E).nox (defBody s_Trie_put) (t_Trie_put (cf P w K) ) :=
  pss_cons (ps_set (i := 2) sc_Trie_put.nd rfl (by first | exact Or.inl rfl | exact Or.inr rfl) (pe_fld (pv 0) rfl))
  (pss_one (ps_for PassesOwn.never rfl (pi_range1 (by rfl) T.f_range (pa_cons (pe_callB call_len (by rfl) T.f_len PySem.boot_len (pa_cons (pv 1) (pa_nil))) (pa_nil))) (pg_name (i := 3) sc_Trie_put.nd rfl (by first | exact Or.inl rfl | exact Or.inr rfl)) (pss_cons (ps_if (pt_cmp (pc_dnotin (hu_of hr) (pe_ix ix_seq (pv 1) (pv 3) (fun _ _ => rfl)) (pv 2)) rfl) (pss_cons (ps_dput (hu_of hr) (pv 2) (pe_ix ix_seq (pv 1) (pv 3) (fun _ _ => rfl)) (pe_dnewK) rfl)
  (pss_one (ps_if (pt_cmpR (op_eqP hr.units) (pe_op op_add (pv 3) (pe_int)) (pe_callB call_len (by rfl) T.f_len PySem.boot_len (pa_cons (pv 1) (pa_nil))) (nomark _)) (pss_one (ps_fld (pv 0) (pe_op op_add (pe_fld (pv 0) rfl) (pe_int)) rfl)) (pss_nil)))) (pss_nil))
  (pss_one (ps_set (i := 2) sc_Trie_put.nd rfl (by first | exact Or.inl rfl | exact Or.inr rfl) (pe_dget (hu_of hr) (pv 2) (pe_ix ix_seq (pv 1) (pv 3) (fun _ _ => rfl)) (fun _ _ => rfl)))))))
abbrev N_Trie_node_at : List Str := ["self", "prefix", "node", "entry"]
theorem sc_Trie_node_at : FnScope N_Trie_node_at ["self", "prefix"] (defScope s_Trie_node_at) := ⟨rfl, rfl, rfl, by decide +kernel, rfl, by decide +kernel, by decide +kernel⟩
def t_Trie_node_at (c : Cf)  : TS :=
  tSeq (tAsg (tFld c.K (tVar 0) "top") (gName 2))
  (tSeq (tFor (iTup c.K (tVar 1)) (gName 3) (tSeq (tIfS (tB (tDNotIn (tVar 3) (tVar 2))) (tRet (tC .non)) (tNext))
  (tAsg (tDGet (tVar 2) (tVar 3)) (gName 2))))
  (tRet (tVar 2)))
theorem dv_Trie_node_at {P : Program} {w : World} {mg : Str → Option Value} {base : Heap} {K : PySem.W.Frag} (T : Tx K mg)  {f : Addr} {cdv : Value} {A : Around} {outer : List Env} {s : Shared} {H : Hp} {E : XK}
    (hr : Room 0 (A.deeper (envOfC "Trie.node_at" (defScope s_Trie_node_at) s.heap.objs.size f cdv))) : PSs (cxOf C8.CX0 P w K mg base N_Trie_node_at "Trie.node_at" (defScope s_Trie_node_at) f cdv A outer s H E).nox (defBody s_Trie_node_at) (t_Trie_node_at (cf P w K) ) :=
  pss_cons (ps_set (i := 2) sc_Trie_node_at.nd rfl (by first | exact Or.inl rfl | exact Or.inr rfl) (pe_fld (pv 0) rfl))
  (pss_cons (ps_for PassesOwn.never rfl (pi_tup (pv 1)) (pg_name (i := 3) sc_Trie_node_at.nd rfl (by first | exact Or.inl rfl | exact Or.inr rfl)) (pss_cons (ps_if (pt_cmp (pc_dnotin (hu_of hr) (pv 3) (pv 2)) rfl) (pss_one (ps_ret (pe_non))) (pss_nil))
  (pss_one (ps_set (i := 2) sc_Trie_node_at.nd rfl (by first | exact Or.inl rfl | exact Or.inr rfl) (pe_dget (hu_of hr) (pv 2) (pv 3) (fun _ _ => rfl))))))
  (pss_one (ps_ret (pv 2))))
abbrev N_Trie_children : List Str := ["self", "prefix", "node"]
theorem sc_Trie_children : FnScope N_Trie_children ["self", "prefix"] (defScope s_Trie_children) := ⟨rfl, rfl, rfl, by decide +kernel, rfl, by decide +kernel, by decide +kernel⟩
def t_Trie_children (c : Cf) (C_Trie : Addr) (sp_Trie_node_at : Sp) : TS :=
  tSeq (tAsg (tMeth C_Trie "node_at" sp_Trie_node_at [] C8.E0 (tVar 0) (tCons (tVar 1) (tNil))) (gName 2))
  (tSeq (tIfS (tTest (tOp rIsN (tVar 2) (tC .non))) (tRet (tTup (tNil))) (tNext))
  (tRet (tCB (rTupOf c.K) (tCons (tCB rSortNd (tCons (tVar 2) (tNil))) (tNil)))))
theorem dv_Trie_children {P : Program} {w : World} {mg : Str → Option Value} {base : Heap} {K : PySem.W.Frag} (T : Tx K mg) {C_Trie : Addr} {sp_Trie_node_at : Sp} (h_Trie_node_at : C8.Met P w K mg base 1 C_Trie "node_at" sp_Trie_node_at []) {f : Addr} {cdv : Value} {A : Around} {outer : List Env} {s : Shared} {H : Hp} {E : XK}
    (hr : Room 1 (A.deeper (envOfC "Trie.children" (defScope s_Trie_children) s.heap.objs.size f cdv))) : PSs (cxOf C8.CX0 P w K mg base N_Trie_children "Trie.children" (defScope s_Trie_children) f cdv A outer s H E).nox (defBody s_Trie_children) (t_Trie_children (cf P w K) C_Trie sp_Trie_node_at) :=
  pss_cons (ps_set (i := 2) sc_Trie_children.nd rfl (by first | exact Or.inl rfl | exact Or.inr rfl) (C8.pe_mt h_Trie_node_at hr (by decide) (pv 0) (pa_cons (pv 1) (pa_nil))))
  (pss_cons (ps_if (pt_cmpR op_isN (pv 2) pe_non (nomark _)) (pss_one (ps_ret (pe_tup (pa_nil)))) (pss_nil))
  (pss_one (ps_ret (pe_callTy call_tuple_of (by rfl) T.f_tuple (by decide +kernel) (pa_cons (pe_callB (cr_sortNd rfl) (by rfl) T.f_sorted (by decide +kernel) (pa_cons (pv 2) (pa_nil))) (pa_nil))))))
abbrev N_Branch_init : List Str := ["self", "catalogue", "atom", "order", "name", "variables", "rows", "row", "k"]
theorem sc_Branch_init : FnScope N_Branch_init ["self", "catalogue", "atom", "order"] (defScope s_Branch_init) := ⟨rfl, rfl, rfl, by decide +kernel, rfl, by decide +kernel, by decide +kernel⟩
def t_Branch_init (c : Cf) (R_table_at : List DV → (DV → Prop) → Prop) (C_Branch : Addr) (sp_Branch_agrees : Sp) (C_Trie : Addr) (sp_Trie : Sp) : TS :=
  tSeq (tAsg (tVar 2) (gTup c.K 2 (gCons (gName 4) (gCons (gName 5) (gNil)))))
  (tSeq (tAsg (tLc (iTup c.K (tOp (rIx c.K) (tCall (spR c R_table_at) [] C8.E0 (tCons (tVar 1) (tCons (tVar 4) (tNil)))) (tC (.int 2)))) (gName 7) (tB (tMeth C_Branch "agrees" sp_Branch_agrees [] C8.E0 (tVar 0) (tCons (tVar 5) (tCons (tVar 7) (tNil))))) (tVar 7) [7]) (gName 6))
  (tSeq (sFld c.K (tVar 0) (tLc (iRng1 (tCons (tCB (rLen c.K) (tCons (tVar 3) (tNil))) (tNil))) (gName 8) (tTest (tOp (rInX c.K) (tOp (rIx c.K) (tVar 3) (tVar 8)) (tVar 5))) (tVar 8) [8]) "places")
  (tSeq (sFld c.K (tVar 0) (tOp (rEqP c.K) (tCB (rLen c.K) (tCons (tVar 6) (tNil))) (tC (.int 0))) "empty")
  (tSeq (sFld c.K (tVar 0) (tC .non) "trie")
  (tIfS (tTest (tOp rGtI (tCB (rLen c.K) (tCons (tFld c.K (tVar 0) "places") (tNil))) (tC (.int 0)))) (sFld c.K (tVar 0) (tMake C_Trie sp_Trie [] C8.E0 (tCons (tVar 6) (tCons (tCB (rTupOf c.K) (tCons (tLc (iList c.K (tFld c.K (tVar 0) "places")) (gName 8) (tYes) (tIdx (tVar 5) (tOp (rIx c.K) (tVar 3) (tVar 8))) [8]) (tNil))) (tNil)))) "trie") (tNext))))))
theorem dv_Branch_init {P : Program} {w : World} {mg : Str → Option Value} {base : Heap} {K : PySem.W.Frag} (T : Tx K mg) {R_table_at : List DV → (DV → Prop) → Prop} {C_Branch : Addr} {sp_Branch_agrees : Sp} {C_Trie : Addr} {sp_Trie : Sp} (h_table_at : C8.Cal P w K mg base 2 "table_at" (spR (cf P w K) R_table_at) [])  (h_Branch_agrees : C8.Met P w K mg base 1 C_Branch "agrees" sp_Branch_agrees [])  (h_Trie : C8.Mak P w K mg base 2 "Trie" C_Trie sp_Trie []) {f : Addr} {cdv : Value} {A : Around} {outer : List Env} {s : Shared} {H : Hp} {E : XK}
    (hr : Room 3 (A.deeper (envOfC "Branch.__init__" (defScope s_Branch_init) s.heap.objs.size f cdv))) : PSs (cxOf C8.CX0 P w K mg base N_Branch_init "Branch.__init__" (defScope s_Branch_init) f cdv A outer s H E).nox (defBody s_Branch_init) (t_Branch_init (cf P w K) R_table_at C_Branch sp_Branch_agrees C_Trie sp_Trie) :=
  pss_cons (ps_asg (pv 2) (pg_tup rfl (pgs_cons (pg_name (i := 4) sc_Branch_init.nd rfl (by first | exact Or.inl rfl | exact Or.inr rfl)) (pgs_cons (pg_name (i := 5) sc_Branch_init.nd rfl (by first | exact Or.inl rfl | exact Or.inr rfl)) (pgs_nil)))))
  (pss_cons (ps_setLc (i := 6) (own := [("row", 7)]) rfl sc_Branch_init.nd rfl rfl (sw_true rfl rfl rfl (by decide +kernel)) (pi_tup (pe_ix ix_seq (C8.pe_c h_table_at hr (by decide) rfl (pa_cons (pv 1) (pa_cons (pv 4) (pa_nil)))) (pe_int) (fun _ _ => rfl))) (blkOk_by (own := [("row", 7)]) (N := N_Branch_init) (sc := (defScope s_Branch_init)) (by decide +kernel)) (fun _ _ _ _ _ => pg_name (i := 7) sc_Branch_init.nd rfl (by first | exact Or.inl rfl | exact Or.inr rfl)) (fun _ _ _ _ _ => pts_one (pt_val (C8.pe_mt h_Branch_agrees hr (by decide) (pv 0) (pa_cons (pv 5) (pa_cons (pv 7) (pa_nil)))))) (fun _ _ _ _ _ => pv 7))
  (pss_cons (ps_fld (pv 0) (pe_lc (own := [("k", 8)]) rfl sc_Branch_init.nd (pi_range1 (by rfl) T.f_range (pa_cons (pe_callB call_len (by rfl) T.f_len PySem.boot_len (pa_cons (pv 3) (pa_nil))) (pa_nil))) (blkOk_by (own := [("k", 8)]) (N := N_Branch_init) (sc := (defScope s_Branch_init)) (by decide +kernel)) (fun _ _ _ _ _ => pg_name (i := 8) sc_Branch_init.nd rfl (by first | exact Or.inl rfl | exact Or.inr rfl)) (fun _ _ _ _ _ => pts_one (pt_cmpR (op_inX (room65 hr)) (pe_ix ix_seq (pv 3) (pv 8) (fun _ _ => rfl)) (pv 5) rfl)) (fun _ _ _ _ _ => pv 8)) rfl)
  (pss_cons (ps_fld (pv 0) (pe_cmpR (op_eqP hr.units) (pe_callB call_len (by rfl) T.f_len PySem.boot_len (pa_cons (pv 6) (pa_nil))) (pe_int) (nomark _)) rfl)
  (pss_cons (ps_fld (pv 0) (pe_non) rfl)
  (pss_one (ps_if (pt_cmpR op_gt (pe_callB call_len (by rfl) T.f_len PySem.boot_len (pa_cons (pe_fld (pv 0) rfl) (pa_nil))) (pe_int) (nomark _)) (pss_one (ps_fld (pv 0) (C8.pe_mk h_Trie hr (by decide) rfl (pa_cons (pv 6) (pa_cons (pe_callTy call_tuple_of (by rfl) T.f_tuple (by decide +kernel) (pa_cons (pe_lc (own := [("k", 8)]) rfl sc_Branch_init.nd (pi_list (pe_fld (pv 0) rfl)) (blkOk_by (own := [("k", 8)]) (N := N_Branch_init) (sc := (defScope s_Branch_init)) (by decide +kernel)) (fun _ _ _ _ _ => pg_name (i := 8) sc_Branch_init.nd rfl (by first | exact Or.inl rfl | exact Or.inr rfl)) (fun _ _ _ _ _ => pts_nil) (fun _ _ _ _ _ => pe_idx (pv 5) (pe_ix ix_seq (pv 3) (pv 8) (fun _ _ => rfl)))) (pa_nil))) (pa_nil)))) rfl)) (pss_nil)))))))
abbrev N_Branch_agrees : List Str := ["self", "variables", "row", "k"]
theorem sc_Branch_agrees : FnScope N_Branch_agrees ["self", "variables", "row"] (defScope s_Branch_agrees) := ⟨rfl, rfl, rfl, by decide +kernel, rfl, by decide +kernel, by decide +kernel⟩
def t_Branch_agrees (c : Cf)  : TS :=
  tRet (tCB (rAll c.K) (tCons (tLc (iRng1 (tCons (tCB (rLen c.K) (tCons (tVar 1) (tNil))) (tNil))) (gName 3) (tYes) (tOp (rEqP c.K) (tOp (rIx c.K) (tVar 2) (tVar 3)) (tOp (rIx c.K) (tVar 2) (tIdx (tVar 1) (tOp (rIx c.K) (tVar 1) (tVar 3))))) [3]) (tNil)))
theorem dv_Branch_agrees {P : Program} {w : World} {mg : Str → Option Value} {base : Heap} {K : PySem.W.Frag} (T : Tx K mg)  {f : Addr} {cdv : Value} {A : Around} {outer : List Env} {s : Shared} {H : Hp} {E : XK}
    (hr : Room 0 (A.deeper (envOfC "Branch.agrees" (defScope s_Branch_agrees) s.heap.objs.size f cdv))) : PSs (cxOf C8.CX0 P w K mg base N_Branch_agrees "Branch.agrees" (defScope s_Branch_agrees) f cdv A outer s H E).nox (defBody s_Branch_agrees) (t_Branch_agrees (cf P w K) ) :=
  pss_one (ps_ret (pe_callB (cr_all rfl) (by rfl) T.f_all (by decide +kernel) (pa_cons (pe_lc (own := [("k", 3)]) rfl sc_Branch_agrees.nd (pi_range1 (by rfl) T.f_range (pa_cons (pe_callB call_len (by rfl) T.f_len PySem.boot_len (pa_cons (pv 1) (pa_nil))) (pa_nil))) (blkOk_by (own := [("k", 3)]) (N := N_Branch_agrees) (sc := (defScope s_Branch_agrees)) (by decide +kernel)) (fun _ _ _ _ _ => pg_name (i := 3) sc_Branch_agrees.nd rfl (by first | exact Or.inl rfl | exact Or.inr rfl)) (fun _ _ _ _ _ => pts_nil) (fun _ _ _ _ _ => pe_cmpR (op_eqP hr.units) (pe_ix ix_seq (pv 2) (pv 3) (fun _ _ => rfl)) (pe_ix ix_seq (pv 2) (pe_idx (pv 1) (pe_ix ix_seq (pv 1) (pv 3) (fun _ _ => rfl))) (fun _ _ => rfl)) (nomark _))) (pa_nil))))
abbrev N_Branch_choices : List Str := ["self", "prefix", "k"]
theorem sc_Branch_choices : FnScope N_Branch_choices ["self", "prefix"] (defScope s_Branch_choices) := ⟨rfl, rfl, rfl, by decide +kernel, rfl, by decide +kernel, by decide +kernel⟩
def t_Branch_choices (c : Cf) (C_Trie : Addr) (sp_Trie_children : Sp) : TS :=
  tRet (tMeth C_Trie "children" sp_Trie_children [] C8.E0 (tFld c.K (tVar 0) "trie") (tCons (tCB (rTupOf c.K) (tCons (tLc (iList c.K (tFld c.K (tVar 0) "places")) (gName 2) (tTest (tOp rLtI (tVar 2) (tCB (rLen c.K) (tCons (tVar 1) (tNil))))) (tOp (rIx c.K) (tVar 1) (tVar 2)) [2]) (tNil))) (tNil)))
theorem dv_Branch_choices {P : Program} {w : World} {mg : Str → Option Value} {base : Heap} {K : PySem.W.Frag} (T : Tx K mg) {C_Trie : Addr} {sp_Trie_children : Sp} (h_Trie_children : C8.Met P w K mg base 2 C_Trie "children" sp_Trie_children []) {f : Addr} {cdv : Value} {A : Around} {outer : List Env} {s : Shared} {H : Hp} {E : XK}
    (hr : Room 2 (A.deeper (envOfC "Branch.choices" (defScope s_Branch_choices) s.heap.objs.size f cdv))) : PSs (cxOf C8.CX0 P w K mg base N_Branch_choices "Branch.choices" (defScope s_Branch_choices) f cdv A outer s H E).nox (defBody s_Branch_choices) (t_Branch_choices (cf P w K) C_Trie sp_Trie_children) :=
  pss_one (ps_ret (C8.pe_mt h_Trie_children hr (by decide) (pe_fld (pv 0) rfl) (pa_cons (pe_callTy call_tuple_of (by rfl) T.f_tuple (by decide +kernel) (pa_cons (pe_lc (own := [("k", 2)]) rfl sc_Branch_choices.nd (pi_list (pe_fld (pv 0) rfl)) (blkOk_by (own := [("k", 2)]) (N := N_Branch_choices) (sc := (defScope s_Branch_choices)) (by decide +kernel)) (fun _ _ _ _ _ => pg_name (i := 2) sc_Branch_choices.nd rfl (by first | exact Or.inl rfl | exact Or.inr rfl)) (fun _ _ _ _ _ => pts_one (pt_cmpR op_lt (pv 2) (pe_callB call_len (by rfl) T.f_len PySem.boot_len (pa_cons (pv 1) (pa_nil))) (nomark _))) (fun _ _ _ _ _ => pe_ix ix_seq (pv 1) (pv 2) (fun _ _ => rfl))) (pa_nil))) (pa_nil))))
abbrev N_Search_init : List Str := ["self", "catalogue", "pattern", "order", "atom", "branch"]
theorem sc_Search_init : FnScope N_Search_init ["self", "catalogue", "pattern", "order"] (defScope s_Search_init) := ⟨rfl, rfl, rfl, by decide +kernel, rfl, by decide +kernel, by decide +kernel⟩
def t_Search_init (c : Cf) (C_Branch : Addr) (sp_Branch : Sp) : TS :=
  tSeq (sFld c.K (tVar 0) (tCB (rLen c.K) (tCons (tVar 3) (tNil))) "many")
  (tSeq (sFld c.K (tVar 0) (tLc (iTup c.K (tOp (rIx c.K) (tVar 2) (tC (.int 1)))) (gName 4) (tYes) (tMake C_Branch sp_Branch [] C8.E0 (tCons (tVar 1) (tCons (tVar 4) (tCons (tVar 3) (tNil))))) [4]) "branches")
  (sFld c.K (tVar 0) (tCB (rAny c.K) (tCons (tLc (iList c.K (tFld c.K (tVar 0) "branches")) (gName 5) (tYes) (tFld c.K (tVar 5) "empty") [5]) (tNil))) "dead"))
theorem dv_Search_init {P : Program} {w : World} {mg : Str → Option Value} {base : Heap} {K : PySem.W.Frag} (T : Tx K mg) {C_Branch : Addr} {sp_Branch : Sp} (h_Branch : C8.Mak P w K mg base 4 "Branch" C_Branch sp_Branch []) {f : Addr} {cdv : Value} {A : Around} {outer : List Env} {s : Shared} {H : Hp} {E : XK}
    (hr : Room 5 (A.deeper (envOfC "Search.__init__" (defScope s_Search_init) s.heap.objs.size f cdv))) : PSs (cxOf C8.CX0 P w K mg base N_Search_init "Search.__init__" (defScope s_Search_init) f cdv A outer s H E).nox (defBody s_Search_init) (t_Search_init (cf P w K) C_Branch sp_Branch) :=
  pss_cons (ps_fld (pv 0) (pe_callB call_len (by rfl) T.f_len PySem.boot_len (pa_cons (pv 3) (pa_nil))) rfl)
  (pss_cons (ps_fld (pv 0) (pe_lc (own := [("atom", 4)]) rfl sc_Search_init.nd (pi_tup (pe_ix ix_seq (pv 2) (pe_int) (fun _ _ => rfl))) (blkOk_by (own := [("atom", 4)]) (N := N_Search_init) (sc := (defScope s_Search_init)) (by decide +kernel)) (fun _ _ _ _ _ => pg_name (i := 4) sc_Search_init.nd rfl (by first | exact Or.inl rfl | exact Or.inr rfl)) (fun _ _ _ _ _ => pts_nil) (fun _ _ _ _ _ => C8.pe_mk h_Branch hr (by decide) rfl (pa_cons (pv 1) (pa_cons (pv 4) (pa_cons (pv 3) (pa_nil)))))) rfl)
  (pss_one (ps_fld (pv 0) (pe_callB (cr_any rfl) (by rfl) T.f_any (by decide +kernel) (pa_cons (pe_lc (own := [("branch", 5)]) rfl sc_Search_init.nd (pi_list (pe_fld (pv 0) rfl)) (blkOk_by (own := [("branch", 5)]) (N := N_Search_init) (sc := (defScope s_Search_init)) (by decide +kernel)) (fun _ _ _ _ _ => pg_name (i := 5) sc_Search_init.nd rfl (by first | exact Or.inl rfl | exact Or.inr rfl)) (fun _ _ _ _ _ => pts_nil) (fun _ _ _ _ _ => pe_fld (pv 5) rfl)) (pa_nil))) rfl)))
abbrev N_Search_next_ones : List Str := ["self", "prefix", "k", "branch"]
theorem sc_Search_next_ones : FnScope N_Search_next_ones ["self", "prefix"] (defScope s_Search_next_ones) := ⟨rfl, rfl, rfl, by decide +kernel, rfl, by decide +kernel, by decide +kernel⟩
def t_Search_next_ones (c : Cf) (C_Branch : Addr) (sp_Branch_choices : Sp) (R_common : List DV → (DV → Prop) → Prop) : TS :=
  tSeq (tAsg (tCB (rLen c.K) (tCons (tVar 1) (tNil))) (gName 2))
  (tRet (tCall (spR c R_common) [] C8.E0 (tCons (tLc (iList c.K (tFld c.K (tVar 0) "branches")) (gName 3) (tTest (tOp (rInX c.K) (tVar 2) (tFld c.K (tVar 3) "places"))) (tMeth C_Branch "choices" sp_Branch_choices [] C8.E0 (tVar 3) (tCons (tVar 1) (tNil))) [3]) (tNil))))
theorem dv_Search_next_ones {P : Program} {w : World} {mg : Str → Option Value} {base : Heap} {K : PySem.W.Frag} (T : Tx K mg) {C_Branch : Addr} {sp_Branch_choices : Sp} {R_common : List DV → (DV → Prop) → Prop} (h_Branch_choices : C8.Met P w K mg base 3 C_Branch "choices" sp_Branch_choices [])  (h_common : C8.Cal P w K mg base 2 "common" (spR (cf P w K) R_common) []) {f : Addr} {cdv : Value} {A : Around} {outer : List Env} {s : Shared} {H : Hp} {E : XK}
    (hr : Room 3 (A.deeper (envOfC "Search.next_ones" (defScope s_Search_next_ones) s.heap.objs.size f cdv))) : PSs (cxOf C8.CX0 P w K mg base N_Search_next_ones "Search.next_ones" (defScope s_Search_next_ones) f cdv A outer s H E).nox (defBody s_Search_next_ones) (t_Search_next_ones (cf P w K) C_Branch sp_Branch_choices R_common) :=
  pss_cons (ps_set (i := 2) sc_Search_next_ones.nd rfl (by first | exact Or.inl rfl | exact Or.inr rfl) (pe_callB call_len (by rfl) T.f_len PySem.boot_len (pa_cons (pv 1) (pa_nil))))
  (pss_one (ps_ret (C8.pe_c h_common hr (by decide) rfl (pa_cons (pe_lc (own := [("branch", 3)]) rfl sc_Search_next_ones.nd (pi_list (pe_fld (pv 0) rfl)) (blkOk_by (own := [("branch", 3)]) (N := N_Search_next_ones) (sc := (defScope s_Search_next_ones)) (by decide +kernel)) (fun _ _ _ _ _ => pg_name (i := 3) sc_Search_next_ones.nd rfl (by first | exact Or.inl rfl | exact Or.inr rfl)) (fun _ _ _ _ _ => pts_one (pt_cmpR (op_inX (room65 hr)) (pv 2) (pe_fld (pv 3) rfl) rfl)) (fun _ _ _ _ _ => C8.pe_mt h_Branch_choices hr (by decide) (pv 3) (pa_cons (pv 1) (pa_nil)))) (pa_nil)))))
abbrev N_Search_first_level : List Str := ["self"]
theorem sc_Search_first_level : FnScope N_Search_first_level ["self"] (defScope s_Search_first_level) := ⟨rfl, rfl, rfl, by decide +kernel, rfl, by decide +kernel, by decide +kernel⟩
def t_Search_first_level (c : Cf)  : TS :=
  tRet (tIf (tB (tFld c.K (tVar 0) "dead")) (tLst (tNil)) (tLst (tCons (tTup (tNil)) (tNil))))
theorem dv_Search_first_level {P : Program} {w : World} {mg : Str → Option Value} {base : Heap} {K : PySem.W.Frag} (T : Tx K mg)  {f : Addr} {cdv : Value} {A : Around} {outer : List Env} {s : Shared} {H : Hp} {E : XK}
    (hr : Room 0 (A.deeper (envOfC "Search.first_level" (defScope s_Search_first_level) s.heap.objs.size f cdv))) : PSs (cxOf C8.CX0 P w K mg base N_Search_first_level "Search.first_level" (defScope s_Search_first_level) f cdv A outer s H E).nox (defBody s_Search_first_level) (t_Search_first_level (cf P w K) ) :=
  pss_one (ps_ret (pe_ifExp (pt_val (pe_fld (pv 0) rfl)) (pe_lst (pa_nil)) (pe_lst (pa_cons (pe_tup (pa_nil)) (pa_nil)))))
abbrev N_Search_deeper : List Str := ["self", "level", "longer", "prefix", "number"]
theorem sc_Search_deeper : FnScope N_Search_deeper ["self", "level"] (defScope s_Search_deeper) := ⟨rfl, rfl, rfl, by decide +kernel, rfl, by decide +kernel, by decide +kernel⟩
def t_Search_deeper (c : Cf) (C_Search : Addr) (sp_Search_next_ones : Sp) : TS :=
  tSeq (tAsg (tLst (tNil)) (gName 2))
  (tSeq (tFor (iList c.K (tVar 1)) (gName 3) (tFor (iTup c.K (tMeth C_Search "next_ones" sp_Search_next_ones [] C8.E0 (tVar 0) (tCons (tVar 3) (tNil)))) (gName 4) (tDrop (tBM c.K "list" rAppend (tVar 2) (tCons (tOp (rCatA c.K) (tVar 3) (tTup (tCons (tVar 4) (tNil)))) (tNil))))))
  (tRet (tVar 2)))
theorem dv_Search_deeper {P : Program} {w : World} {mg : Str → Option Value} {base : Heap} {K : PySem.W.Frag} (T : Tx K mg) {C_Search : Addr} {sp_Search_next_ones : Sp} (h_Search_next_ones : C8.Met P w K mg base 4 C_Search "next_ones" sp_Search_next_ones []) {f : Addr} {cdv : Value} {A : Around} {outer : List Env} {s : Shared} {H : Hp} {E : XK}
    (hr : Room 4 (A.deeper (envOfC "Search.deeper" (defScope s_Search_deeper) s.heap.objs.size f cdv))) : PSs (cxOf C8.CX0 P w K mg base N_Search_deeper "Search.deeper" (defScope s_Search_deeper) f cdv A outer s H E).nox (defBody s_Search_deeper) (t_Search_deeper (cf P w K) C_Search sp_Search_next_ones) :=
  pss_cons (ps_set (i := 2) sc_Search_deeper.nd rfl (by first | exact Or.inl rfl | exact Or.inr rfl) (pe_lst (pa_nil)))
  (pss_cons (ps_for PassesOwn.never rfl (pi_list (pv 1)) (pg_name (i := 3) sc_Search_deeper.nd rfl (by first | exact Or.inl rfl | exact Or.inr rfl)) (pss_one (ps_for PassesOwn.never rfl (pi_tup (C8.pe_mt h_Search_next_ones hr (by decide) (pv 0) (pa_cons (pv 3) (pa_nil)))) (pg_name (i := 4) sc_Search_deeper.nd rfl (by first | exact Or.inl rfl | exact Or.inr rfl)) (pss_one (ps_expr (pe_bm PySem.F.plainAttrs_list PySem.F.slot_list_append PySem.F.type_list_append mt_append (pv 2) (pa_cons (pe_op op_catA (pv 3) (pe_tup (pa_cons (pv 4) (pa_nil)))) (pa_nil))))))))
  (pss_one (ps_ret (pv 2))))
end JQ

-- part Ra
set_option Elab.async false
set_option linter.all false
set_option maxRecDepth 100000
set_option maxHeartbeats 2000000
/-! What the defs compute (1). -/
namespace JQ
open PySem PySem.Spec PyProof.Rows L2
section
variable {c : Cf} {G : Gx} {te ta tb tl td ty tx : TE} {ρ : Rho} {P P1 P2 : DV → Prop}
theorem es_var {i : Nat} {d : PyData} (h : ρ[i]? = some (.fz (.p d))) : Es c G (tVar i) ρ d := (ev_var h).s
theorem ed_var {i : Nat} {d : PyData} (h : ρ[i]? = some (.fz (.p d))) : Ed c G (tVar i) ρ d := ev_var h
theorem lq {i n : Nat} (h : Nat.ble (i + 1) n = true) : i < n := Nat.le_of_ble_eq_true h
theorem cb_allF {α : Type} {xs : List α} {f : α → Bool} : CbD c G (rAll c.K) (.p (.list (xs.map fun x => .bool (f x)))) (· = .p (.bool (xs.all f))) := by
  have e1 : (xs.map fun x => PyData.bool (f x)) = (xs.map f).map .bool := by rw [List.map_map]; rfl
  have e2 : xs.all f = (xs.map f).all id := by rw [List.all_map]; rfl
  rw [e1, e2]; exact cb_all
theorem cb_anyF {α : Type} {xs : List α} {f : α → Bool} : CbD c G (rAny c.K) (.p (.list (xs.map fun x => .bool (f x)))) (· = .p (.bool (xs.any f))) := by
  have e1 : (xs.map fun x => PyData.bool (f x)) = (xs.map f).map .bool := by rw [List.map_map]; rfl
  have e2 : xs.any f = (xs.map f).any id := by rw [List.any_map]; rfl
  rw [e1, e2]; exact cb_any
theorem all_yes {α : Type} {xs : List α} {f : α → Bool} (h : ∀ x ∈ xs, f x = true) : xs.all f = true := List.all_eq_true.mpr h
theorem str_fine (w : Str) : fine (.str w) := enc_str.fine w
theorem int_fine (i : Int) : fine (.int i) := enc_int.fine i
end
abbrev Fin (d : PyData) : Out → Prop := fun o => o = .rt (.p d)
theorem fin_ret {c : Cf} {G : Gx} {te : TE} {ρ : Rho} {d : PyData} (h : Ed c G te ρ d) : Run c G (tRet te) ρ (Fin d) := run_ret h fun _ e => by rw [e]
/-- a good name -/
def okW (w : Str) : Prop := w ≠ "" ∧ w.length ≤ 20 ∧ (∃ a, atI w.cps.toList 0 = some a ∧ a ∈ ("abcdefghijklmnopqrstuvwxyz" : Str).cps.toList) ∧ ∀ b ∈ w.cps.toList, b ∈ ("abcdefghijklmnopqrstuvwxyz0123456789" : Str).cps.toList
theorem rn_is_name {c : Cf} {G : Gx} {w : Str} (h : okW w) : Run c G (t_is_name c) (args 2 [.p (.str w)]) (Fin (.bool true)) := by
  obtain ⟨h1, h2, ⟨a, h3, h4⟩, h5⟩ := h
  have hz : w.length ≤ sizeLine := by rw [sizeLine_eq]; omega
  have hl : w.cps.toList.length ≤ 20 := h2
  have e1 : PyData.eqv (.str w) (.str "") = false := by rw [enc_str.eqB]; exact decide_eq_false h1
  refine run_seq (run_if (b := false) ?_ (fun h => nomatch h) fun _ => run_next (fin_ret ?_))
  · refine (et_or (et_test (ed_op (es_var rfl) ed_str.s (od_eq (str_fine _) rfl)).s) fun _ => et_or (et_test (ed_op (ed_cb1 (es_var rfl) (cb_lenS hz)).s ed_int.s od_gt).s) fun _ => et_test (ed_op (ed_op (es_var rfl) ed_int.s (od_ixS hz h3)).s ed_str.s od_niS).s).is ?_
    rw [e1, decide_eq_true h4, decide_eq_false (by omega)]; rfl
  · refine Ed.is (ed_cb1 (en_lc1 (w.cps.toList) (fun a => .p (.str ⟨#[a]⟩)) (fun a => .bool (decide (a ∈ ("abcdefghijklmnopqrstuvwxyz0123456789" : Str).cps.toList))) (src_str (es_var rfl)) (by omega) fun x hx => ⟨_, _, fun _ h => h, bd_name (lq rfl), ed_op (es_var rfl) ed_str.s od_inS⟩).s cb_allF) ?_
    rw [all_yes fun x hx => decide_eq_true (h5 x hx)]
theorem run_drop {c : Cf} {G : Gx} {te : TE} {ρ : Rho} {P : DV → Prop} {Φ : Out → Prop} (h : Ev c G te ρ P) (k : Φ (.nx ρ)) : Run c G (tDrop te) ρ Φ := fun m0 H0 M H σ D E B L =>
  h m0 M H σ E _ fun v H' d f j r p => L.nx _ _ ⟨M, ρ, E.fx f j, B.fxx f, k⟩
def R_is_name : List DV → (DV → Prop) → Prop := mkR okW (fun w => [.p (.str w)]) fun _ d => d = .p (.bool true)
/-- a row of n numbers -/
def okRow (n : Nat) (r : Row) : Prop := r.length = n ∧ ∀ x ∈ r, 0 ≤ x ∧ x < 10
def R_right_row : List DV → (DV → Prop) → Prop := mkR (fun x : Nat × Row => okRow x.1 x.2 ∧ x.1 ≤ 4) (fun x => [.p (.int (x.1 : Int)), .p (dRow x.2)]) fun _ d => d = .p (.bool true)
theorem rn_right_row {c : Cf} {G : Gx} {n : Nat} {r : Row} (h : okRow n r) (h4 : n ≤ 4) : Run c G (t_right_row c) (args 3 [.p (.int (n : Int)), .p (dRow r)]) (Fin (.bool true)) := by
  obtain ⟨h1, h2⟩ := h
  refine fin_ret (Ed.is (ed_andV (ed_op (ed_cb1 (es_var rfl) cb_lenT).s (es_var rfl) (od_eq (int_fine _) rfl)).s fun _ => ed_cb1 (en_lc1 r (fun n => .p (.int n)) (fun n => .bool (decide (-999999999 ≤ n) && decide (n ≤ 999999999))) ?_ (by omega) fun x hx => ⟨_, _, fun _ h => h, bd_name (lq rfl), ed_chain (ed_neg ed_int.s).s (es_var rfl) od_le (fun _ => ed_int.s) fun _ => od_le⟩).s cb_allF) ?_)
  · have := src_tup (c := c) (G := G) (ρ := args 3 [.p (.int (n : Int)), .p (dRow r)]) (tl := tVar 1) (ds := r.map .int) (ed_var rfl)
    rw [List.map_map] at this; exact this
  · rw [enc_int.eqB, List.length_map, h1, decide_eq_true rfl, all_yes fun x hx => by
      have := h2 x hx
      rw [decide_eq_true (by omega), decide_eq_true (by omega)]; rfl]; rfl
section
variable {c : Cf} {G : Gx} {te ta tb tl td ty tx : TE} {ρ : Rho} {P P1 P2 : DV → Prop} {α : Type}
theorem src_tupE (l : List α) (e : α → PyData) (h : Ed c G tl ρ (.tuple (l.map e))) : Src c G (iTup c.K tl) ρ (l.map fun x => .p (e x)) := by
  have := src_tup h
  rw [List.map_map] at this; exact this
theorem src_listE (l : List α) (e : α → PyData) (h : Ed c G tl ρ (.list (l.map e))) : Src c G (iList c.K tl) ρ (l.map fun x => .p (e x)) := by
  have := src_list h
  rw [List.map_map] at this; exact this
theorem run_forTE {g : TG} {tb : TS} {l : List α} {e : α → PyData} {Φ : Out → Prop} (js : List Nat) (I : Nat → Rho → Prop) (h : Ed c G tl ρ (.tuple (l.map e))) (h0 : I 0 ρ)
    (hs : ∀ i x ρ', l[i]? = some x → I i ρ' → ∃ ks ρ1, Bd c G ks g (.p (e x)) ρ' ρ1 ∧ Run c G tb ρ1 (turnR js (I (i + 1)) Φ)) (hd : ∀ ρ', I l.length ρ' → Φ (.nx ρ')) : Run c G (tFor (iTup c.K tl) g tb) ρ Φ :=
  run_forT js I h h0 (fun i d ρ' hi p => by
    rw [List.getElem?_map] at hi
    cases hx : l[i]? with
    | none => rw [hx] at hi; cases hi
    | some x => rw [hx] at hi; cases hi; exact hs i x ρ' hx p) fun ρ' p => hd ρ' (by rw [List.length_map] at p; exact p)
theorem run_forLE {g : TG} {tb : TS} {l : List α} {e : α → PyData} {Φ : Out → Prop} (js : List Nat) (I : Nat → Rho → Prop) (h : Ed c G tl ρ (.list (l.map e))) (h0 : I 0 ρ)
    (hs : ∀ i x ρ', l[i]? = some x → I i ρ' → ∃ ks ρ1, Bd c G ks g (.p (e x)) ρ' ρ1 ∧ Run c G tb ρ1 (turnR js (I (i + 1)) Φ)) (hd : ∀ ρ', I l.length ρ' → Φ (.nx ρ')) : Run c G (tFor (iList c.K tl) g tb) ρ Φ :=
  run_forL js I h h0 (fun i d ρ' hi p => by
    rw [List.getElem?_map] at hi
    cases hx : l[i]? with
    | none => rw [hx] at hi; cases hi
    | some x => rw [hx] at hi; cases hi; exact hs i x ρ' hx p) fun ρ' p => hd ρ' (by rw [List.length_map] at p; exact p)
theorem atE {l : List α} {e : α → PyData} {i : Nat} {x : α} (h : l[i]? = some x) : atI (l.map e) (i : Int) = some (e x) := at_nat (by rw [List.getElem?_map, h]; rfl)
theorem cb_lenTE {l : List α} {e : α → PyData} : CbD c G (rLen c.K) (.p (.tuple (l.map e))) (· = .p (.int (l.length : Int))) := by
  have := cb_lenT (c := c) (G := G) (ds := l.map e)
  rw [List.length_map] at this; exact this
theorem cb_lenLE {l : List α} {e : α → PyData} : CbD c G (rLen c.K) (.p (.list (l.map e))) (· = .p (.int (l.length : Int))) := by
  have := cb_lenL (c := c) (G := G) (ds := l.map e)
  rw [List.length_map] at this; exact this
end
/-! ### ascend -/
def ascB (l : List PyData) : Bool := (List.range (l.length - 1)).all fun i => PySem.W.dataLt (l.getD i .none) (l.getD (i + 1) .none)
structure okAsc (l : List PyData) : Prop where
  al : PySem.W.AllAlike l
  ok : ∀ d ∈ l, d ≠ .none ∧ d.depth ≤ 60
  few : l.length < 1000000
def dSeq (b : Bool) (l : List PyData) : PyData := cond b (.list l) (.tuple l)
def R_ascend : List DV → (DV → Prop) → Prop := mkR (fun x : Bool × List PyData => okAsc x.2) (fun x => [.p (dSeq x.1 x.2)]) fun x d => d = .p (.bool (ascB x.2))
theorem getD_at {l : List PyData} {i : Nat} (h : i < l.length) : l[i]? = some (l.getD i .none) := by
  rw [List.getD_eq_getElem?_getD, List.getElem?_eq_getElem h]; rfl
theorem rn_ascend {c : Cf} {G : Gx} {b : Bool} {l : List PyData} (h : okAsc l) : Run c G (t_ascend c) (args 2 [.p (dSeq b l)]) (Fin (.bool (ascB l))) := by
  have hix : ∀ (i : Nat) d, l[i]? = some d → OpD c G (rIx c.K) (.p (dSeq b l)) (.p (.int (i : Int))) (· = .p d) := fun i d e => by
    cases b with
    | true => exact od_ixL (at_nat e)
    | false => exact od_ixT (at_nat e)
  have hlen : CbD c G (rLen c.K) (.p (dSeq b l)) (· = .p (.int (l.length : Int))) := by
    cases b with
    | true => exact cb_lenL
    | false => exact cb_lenT
  have z := h.few
  refine fin_ret (Ed.is (ed_cb1 (en_lc1 (List.range (l.length - 1)) (fun i => .p (.int ((1 + i : Nat) : Int))) (fun i => .bool (PySem.W.dataLt (l.getD i .none) (l.getD (i + 1) .none))) (src_range2 (lo := 1) ed_int.s (ed_cb1 (es_var rfl) hlen).s (by omega) (by omega)) (by rw [List.length_range]; omega) fun i hi => ?_).s cb_allF) ?_)
  · have hi := List.mem_range.mp hi
    have m1 : l.getD i .none ∈ l := List.mem_of_getElem? (getD_at (by omega))
    have m2 : l.getD (i + 1) .none ∈ l := List.mem_of_getElem? (getD_at (by omega))
    refine ⟨_, _, fun _ h => h, bd_name (lq rfl), ed_op (ed_op (y := .p (.int (i : Int))) (es_var rfl) (Ed.is (ed_op (es_var rfl) ed_int.s od_sub) ?_).s (hix i _ (getD_at (by omega)))).s (ed_op (y := .p (.int ((i + 1 : Nat) : Int))) (es_var rfl) (Ed.is (ed_var rfl) ?_).s (hix (i + 1) _ (getD_at (by omega)))).s (od_ltD (h.al _ m1 _ m2) (h.ok _ m1).1 (h.ok _ m1).2)⟩
    · exact congrArg PyData.int (by omega)
    · exact congrArg PyData.int (by omega)
  · rfl
theorem asc_chain {α : Type} {e : α → PyData} : ∀ {l : List α}, (∀ i x y, l[i]? = some x → l[i + 1]? = some y → ltE e x y) → Asc e l
  | [], _ => .nil
  | [a], _ => List.pairwise_singleton ..
  | a :: b :: l, h => by
    have ih : Asc e (b :: l) := asc_chain fun i x y hx hy => h (i + 1) x y hx hy
    refine .cons (fun z hz => ?_) ih
    have ab : ltE e a b := h 0 a b rfl rfl
    rcases List.mem_cons.mp hz with rfl | hz
    · exact ab
    · exact lt_tr ab (List.rel_of_pairwise_cons ih hz)
theorem asc_iff {α : Type} {e : α → PyData} {l : List α} : ascB (l.map e) = true ↔ Asc e l := by
  unfold ascB
  rw [List.all_eq_true]
  constructor
  · intro h
    refine asc_chain fun i x y hx hy => ?_
    have h1 : i + 1 < l.length := (List.getElem?_eq_some_iff.mp hy).1
    have := h i (List.mem_range.mpr (by rw [List.length_map]; omega))
    rw [List.getD_eq_getElem?_getD, List.getD_eq_getElem?_getD, List.getElem?_map, List.getElem?_map, hx, hy] at this
    exact this
  · intro h i hi
    have hi := List.mem_range.mp hi
    rw [List.length_map] at hi
    have h1 : i < l.length := by omega
    have h2 : i + 1 < l.length := by omega
    rw [List.getD_eq_getElem?_getD, List.getD_eq_getElem?_getD, List.getElem?_map, List.getElem?_map, List.getElem?_eq_getElem h1, List.getElem?_eq_getElem h2]
    exact List.pairwise_iff_getElem.mp h i (i + 1) h1 h2 (Nat.lt_succ_self i)
theorem Enc.asc {α : Type} {e : α → PyData} (h : Enc e) {l : List α} (hl : l.length < 1000000) : okAsc (l.map e) := ⟨h.alls l, fun d hd => by
  obtain ⟨a, _, rfl⟩ := List.mem_map.mp hd
  exact ⟨h.nn a, Nat.le_trans (h.dp a) (by decide)⟩, by rw [List.length_map]; exact hl⟩
/-! ### tables -/
structure GTab (t : Tab) : Prop where
  nm : okW t.1
  c1 : 1 ≤ t.2.1
  c4 : t.2.1 ≤ 4
  rows : ∀ r ∈ t.2.2, okRow t.2.1 r
  asc : Asc dRow t.2.2
  few : t.2.2.length ≤ 5
structure GCat (c : Cat) : Prop where
  tabs : ∀ t ∈ c, GTab t
  asc : (c.map (·.1)).Pairwise (ltE PyData.str)
  few : c.length ≤ 3
def R_right_table : List DV → (DV → Prop) → Prop := mkR GTab (fun t => [.p (dTab t)]) fun _ d => d = .p (.bool true)
theorem rn_right_table {c : Cf} {G : Gx} {t : Tab} (h : GTab t) : Run c G (t_right_table c R_is_name R_right_row R_ascend) (args 5 [.p (dTab t)]) (Fin (.bool true)) := by
  obtain ⟨n, k, rs⟩ := t
  obtain ⟨h1, h2, h3, h4, h5, h6⟩ := h
  have h2 : 1 ≤ k := h2
  have h3 : k ≤ 4 := h3
  have h6 : rs.length ≤ 5 := h6
  refine run_seq (run_bind (ed_var rfl) (bd_tup (bda_cons (bd_name (lq rfl)) (bda_cons (bd_name (lq rfl)) (bda_cons (bd_name (lq rfl)) bda_nil))) rfl) ?_)
  refine run_seq (run_if (b := false) (Et.is (et_or (et_not (et_B (ed_call (ea_cons (ed_var rfl) ea_nil) ⟨n, h1, rfl, fun _ e => e⟩).s)) fun _ => et_or (et_test (ed_op (es_var rfl) ed_int.s od_lt).s) fun _ => et_test (ed_op (es_var rfl) ed_int.s od_gt).s) ?_) (fun h => nomatch h) fun _ => run_next ?_)
  · rw [decide_eq_false (by omega), decide_eq_false (by omega)]; rfl
  · refine fin_ret (Ed.is (ed_andV (ed_cb1 (en_lc1 rs (fun r => .p (dRow r)) (fun _ => .bool true) (src_tupE rs dRow (ed_var rfl)) (by omega) fun r hr => ⟨_, _, fun _ h => h, bd_name (lq rfl), ed_call (ea_cons (ed_var rfl) (ea_cons (ed_var rfl) ea_nil)) ⟨(k, r), ⟨h4 r hr, h3⟩, rfl, fun _ e => e⟩⟩).s (cb_allF (f := fun _ => true))).s fun _ => ed_call (ea_cons (ed_var rfl) ea_nil) ⟨(false, rs.map dRow), enc_row.asc (by omega), rfl, fun _ e => e⟩) ?_)
    rw [asc_iff.mpr h5, all_yes fun _ _ => rfl]; rfl
end JQ

-- part Rb
set_option Elab.async false
set_option linter.all false
set_option maxRecDepth 100000
set_option maxHeartbeats 2000000
/-! What the defs compute (2): catalogues. -/
namespace JQ
open PySem PySem.Spec PyProof.Rows L2
theorem sl3 {n : Nat} (h : n ≤ 100) : n ≤ sizeLine := by rw [sizeLine_eq]; omega
theorem names_ne {c : Cat} (h : GCat c) {i j : Nat} {t u : Tab} (hi : c[i]? = some t) (hj : c[j]? = some u) (hij : i < j) : ltE PyData.str t.1 u.1 := by
  have z := h.asc
  have a := List.pairwise_iff_getElem.mp z i j (by rw [List.length_map]; exact (List.getElem?_eq_some_iff.mp hi).1) (by rw [List.length_map]; exact (List.getElem?_eq_some_iff.mp hj).1) hij
  rw [List.getElem_map, List.getElem_map, (List.getElem?_eq_some_iff.mp hi).2, (List.getElem?_eq_some_iff.mp hj).2] at a
  exact a
theorem name_one {c : Cat} (h : GCat c) {t u : Tab} (ht : t ∈ c) (hu : u ∈ c) (e : t.1 = u.1) : t = u := by
  obtain ⟨i, hi⟩ := List.getElem?_of_mem ht
  obtain ⟨j, hj⟩ := List.getElem?_of_mem hu
  rcases Nat.lt_trichotomy i j with x | x | x
  · have := names_ne h hi hj x; rw [e] at this; exact absurd this (lt_irr _)
  · subst x; rw [hi] at hj; exact Option.some.inj hj
  · have := names_ne h hj hi x; rw [e] at this; exact absurd this (lt_irr _)
def R_check_catalogue : List DV → (DV → Prop) → Prop := mkR GCat (fun c => [.p (dCat c)]) fun _ d => d = .p .none
theorem rn_check_catalogue {c : Cf} {G : Gx} {C : Cat} (h : GCat C) : Run c G (t_check_catalogue c R_right_table R_ascend) (args 2 [.p (dCat C)]) (fun o => ∃ ρ, o = .nx ρ) := by
  have hf := h.few
  refine run_seq (run_if (b := false) (Et.is (et_or (et_not (et_B (ed_cb1 (en_lc1 C (fun t => .p (dTab t)) (fun _ => .bool true) (src_tupE C dTab (ed_var rfl)) (by omega) fun t ht => ⟨_, _, fun _ h => h, bd_name (lq rfl), ed_call (ea_cons (ed_var rfl) ea_nil) ⟨t, h.tabs t ht, rfl, fun _ e => e⟩⟩).s (cb_allF (f := fun _ => true))).s)) fun _ => et_not (et_B (ed_call (d := .bool (ascB ((C.map (·.1)).map .str))) (ea_cons (Ed.is (En.is (en_lc1 C (fun t => .p (dTab t)) (fun t => .str t.1) (src_tupE C dTab (ed_var rfl)) (by omega) fun t ht => ⟨_, _, fun _ h => h, bd_name (lq rfl), ed_op (es_var rfl) ed_int.s (od_ixT rfl)⟩) ?_).e rfl) ea_nil) ⟨(true, (C.map (·.1)).map .str), enc_str.asc (by rw [List.length_map]; omega), rfl, fun _ e => e⟩).s)) ?_) (fun h => nomatch h) fun _ => run_next ?_)
  · rw [List.map_map]; rfl
  · rw [asc_iff.mpr h.asc, all_yes fun _ _ => rfl]; rfl
  · refine run_if (b := false) (Et.is (et_or (et_test (ed_op (ed_cb1 (es_var rfl) cb_lenTE).s ed_int.s od_gt).s) fun _ => et_B (ed_cb1 (en_lc1 C (fun t => .p (dTab t)) (fun t => .bool (decide ((300 : Int) < t.2.2.length))) (src_tupE C dTab (ed_var rfl)) (by omega) fun t ht => ⟨_, _, fun _ h => h, bd_name (lq rfl), ed_op (ed_cb1 (ed_op (es_var rfl) ed_int.s (od_ixT rfl)).s cb_lenTE).s ed_int.s od_gt⟩).s cb_anyF).s) ?_) (fun h => nomatch h) fun _ => run_next ⟨_, rfl⟩
    have e1 : C.any (fun t => decide ((300 : Int) < t.2.2.length)) = false := Bool.eq_false_iff.mpr fun z => by
      obtain ⟨t, ht, z⟩ := List.any_eq_true.mp z
      have z := of_decide_eq_true z
      have := (h.tabs t ht).few
      omega
    rw [e1, decide_eq_false (by omega)]; rfl
/-- t stands at k -/
def okAt (C : Cat) (k : Nat) (t : Tab) : Prop := GCat C ∧ C[k]? = some t
theorem okAt.lt {C : Cat} {k : Nat} {t : Tab} (h : okAt C k t) : k < C.length := (List.getElem?_eq_some_iff.mp h.2).1
theorem okAt.ne {C : Cat} {k i : Nat} {t u : Tab} (h : okAt C k t) (hi : C[i]? = some u) (lt : i < k) : u.1 ≠ t.1 := fun e => by
  have := names_ne h.1 hi h.2 lt
  rw [e] at this
  exact lt_irr _ this
theorem okAt.of {C : Cat} {t : Tab} (h : GCat C) (ht : t ∈ C) : ∃ k, okAt C k t := by
  obtain ⟨k, hk⟩ := List.getElem?_of_mem ht
  exact ⟨k, h, hk⟩
def R_place_of : List DV → (DV → Prop) → Prop := mkR (fun x : Cat × Nat × Tab => okAt x.1 x.2.1 x.2.2) (fun x => [.p (dCat x.1), .p (.str x.2.2.1)]) fun x d => d = .p (.int (x.2.1 : Int))
theorem rn_place_of {c : Cf} {G : Gx} {C : Cat} {k : Nat} {t : Tab} (h : okAt C k t) : Run c G (t_place_of c) (args 3 [.p (dCat C), .p (.str t.1)]) (Fin (.int (k : Int))) := by
  have hk := h.lt
  have hf := h.1.few
  refine run_seq (run_forR (n := C.length) [2] (fun i ρ' => i ≤ k ∧ ρ' = args 3 [.p (dCat C), .p (.str t.1)]) (ed_cb1 (es_var rfl) cb_lenTE).s (by omega) ⟨Nat.zero_le _, rfl⟩ (fun i ρ' hi ⟨hik, e⟩ => ?_) fun ρ' ⟨hik, e⟩ => absurd hik (by omega))
  subst e
  have hu := List.getElem?_eq_getElem hi
  generalize C[i] = u at hu
  refine ⟨_, _, bd_name (lq rfl), run_if (b := decide (u.1 = t.1)) (Et.is (et_test (ed_op (ed_op (ed_op (es_var rfl) (es_var rfl) (od_ixT (atE hu))).s ed_int.s (od_ixT rfl)).s (es_var rfl) (od_eq (str_fine _) rfl)).s) (enc_str.eqB _ _)) (fun e => ?_) fun e => run_next ?_⟩
  · have e := of_decide_eq_true e
    have : i = k := by
      rcases Nat.lt_or_ge i k with x | x
      · exact absurd e (h.ne hu x)
      · omega
    subst this
    exact run_retD (ed_var rfl) rfl
  · have e := of_decide_eq_false e
    refine ⟨?_, rfl⟩
    rcases Nat.lt_or_ge i k with x | x
    · exact x
    · have : i = k := by omega
      subst this
      have := h.2
      rw [hu] at this
      cases this
      exact absurd rfl e
def R_table_at : List DV → (DV → Prop) → Prop := mkR (fun x : Cat × Tab => GCat x.1 ∧ x.2 ∈ x.1) (fun x => [.p (dCat x.1), .p (.str x.2.1)]) fun x d => d = .p (dTab x.2)
theorem rn_table_at {c : Cf} {G : Gx} {C : Cat} {t : Tab} (h : GCat C) (ht : t ∈ C) : Run c G (t_table_at c R_place_of) (args 3 [.p (dCat C), .p (.str t.1)]) (Fin (dTab t)) := by
  obtain ⟨k, hk⟩ := okAt.of h ht
  refine run_seq (run_set (ed_call (ea_cons (ed_var rfl) (ea_cons (ed_var rfl) ea_nil)) ⟨(C, k, t), hk, rfl, fun _ e => e⟩) (lq rfl) ?_)
  refine run_seq (run_if (b := false) (Et.is (et_test (ed_op (es_var rfl) ed_int.s od_lt).s) (decide_eq_false (by omega))) (fun h => nomatch h) fun _ => run_next ?_)
  exact fin_ret (ed_op (es_var rfl) (es_var rfl) (od_ixT (atE hk.2)))
/-- the table of n has the rows rs -/
def setRows (C : Cat) (n : Str) (rs : List Row) : Cat := C.map fun u => if u.1 = n then (u.1, u.2.1, rs) else u
theorem set_rows {C : Cat} {k : Nat} {t : Tab} (h : okAt C k t) (rs : List Row) : C.take k ++ [(t.1, t.2.1, rs)] ++ C.drop (k + 1) = setRows C t.1 rs := by
  have e1 : C.take k ++ [(t.1, t.2.1, rs)] ++ C.drop (k + 1) = C.set k (t.1, t.2.1, rs) := by
    rw [List.set_eq_take_append_cons_drop, if_pos h.lt, List.append_assoc]; rfl
  rw [e1]
  refine List.ext_getElem? fun i => ?_
  unfold setRows
  rw [List.getElem?_map]
  by_cases e : i = k
  · subst e
    rw [List.getElem?_set_self h.lt, h.2]
    simp
  · rw [List.getElem?_set_ne (Ne.symm e)]
    cases hu : C[i]? with
    | none => rfl
    | some u =>
      have : u.1 ≠ t.1 := by
        rcases Nat.lt_or_gt_of_ne e with x | x
        · exact h.ne hu x
        · intro z
          have := names_ne h.1 h.2 hu x
          rw [z] at this
          exact lt_irr _ this
      show _ = some (if u.1 = t.1 then _ else u)
      rw [if_neg this]
def R_with_rows : List DV → (DV → Prop) → Prop := mkR (fun x : Cat × Tab × List Row => GCat x.1 ∧ x.2.1 ∈ x.1) (fun x => [.p (dCat x.1), .p (.str x.2.1.1), .p (dRows x.2.2)]) fun x d => d = .p (dCat (setRows x.1 x.2.1.1 x.2.2))
theorem rn_with_rows {c : Cf} {G : Gx} {C : Cat} {t : Tab} {rs : List Row} (h : GCat C) (ht : t ∈ C) : Run c G (t_with_rows c R_place_of) (args 4 [.p (dCat C), .p (.str t.1), .p (dRows rs)]) (Fin (dCat (setRows C t.1 rs))) := by
  obtain ⟨k, hk⟩ := okAt.of h ht
  have hf := h.few
  have hl := hk.lt
  refine run_seq (run_set (ed_call (ea_cons (ed_var rfl) (ea_cons (ed_var rfl) ea_nil)) ⟨(C, k, t), hk, rfl, fun _ e => e⟩) (lq rfl) ?_)
  have e2 : ((k : Int) + 1) = ((k + 1 : Nat) : Int) := by omega
  refine fin_ret (Ed.is (ed_op (ed_op (ed_slT (es_var rfl) eo_none (eo_some (es_var rfl))).s (ed_tup (ea_cons (ed_tup (ea_cons (ed_var rfl) (ea_cons (ed_op (ed_op (es_var rfl) (es_var rfl) (od_ixT (atE hk.2))).s ed_int.s (od_ixT rfl)) (ea_cons (ed_var rfl) ea_nil)))) ea_nil)).s (od_catT ?_)).s (ed_slT (es_var rfl) (eo_some (Ed.is (ed_op (es_var rfl) ed_int.s od_add) (congrArg PyData.int e2)).s) eo_none).s (od_catT ?_)) ?_)
  · rw [cut_to, List.length_take, List.length_map]; exact sl3 (by show min k C.length + 1 ≤ 100; omega)
  · rw [cut_to, cut_from, List.length_append, List.length_take, List.length_drop, List.length_map]; exact sl3 (by show min k C.length + 1 + _ ≤ 100; omega)
  · rw [cut_to, cut_from, ← set_rows hk rs]
    unfold dCat
    rw [List.map_append, List.map_append, List.map_take, List.map_drop]; rfl
/-- the fact is gone -/
def minus (C : Cat) (f : Fact) : Cat := C.map fun u => if u.1 = f.1 then (u.1, u.2.1, u.2.2.filter fun r => decide (r ≠ f.2)) else u
theorem minus_rows {C : Cat} (h : GCat C) {t : Tab} (ht : t ∈ C) (r : Row) : setRows C t.1 (t.2.2.filter fun x => decide (x ≠ r)) = minus C (t.1, r) := by
  unfold setRows minus
  refine List.map_congr_left fun u hu => ?_
  by_cases e : u.1 = t.1
  · rw [if_pos e, if_pos e, name_one h hu ht e]
  · rw [if_neg e, if_neg e]
theorem minus_good {C : Cat} (h : GCat C) (f : Fact) : GCat (minus C f) where
  tabs := fun t ht => by
    obtain ⟨u, hu, rfl⟩ := List.mem_map.mp ht
    have g := h.tabs u hu
    by_cases e : u.1 = f.1
    · simp only [if_pos e]
      exact ⟨g.nm, g.c1, g.c4, fun r hr => g.rows r (List.mem_filter.mp hr).1, g.asc.sublist (List.filter_sublist), Nat.le_trans (List.length_filter_le ..) g.few⟩
    · simp only [if_neg e]; exact g
  asc := by
    have e : (minus C f).map (·.1) = C.map (·.1) := by
      unfold minus
      rw [List.map_map]
      refine List.map_congr_left fun u _ => ?_
      show (if u.1 = f.1 then _ else u).1 = u.1
      split <;> rfl
    rw [e]; exact h.asc
  few := by unfold minus; rw [List.length_map]; exact h.few
/-- a fact of the catalogue -/
def inCat (C : Cat) (f : Fact) : Prop := ∃ t ∈ C, t.1 = f.1 ∧ f.2 ∈ t.2.2
def R_without_row : List DV → (DV → Prop) → Prop := mkR (fun x : Cat × Fact => GCat x.1 ∧ inCat x.1 x.2) (fun x => [.p (dCat x.1), .p (.str x.2.1), .p (dRow x.2.2)]) fun x d => d = .p (dCat (minus x.1 x.2))
theorem rn_without_row {c : Cf} {G : Gx} {C : Cat} {f : Fact} (h : GCat C) (hf : inCat C f) : Run c G (t_without_row c R_check_catalogue R_table_at R_with_rows) (args 5 [.p (dCat C), .p (.str f.1), .p (dRow f.2)]) (Fin (dCat (minus C f))) := by
  obtain ⟨n, r⟩ := f
  obtain ⟨t, ht, e, hr⟩ := hf
  have e : t.1 = n := e
  subst e
  have hr : r ∈ t.2.2 := hr
  have hfew := (h.tabs t ht).few
  refine run_seq (run_drop (ed_call (d := .none) (ea_cons (ed_var rfl) ea_nil) ⟨C, h, rfl, fun _ e => e⟩) ?_)
  refine run_seq (run_set (ed_op (ed_call (d := dTab t) (ea_cons (ed_var rfl) (ea_cons (ed_var rfl) ea_nil)) ⟨(C, t), ⟨h, ht⟩, rfl, fun _ e => e⟩).s ed_int.s (od_ixT rfl)) (lq rfl) ?_)
  refine run_seq (run_if (b := false) (Et.is (et_test (ed_op (es_var rfl) (es_var rfl) (od_niT (ds := t.2.2.map dRow) (enc_row.fine _) (enc_row.pls _))).s) ?_) (fun h => nomatch h) fun _ => run_next ?_)
  · rw [enc_row.any]; simp [hr]
  · refine fin_ret (Ed.is (ed_call (d := dCat (setRows C t.1 (t.2.2.filter fun x => decide (x ≠ r)))) (ea_cons (ed_var rfl) (ea_cons (ed_var rfl) (ea_cons (Ed.is (ed_cb1 (en_lc t.2.2 (fun x => .p (dRow x)) (fun x => decide (x ≠ r)) dRow (src_tupE t.2.2 dRow (ed_var rfl)) (by omega) fun x hx => ⟨_, _, fun _ h => h, bd_name (lq rfl), Et.is (et_test (ed_op (es_var rfl) (es_var rfl) (od_ne (enc_row.fine _) (enc_row.pl _))).s) ?_, fun _ => ed_var rfl⟩).s cb_tupL) rfl) ea_nil))) ⟨(C, t, t.2.2.filter fun x => decide (x ≠ r)), ⟨h, ht⟩, rfl, fun _ e => e⟩) ?_)
    · rw [enc_row.eqB]; simp
    · rw [minus_rows h ht]
end JQ

-- part Rc
set_option Elab.async false
set_option linter.all false
set_option maxRecDepth 100000
set_option maxHeartbeats 2000000
/-! What the defs compute (3): patterns. -/
namespace JQ
open PySem PySem.Spec PyProof.Rows L2
def add1 {α : Type} [DecidableEq α] (acc : List α) (v : α) : List α := if v ∈ acc then acc else acc ++ [v]
def dd {α : Type} [DecidableEq α] (acc vs : List α) : List α := vs.foldl add1 acc
theorem mem_add1 {α : Type} [DecidableEq α] {acc : List α} {v x : α} : x ∈ add1 acc v ↔ x ∈ acc ∨ x = v := by
  unfold add1; split
  · rename_i h; exact ⟨.inl, fun z => z.elim id fun e => e ▸ h⟩
  · simp
theorem nd_add1 {α : Type} [DecidableEq α] {acc : List α} {v : α} (h : acc.Nodup) : (add1 acc v).Nodup := by
  unfold add1; split
  · exact h
  · rename_i hn
    refine List.nodup_append.mpr ⟨h, List.pairwise_singleton .., fun a ha b hb => ?_⟩
    rw [List.mem_singleton.mp hb]; exact fun e => hn (e ▸ ha)
theorem len_add1 {α : Type} [DecidableEq α] {acc : List α} {v : α} : (add1 acc v).length ≤ acc.length + 1 := by
  unfold add1; split
  · omega
  · rw [List.length_append]; exact Nat.le_refl _
theorem mem_dd {α : Type} [DecidableEq α] {x : α} : ∀ {vs acc : List α}, x ∈ dd acc vs ↔ x ∈ acc ∨ x ∈ vs
  | [], acc => by simp [dd]
  | v :: vs, acc => by
    show x ∈ dd (add1 acc v) vs ↔ _
    rw [mem_dd, mem_add1, List.mem_cons, or_assoc]
theorem nd_dd {α : Type} [DecidableEq α] : ∀ {vs acc : List α}, acc.Nodup → (dd acc vs).Nodup
  | [], _, h => h
  | v :: vs, acc, h => by
    show (dd (add1 acc v) vs).Nodup
    exact nd_dd (nd_add1 h)
theorem len_dd {α : Type} [DecidableEq α] : ∀ {vs acc : List α}, (dd acc vs).length ≤ acc.length + vs.length
  | [], _ => Nat.le_refl _
  | v :: vs, acc => by
    have h1 := len_dd (vs := vs) (acc := add1 acc v)
    have h2 := len_add1 (acc := acc) (v := v)
    show (dd (add1 acc v) vs).length ≤ acc.length + (vs.length + 1)
    omega
theorem dd_snoc {α : Type} [DecidableEq α] (acc vs : List α) (v : α) : dd acc (vs ++ [v]) = add1 (dd acc vs) v := by
  unfold dd; rw [List.foldl_append]; rfl
theorem dd_app {α : Type} [DecidableEq α] (acc vs ws : List α) : dd acc (vs ++ ws) = dd (dd acc vs) ws := by
  unfold dd; rw [List.foldl_append]
theorem take_snoc {α : Type} {l : List α} {i : Nat} {x : α} (h : l[i]? = some x) : l.take (i + 1) = l.take i ++ [x] := by
  rw [List.take_succ, h]; rfl
/-- the variables, in order -/
def varsOf (p : Pat) : List Str := dd [] (p.2.flatMap (·.2))
structure GAtoms (C : Cat) (as : List Atom) : Prop where
  tab : ∀ a ∈ as, ∃ t ∈ C, t.1 = a.1 ∧ t.2.1 = a.2.length
  vs : ∀ a ∈ as, ∀ v ∈ a.2, okW v
  ne : as ≠ []
  few : as.length ≤ 3
structure GPat (C : Cat) (p : Pat) : Prop where
  at_ : GAtoms C p.2
  few : (varsOf p).length ≤ 3
  hd : p.1.Nodup
  sub : ∀ v ∈ p.1, v ∈ varsOf p
theorem GPat.hfew {C : Cat} {p : Pat} (h : GPat C p) : p.1.length ≤ 3 := Nat.le_trans (h.hd.length_le_of_subset h.sub) h.few
theorem GAtoms.okA {C : Cat} {as : List Atom} (g : GCat C) (h : GAtoms C as) {a : Atom} (ha : a ∈ as) : okW a.1 ∧ 1 ≤ a.2.length ∧ a.2.length ≤ 4 := by
  obtain ⟨t, ht, e1, e2⟩ := h.tab a ha
  have q := g.tabs t ht
  exact ⟨e1 ▸ q.nm, e2 ▸ q.c1, e2 ▸ q.c4⟩
/-- all that is asked -/
def Good (x : Cat × Pat) : Prop := GCat x.1 ∧ GPat x.1 x.2
theorem Good.all {x : Cat × Pat} (h : Good x) : (x.2.2.flatMap (·.2)).length ≤ 12 := by
  have key : ∀ as : List Atom, (∀ a ∈ as, a.2.length ≤ 4) → (as.flatMap (·.2)).length ≤ 4 * as.length := by
    intro as
    induction as with
    | nil => intro _; exact Nat.le_refl _
    | cons a as ih =>
      intro hh
      have h1 := ih fun b hb => hh b (List.mem_cons_of_mem _ hb)
      have h2 := hh a (List.mem_cons_self ..)
      rw [List.flatMap_cons, List.length_append, List.length_cons]; omega
  have := key x.2.2 fun a ha => (h.2.at_.okA h.1 ha).2.2
  have := h.2.at_.few
  omega
/-! ### all_variables -/
theorem nx_eq {c : Cf} {G : Gx} {t : TS} {ρ ρ' : Rho} {Φ : Out → Prop} (e : ρ = ρ') (h : Run c G t ρ' Φ) : Run c G t ρ Φ := e ▸ h
def R_all_variables : List DV → (DV → Prop) → Prop := mkR Good (fun x => [.p (dPat x.2)]) fun x d => d = .tN (varsOf x.2)
theorem rn_all_variables {c : Cf} {G : Gx} {C : Cat} {p : Pat} (h : Good (C, p)) : Run c G (t_all_variables c) (args 5 [.p (dPat p)]) (fun o => o = .rt (.tN (varsOf p))) := by
  have hall := h.all
  have hf := h.2.at_.few
  let S : List Str → Rho := fun l => [.fz (.p (dPat p)), .ow (.p (.list (l.map .str))), .no, .no, .no]
  refine run_seq (run_own (en_lst ea_nil) (lq rfl) ?_)
  refine run_seq (run_forTE (l := p.2) (e := dAtom) [2, 3, 4] (fun i ρ' => ρ' = S (dd [] ((p.2.take i).flatMap (·.2)))) (ed_op (es_var rfl) ed_int.s (od_ixT rfl)) rfl (fun i a ρ' hi e => ?_) fun ρ' e => ?_)
  · subst e
    obtain ⟨n, vs⟩ := a
    let acc := dd [] ((p.2.take i).flatMap (·.2))
    have e2 : dd [] ((p.2.take (i + 1)).flatMap (·.2)) = dd acc vs := by
      rw [take_snoc hi, List.flatMap_append, dd_app]; simp [acc]
    have hl : acc.length + vs.length ≤ 12 := by
      have a1 := len_dd (acc := ([] : List Str)) (vs := (p.2.take i).flatMap (·.2))
      have a2 : (p.2.take (i + 1)).flatMap (·.2) <+: p.2.flatMap (·.2) := ⟨(p.2.drop (i + 1)).flatMap (·.2), by rw [← List.flatMap_append, List.take_append_drop]⟩
      have a3 := a2.length_le
      rw [take_snoc hi, List.flatMap_append, List.length_append] at a3
      simp only [List.flatMap_cons, List.flatMap_nil, List.append_nil] at a3
      simp only [List.length_nil] at a1
      show (dd [] ((p.2.take i).flatMap (·.2))).length + _ ≤ 12
      have : (p.2.flatMap (·.2)).length ≤ 12 := hall
      omega
    refine ⟨_, _, bd_tup (bda_cons (bd_name (lq rfl)) (bda_cons (bd_name (lq rfl)) bda_nil)) rfl, ?_⟩
    refine run_forTE (l := vs) (e := .str) [4] (fun j ρ' => ρ' = [.fz (.p (dPat p)), .ow (.p (.list ((dd acc (vs.take j)).map .str))), .fz (.p (.str n)), .fz (.p (dVars vs)), .no]) (ed_var rfl) rfl (fun j v ρ' hj e => ?_) fun ρ' e => ?_
    · subst e
      have ej : dd acc (vs.take (j + 1)) = add1 (dd acc (vs.take j)) v := by rw [take_snoc hj, dd_snoc]
      have hj2 : (dd acc (vs.take j)).length ≤ 12 := by
        have := len_dd (acc := acc) (vs := vs.take j)
        rw [List.length_take] at this; omega
      refine ⟨_, _, bd_name (lq rfl), run_if (b := !decide (v ∈ dd acc (vs.take j))) (Et.is (et_test (ed_op (es_var rfl) (evs_own rfl) (od_niL (str_fine _) (enc_str.pls _))).s) (by rw [enc_str.any])) (fun hb => ?_) fun hb => run_next ?_⟩
      · have hb : v ∉ dd acc (vs.take j) := by simpa using hb
        refine run_app rfl (ed_var rfl) (by rw [List.length_map, sizeLine_eq]; omega) ?_
        show _ = _
        rw [ej]
        unfold add1
        rw [if_neg hb, List.map_append]; rfl
      · have hb : v ∈ dd acc (vs.take j) := by simpa using hb
        show _ = _
        rw [ej]
        unfold add1
        rw [if_pos hb]; rfl
    · subst e
      show _ = S _
      rw [e2, List.take_length]; rfl
  · subst e
    refine run_ret (ev_tupN (evs_own rfl)) fun d e => ?_
    rw [e, List.take_length]; rfl
end JQ

-- part Rd
set_option Elab.async false
set_option linter.all false
set_option maxRecDepth 100000
set_option maxHeartbeats 2000000
/-! What the defs compute (4): patterns checked; rows agreed with. -/
namespace JQ
open PySem PySem.Spec PyProof.Rows L2
theorem len_putS {m : List (Str × Int)} {k : Str} {v : Int} : (putS m k v).length ≤ m.length + 1 := by
  unfold putS; split
  · rw [List.length_map]; omega
  · rw [List.length_append]; exact Nat.le_refl _
def R_right_atoms : List DV → (DV → Prop) → Prop := mkR (fun x : Cat × List Atom => GCat x.1 ∧ GAtoms x.1 x.2) (fun x => [.p (.tuple (x.2.map dAtom))]) fun _ d => d = .p (.bool true)
theorem rn_right_atoms {c : Cf} {G : Gx} {C : Cat} {as : List Atom} (g : GCat C) (h : GAtoms C as) : Run c G (t_right_atoms c R_is_name) (args 5 [.p (.tuple (as.map dAtom))]) (Fin (.bool true)) := by
  have hf := h.few
  have hne : 0 < as.length := List.length_pos_iff.mpr h.ne
  refine run_seq (run_asgN evn_dnew (lq rfl) fun d e => ?_)
  subst e
  refine run_seq (run_forTE (l := as) (e := dAtom) [2, 3, 4] (fun i ρ' => ∃ m, ρ' = [.fz (.p (.tuple (as.map dAtom))), .ow (.dk m), .no, .no, .no] ∧ m.length ≤ i ∧ ∀ n v, getS m n = some v → ∃ t ∈ C, t.1 = n ∧ (t.2.1 : Int) = v) (ed_var rfl) ⟨[], rfl, Nat.zero_le _, fun n v z => by cases z⟩ (fun i a ρ' hi ⟨m, e, hm, hv⟩ => ?_) fun ρ' ⟨m, e, hm, hv⟩ => ?_)
  · subst e
    have ha : a ∈ as := List.mem_of_getElem? hi
    obtain ⟨n, vs⟩ := a
    obtain ⟨ok, l1, l4⟩ := h.okA g ha
    have hvs := h.vs _ ha
    obtain ⟨t, ht, et, el⟩ := h.tab _ ha
    have ok : okW n := ok
    have l1 : 1 ≤ vs.length := l1
    have l4 : vs.length ≤ 4 := l4
    have et : t.1 = n := et
    have el : t.2.1 = vs.length := el
    have il : i < as.length := (List.getElem?_eq_some_iff.mp hi).1
    have eg : (getS m n).getD (vs.length : Int) = (vs.length : Int) := by
      cases z : getS m n with
      | none => rfl
      | some v =>
        obtain ⟨u, hu, eu, ev⟩ := hv n v z
        rw [← eu] at et
        rw [name_one g ht hu et] at el
        show v = _
        omega
    refine ⟨_, _, bd_tup (bda_cons (bd_name (lq rfl)) (bda_cons (bd_name (lq rfl)) bda_nil)) rfl, ?_⟩
    refine run_seq (run_if (b := false) (Et.is (et_or (et_not (et_B (ed_call (ea_cons (ed_var rfl) ea_nil) ⟨n, ok, rfl, fun _ e => e⟩).s)) fun _ => et_not (et_test (ed_chain ed_int.s (ed_cb1 (es_var rfl) cb_lenTE).s od_le (fun _ => ed_int.s) fun _ => od_le).s)) ?_) (fun h => nomatch h) fun _ => run_next ?_)
    · rw [decide_eq_true (by omega), decide_eq_true (by omega)]; rfl
    refine run_seq (run_if (b := false) (Et.is (et_not (et_B (ed_cb1 (en_lc1 vs (fun v => .p (.str v)) (fun _ => .bool true) (src_tupE vs .str (ed_var rfl)) (by omega) fun v hv => ⟨_, _, fun _ h => h, bd_name (lq rfl), ed_call (ea_cons (ed_var rfl) ea_nil) ⟨v, hvs v hv, rfl, fun _ e => e⟩⟩).s (cb_allF (f := fun _ => true))).s)) ?_) (fun h => nomatch h) fun _ => run_next ?_)
    · rw [all_yes fun _ _ => rfl]; rfl
    refine run_seq (run_if (b := false) (Et.is (et_test (ed_op (ed_dget2 (evs_own rfl) (es_var rfl) (ed_cb1 (es_var rfl) cb_lenTE).s).s (ed_cb1 (es_var rfl) cb_lenTE).s (od_ne (int_fine _) rfl)).s) ?_) (fun h => nomatch h) fun _ => run_next ?_)
    · rw [eg, enc_int.eqB, decide_eq_true rfl]; rfl
    refine run_dput rfl (ed_cb1 (es_var rfl) cb_lenTE) (es_var rfl) (by rw [sizeLine_eq]; omega) ⟨putS m n vs.length, rfl, Nat.le_trans len_putS (by omega), fun n' v z => ?_⟩
    rw [getS_put] at z
    by_cases e : n' = n
    · rw [if_pos e] at z
      cases z
      exact ⟨t, ht, et.trans e.symm, by rw [el]⟩
    · rw [if_neg e] at z
      exact hv n' v z
  · subst e
    refine fin_ret (Ed.is (ed_op (ed_cb1 (es_var rfl) cb_lenTE).s ed_int.s od_gt) ?_)
    rw [decide_eq_true (by omega)]
def R_check_pattern : List DV → (DV → Prop) → Prop := mkR Good (fun x => [.p (dPat x.2)]) fun _ d => d = .p .none
theorem mem_take_lt {α : Type} [DecidableEq α] {l : List α} (h : l.Nodup) {k : Nat} {x : α} (hk : l[k]? = some x) : x ∉ l.take k := fun hx => by
  obtain ⟨i, hi⟩ := List.getElem?_of_mem hx
  rw [List.getElem?_take] at hi
  split at hi
  · rename_i lt
    have h1 := (List.getElem?_eq_some_iff.mp hk)
    have h2 := (List.getElem?_eq_some_iff.mp hi)
    exact absurd (h2.2.trans h1.2.symm) (List.pairwise_iff_getElem.mp h i k h2.1 h1.1 lt)
  · cases hi
theorem rn_check_pattern {c : Cf} {G : Gx} {C : Cat} {p : Pat} (h : Good (C, p)) : Run c G (t_check_pattern c R_all_variables R_right_atoms) (args 7 [.p (dPat p)]) (fun o => ∃ ρ, o = .nx ρ) := by
  obtain ⟨hd, as⟩ := p
  have g := h.1
  have hp := h.2
  have hh : hd.length ≤ 3 := hp.hfew
  have hv := hp.few
  have ha : as.length ≤ 3 := hp.at_.few
  have hsub : ∀ v ∈ hd, v ∈ varsOf (hd, as) := hp.sub
  have hnd : hd.Nodup := hp.hd
  refine run_seq (run_bind (ed_var rfl) (bd_tup (bda_cons (bd_name (lq rfl)) (bda_cons (bd_name (lq rfl)) bda_nil)) rfl) ?_)
  refine run_seq (run_asg (P := (· = .p (dVars (varsOf (hd, as))))) ((ev_call (P := (· = .tN (varsOf (hd, as)))) (ea_cons (ed_var rfl) ea_nil) fun ds e => by subst e; exact ⟨_, h, rfl, fun _ e => e⟩).conv fun _ _ r => rva_tN r) (lq rfl) fun d e => ?_)
  subst e
  refine run_seq (run_set (Ed.is (ed_andV (ed_call (d := .bool true) (ea_cons (ed_var rfl) ea_nil) ⟨(C, as), ⟨g, hp.at_⟩, rfl, fun _ e => e⟩).s fun _ => ed_cb1 (en_lc1 hd (fun v => .p (.str v)) (fun v => .bool (decide (v ∈ varsOf (hd, as)))) (src_tupE hd .str (ed_var rfl)) (by omega) fun v hv => ⟨_, _, fun _ h => h, bd_name (lq rfl), Ed.is (ed_op (es_var rfl) (es_var rfl) (od_inT (ds := (varsOf (hd, as)).map .str) (str_fine _) (enc_str.pls _))) (by rw [enc_str.any])⟩).s (cb_allF (f := fun v => decide (v ∈ varsOf (hd, as))))) (show _ = PyData.bool true by rw [all_yes fun v hv => decide_eq_true (hsub v hv)]; rfl)) (lq rfl) ?_)
  refine run_seq (run_if (b := false) (Et.is (et_or (et_not (et_B (es_var rfl))) fun _ => et_B (ed_cb1 (en_lc1 (List.range hd.length) (fun i => .p (.int (i : Int))) (fun k => .bool (decide (hd.getD k "" ∈ hd.take k))) (src_range (ed_cb1 (es_var rfl) cb_lenTE).s (by omega)) (by rw [List.length_range]; omega) fun k hk => ⟨_, _, fun _ h => h, bd_name (lq rfl), ?_⟩).s (cb_anyF (f := fun k => decide (hd.getD k "" ∈ hd.take k)))).s) ?_) (fun h => nomatch h) fun _ => run_next ?_)
  · have hk := List.mem_range.mp hk
    have e1 : hd[k]? = some (hd.getD k "") := by rw [List.getD_eq_getElem?_getD, List.getElem?_eq_getElem hk]; rfl
    have e2 : cutD (hd.map PyData.str) none (some (k : Int)) = (hd.take k).map .str := by rw [cut_to, List.map_take]
    exact Ed.is (ed_op (ed_op (es_var rfl) (es_var rfl) (od_ixT (ds := hd.map .str) (atE e1))).s (Ed.is (ed_slT (es_var rfl) eo_none (eo_some (es_var rfl))) (congrArg PyData.tuple e2)).s (od_inT (ds := (hd.take k).map .str) (str_fine _) (enc_str.pls _))) (by rw [enc_str.any])
  · have : (List.range hd.length).any (fun k => decide (hd.getD k "" ∈ hd.take k)) = false := Bool.eq_false_iff.mpr fun z => by
      obtain ⟨k, hk, z⟩ := List.any_eq_true.mp z
      have hk := List.mem_range.mp hk
      have e1 : hd[k]? = some (hd.getD k "") := by rw [List.getD_eq_getElem?_getD, List.getElem?_eq_getElem hk]; rfl
      exact mem_take_lt hnd e1 (of_decide_eq_true z)
    rw [this]; rfl
  · refine run_if (b := false) (Et.is (et_or (et_test (ed_op (ed_cb1 (es_var rfl) cb_lenTE).s ed_int.s od_gt).s) fun _ => et_test (ed_op (ed_cb1 (es_var rfl) cb_lenTE).s ed_int.s od_gt).s) ?_) (fun h => nomatch h) fun _ => run_next ⟨_, rfl⟩
    have hv : (varsOf (hd, as)).length ≤ 3 := hv
    have ha2 : ((hd, as) : Pat).2.length ≤ 3 := ha
    rw [decide_eq_false (by omega), decide_eq_false (by omega)]; rfl
def R_check_fit : List DV → (DV → Prop) → Prop := mkR Good (fun x => [.p (dCat x.1), .p (dPat x.2)]) fun _ d => d = .p .none
theorem rn_check_fit {c : Cf} {G : Gx} {x : Cat × Pat} (h : Good x) : Run c G (t_check_fit c R_check_catalogue R_check_pattern R_table_at) (args 4 [.p (dCat x.1), .p (dPat x.2)]) (fun o => ∃ ρ, o = .nx ρ) := by
  obtain ⟨C, p⟩ := x
  have g : GCat C := h.1
  refine run_seq (run_drop (ed_call (d := .none) (ea_cons (ed_var rfl) ea_nil) ⟨C, g, rfl, fun _ e => e⟩) ?_)
  refine run_seq (run_drop (ed_call (d := .none) (ea_cons (ed_var rfl) ea_nil) ⟨(C, p), h, rfl, fun _ e => e⟩) ?_)
  refine run_forTE (l := p.2) (e := dAtom) [2, 3] (fun i ρ' => ρ' = [.fz (.p (dCat C)), .fz (.p (dPat p)), .no, .no]) (ed_op (es_var rfl) ed_int.s (od_ixT rfl)) rfl (fun i a ρ' hi e => ?_) fun ρ' e => ⟨_, rfl⟩
  subst e
  obtain ⟨n, vs⟩ := a
  obtain ⟨t, ht, et, el⟩ := h.2.at_.tab _ (List.mem_of_getElem? hi)
  have et : t.1 = n := et
  have el : t.2.1 = vs.length := el
  subst et
  refine ⟨_, _, bd_tup (bda_cons (bd_name (lq rfl)) (bda_cons (bd_name (lq rfl)) bda_nil)) rfl, ?_⟩
  refine run_if (b := false) (Et.is (et_test (ed_op (ed_op (ed_call (d := dTab t) (ea_cons (ed_var rfl) (ea_cons (ed_var rfl) ea_nil)) ⟨(C, t), ⟨g, ht⟩, rfl, fun _ e => e⟩).s ed_int.s (od_ixT rfl)).s (ed_cb1 (es_var rfl) cb_lenTE).s (od_ne (int_fine _) rfl)).s) ?_) (fun h => nomatch h) fun _ => run_next rfl
  rw [enc_int.eqB, el, decide_eq_true rfl]; rfl
/-! ### agreed -/
def agr : List (Str × Int) → List Str → Row → Option (List (Str × Int))
  | m, v :: vs, n :: r => if (getS m v).getD n = n then agr (putS m v n) vs r else none
  | m, [], _ => some m
  | m, _ :: _, [] => some m
def dOpt : Option (List (Str × Int)) → DV
  | none => .p .none
  | some m => .dk m
def R_agreed : List DV → (DV → Prop) → Prop := mkR (fun x : List (Str × Int) × List Str × Row => x.2.1.length = x.2.2.length ∧ x.2.1.length ≤ 4 ∧ x.1.length ≤ 100) (fun x => [.dk x.1, .p (dVars x.2.1), .p (dRow x.2.2)]) fun x d => d = dOpt (agr x.1 x.2.1 x.2.2)
theorem rn_agreed {c : Cf} {G : Gx} {m : List (Str × Int)} {vs : List Str} {r : Row} (h1 : vs.length = r.length) (h2 : vs.length ≤ 4) (h3 : m.length ≤ 100) : Run c G (t_agreed c) (args 5 [.dk m, .p (dVars vs), .p (dRow r)]) (fun o => o = .rt (dOpt (agr m vs r))) := by
  refine run_seq (run_asgN (evn_dictOf (ev_var rfl).s) (lq rfl) fun d e => ?_)
  subst e
  refine run_seq (run_forR (n := vs.length) [4] (fun i ρ' => ∃ m', ρ' = [.fz (.dk m), .fz (.p (dVars vs)), .fz (.p (dRow r)), .ow (.dk m'), .no] ∧ agr m vs r = agr m' (vs.drop i) (r.drop i) ∧ m'.length ≤ 100 + i) (ed_cb1 (es_var rfl) cb_lenTE).s (by omega) ⟨m, rfl, rfl, h3⟩ (fun i ρ' hi ⟨m', e, ea, hm⟩ => ?_) fun ρ' ⟨m', e, ea, _⟩ => ?_)
  · subst e
    have hv := List.getElem?_eq_getElem hi
    have hr := List.getElem?_eq_getElem (show i < r.length by omega)
    have ev : vs.drop i = vs[i] :: vs.drop (i + 1) := List.drop_eq_getElem_cons hi
    have er : r.drop i = r[i] :: r.drop (i + 1) := List.drop_eq_getElem_cons (show i < r.length by omega)
    generalize vs[i] = v at hv ev
    generalize r[i] = n at hr er
    rw [ev, er] at ea
    refine ⟨_, _, bd_name (lq rfl), ?_⟩
    refine run_seq (run_if (b := !decide ((getS m' v).getD n = n)) (Et.is (et_test (ed_op (ed_dget2 (evs_own rfl) (ed_op (es_var rfl) (es_var rfl) (od_ixT (atE hv))).s (ed_op (es_var rfl) (es_var rfl) (od_ixT (atE hr))).s).s (ed_op (es_var rfl) (es_var rfl) (od_ixT (atE hr))).s (od_ne (int_fine _) rfl)).s) (by rw [enc_int.eqB])) (fun hb => ?_) fun hb => run_next ?_)
    · have hb : ¬ (getS m' v).getD n = n := by simpa using hb
      refine run_retD ed_none ?_
      show _ = _
      rw [ea, agr, if_neg hb]; rfl
    · have hb : (getS m' v).getD n = n := by simpa using hb
      refine run_dput rfl (ed_op (es_var rfl) (es_var rfl) (od_ixT (atE hr))) (ed_op (es_var rfl) (es_var rfl) (od_ixT (atE hv))).s (by rw [sizeLine_eq]; omega) ⟨putS m' v n, rfl, ?_, Nat.le_trans len_putS (by omega)⟩
      rw [ea, agr, if_pos hb]
  · subst e
    refine run_retO (d := .dk m') rfl ?_
    show _ = _
    rw [ea, List.drop_length]
    cases r.drop vs.length <;> rfl
end JQ

-- part Re
set_option Elab.async false
set_option linter.all false
set_option maxRecDepth 100000
set_option maxHeartbeats 2000000
/-! What the defs compute (5): the plain answers. -/
namespace JQ
open PySem PySem.Spec PyProof.Rows L2
theorem ksPut_map {α : Type} [DecidableEq α] {e : α → PyData} (h : Enc e) (l : List α) (x : α) : ksPut (l.map e) (e x) = (add1 l x).map e := by
  have ea : ((l.map e).any fun z => decide (nk z = nk (e x))) = decide (x ∈ l) := by
    rw [List.any_map]
    by_cases hx : x ∈ l
    · rw [decide_eq_true hx]
      exact List.any_eq_true.mpr ⟨x, hx, decide_eq_true rfl⟩
    · rw [decide_eq_false hx]
      refine Bool.eq_false_iff.mpr fun z => hx ?_
      obtain ⟨y, hy, ey⟩ := List.any_eq_true.mp z
      rw [← h.nk y x (of_decide_eq_true ey)]; exact hy
  unfold ksPut add1
  rw [ea]
  by_cases hx : x ∈ l
  · rw [if_pos (decide_eq_true hx), if_pos hx]
  · rw [if_neg (by simpa using hx), if_neg hx, List.map_append]; rfl
/-- the rows of the table n -/
def tbl (C : Cat) (n : Str) : List Row := match C.find? fun t => decide (t.1 = n) with
  | some t => t.2.2
  | none => []
theorem tbl_of {C : Cat} (h : GCat C) {t : Tab} (ht : t ∈ C) : tbl C t.1 = t.2.2 := by
  unfold tbl
  cases e : C.find? fun u => decide (u.1 = t.1) with
  | none =>
    have := List.find?_eq_none.mp e t ht
    simp at this
  | some u =>
    have h1 := List.mem_of_find?_eq_some e
    have h2 := List.find?_some e
    rw [name_one h h1 ht (of_decide_eq_true h2)]
abbrev Asg := List (Str × Int)
def asg1 (C : Cat) (a : Atom) (acc : List Asg) : List Asg := acc.flatMap fun m => (tbl C a.1).filterMap fun r => agr m a.2 r
def asgs (C : Cat) (as : List Atom) (acc : List Asg) : List Asg := as.foldl (fun acc a => asg1 C a acc) acc
theorem asgs_snoc (C : Cat) (as : List Atom) (a : Atom) (acc : List Asg) : asgs C (as ++ [a]) acc = asg1 C a (asgs C as acc) := by
  unfold asgs; rw [List.foldl_append]; rfl
theorem agr_len : ∀ {vs : List Str} {r : Row} {m m' : Asg}, agr m vs r = some m' → m'.length ≤ m.length + vs.length
  | [], _, m, m', h => by simp [agr] at h; subst h; simp
  | _ :: _, [], m, m', h => by simp [agr] at h; subst h; simp
  | v :: vs, n :: r, m, m', h => by
    rw [agr] at h
    split at h
    · have h1 := agr_len h
      have h2 := len_putS (m := m) (k := v) (v := n)
      rw [List.length_cons]; omega
    · cases h
theorem asg1_len {C : Cat} {a : Atom} {acc : List Asg} (h5 : (tbl C a.1).length ≤ 5) : (asg1 C a acc).length ≤ acc.length * 5 := by
  unfold asg1
  induction acc with
  | nil => simp
  | cons m acc ih =>
    rw [List.flatMap_cons, List.length_append, List.length_cons]
    have := List.length_filterMap_le (fun r => agr m a.2 r) (tbl C a.1)
    omega
theorem asg1_row {C : Cat} {a : Atom} {acc : List Asg} {k : Nat} (h4 : a.2.length ≤ 4) (h : ∀ m ∈ acc, m.length ≤ k) : ∀ m ∈ asg1 C a acc, m.length ≤ k + 4 := by
  intro m hm
  unfold asg1 at hm
  obtain ⟨m0, h0, hm⟩ := List.mem_flatMap.mp hm
  obtain ⟨r, hr, e⟩ := List.mem_filterMap.mp hm
  have := agr_len e
  have := h m0 h0
  omega
theorem asgs_ok {C : Cat} {as : List Atom} (g : GCat C) (h : GAtoms C as) : ∀ i, i ≤ as.length → (asgs C (as.take i) [[]]).length ≤ 5 ^ i ∧ ∀ m ∈ asgs C (as.take i) [[]], m.length ≤ 4 * i := by
  intro i
  induction i with
  | zero => intro _; exact ⟨Nat.le_refl _, fun m hm => by have : m = [] := by simpa [asgs] using hm
                                                          subst this; exact Nat.le_refl _⟩
  | succ i ih =>
    intro hi
    obtain ⟨h1, h2⟩ := ih (by omega)
    have ha := List.getElem?_eq_getElem (show i < as.length by omega)
    generalize as[i] = a at ha
    have hm := List.mem_of_getElem? ha
    rw [take_snoc ha, asgs_snoc]
    obtain ⟨_, _, l4⟩ := h.okA g hm
    obtain ⟨t, ht, et, _⟩ := h.tab a hm
    have h5 : (tbl C a.1).length ≤ 5 := by rw [← et, tbl_of g ht]; exact (g.tabs t ht).few
    refine ⟨Nat.le_trans (asg1_len h5) ?_, fun m hm => ?_⟩
    · rw [Nat.pow_succ]; exact Nat.mul_le_mul_right 5 h1
    · have := asg1_row l4 h2 m hm
      omega
def R_plain_assignments : List DV → (DV → Prop) → Prop := mkR Good (fun x => [.p (dCat x.1), .p (dPat x.2)]) fun x d => d = .l ((asgs x.1 x.2.2 [[]]).map .dk)
theorem ea_x1 {c : Cf} {G : Gx} {ρ : Rho} {ta : TE} {d : DV} (h : Ev c G ta ρ (· = d)) : EvA c G (tCons ta tNil) ρ (· = [d]) := eva_cons1 h eva_nil
theorem rn_plain_assignments {c : Cf} {G : Gx} {x : Cat × Pat} (h : Good x) : Run c G (t_plain_assignments c R_table_at R_agreed) (args 9 [.p (dCat x.1), .p (dPat x.2)]) (fun o => o = .rt (.l ((asgs x.1 x.2.2 [[]]).map .dk))) := by
  obtain ⟨C, p⟩ := x
  have g : GCat C := h.1
  have ga : GAtoms C p.2 := h.2.at_
  have hf := ga.few
  let S : List Asg → Rho := fun l => [.fz (.p (dCat C)), .fz (.p (dPat p)), .fz (.l (l.map .dk)), .no, .no, .no, .no, .no, .no]
  refine run_seq (run_asgN (evn_lstX (ea_x1 evn_dnew.e)) (lq rfl) fun d e => ?_)
  subst e
  refine run_freeze (i := 2) rfl ?_
  refine run_seq (run_forTE (l := p.2) (e := dAtom) [3, 4, 5, 6, 7, 8] (fun i ρ' => ρ' = S (asgs C (p.2.take i) [[]])) (ed_op (es_var rfl) ed_int.s (od_ixT rfl)) rfl (fun i a ρ' hi e => ?_) fun ρ' e => ?_)
  · subst e
    have il : i < p.2.length := (List.getElem?_eq_some_iff.mp hi).1
    obtain ⟨hb1, hb2⟩ := asgs_ok g ga i (by omega)
    have ha := List.mem_of_getElem? hi
    obtain ⟨_, _, l4⟩ := ga.okA g ha
    obtain ⟨t, ht, et, el⟩ := ga.tab a ha
    have ht5 := (g.tabs t ht).few
    have eT : tbl C a.1 = t.2.2 := by rw [← et, tbl_of g ht]
    have e2 : asgs C (p.2.take (i + 1)) [[]] = asg1 C a (asgs C (p.2.take i) [[]]) := by rw [take_snoc hi, asgs_snoc]
    have hpow : 5 ^ i ≤ 25 := by
      have : 5 ^ i ≤ 5 ^ 2 := Nat.pow_le_pow_right (by decide) (by omega)
      exact this
    obtain ⟨n, vs⟩ := a
    have et : t.1 = n := et
    subst et
    generalize hacc : asgs C (p.2.take i) [[]] = acc at hb1 hb2 e2
    refine ⟨_, _, bd_tup (bda_cons (bd_name (lq rfl)) (bda_cons (bd_name (lq rfl)) bda_nil)) rfl, ?_⟩
    refine run_seq (run_asgN (evn_lstX eva_nil) (lq rfl) fun d e => ?_)
    subst e
    -- the inner lists
    let S3 : DV → List DV → Rho := fun m l => [.fz (.p (dCat C)), .fz (.p (dPat p)), .fz (.l (acc.map .dk)), .fz (.p (.str t.1)), .fz (.p (dVars vs)), .ow (.l l), .fz m, .no, .no]
    let S2 : List Asg → Rho := fun l => [.fz (.p (dCat C)), .fz (.p (dPat p)), .fz (.l (acc.map .dk)), .fz (.p (.str t.1)), .fz (.p (dVars vs)), .ow (.l (l.map .dk)), .no, .no, .no]
    refine run_seq (run_forX (ds := acc.map .dk) [6, 7, 8] (fun j ρ' => ρ' = S2 (asg1 C (t.1, vs) (acc.take j))) (ev_var rfl) rfl (fun j d ρ' hj e => ?_) fun ρ' e => ?_)
    · subst e
      rw [List.getElem?_map] at hj
      cases hm : acc[j]? with
      | none => rw [hm] at hj; cases hj
      | some m =>
        rw [hm] at hj
        cases hj
        have hml := hb2 m (List.mem_of_getElem? hm)
        have jl : j < acc.length := (List.getElem?_eq_some_iff.mp hm).1
        have ej : asg1 C (t.1, vs) (acc.take (j + 1)) = asg1 C (t.1, vs) (acc.take j) ++ t.2.2.filterMap fun r => agr m vs r := by
          rw [take_snoc hm]
          unfold asg1
          rw [List.flatMap_append, List.flatMap_cons, List.flatMap_nil, List.append_nil, eT]
        have hlen1 : (asg1 C (t.1, vs) (acc.take j)).length ≤ 125 := by
          have := asg1_len (C := C) (a := (t.1, vs)) (acc := acc.take j) (by rw [eT]; exact ht5)
          rw [List.length_take] at this
          have : min j acc.length ≤ 25 := by omega
          omega
        refine ⟨_, _, bd_name (lq rfl), ?_⟩
        refine run_forTE (l := t.2.2) (e := dRow) [7, 8] (fun k ρ' => ρ' = [.fz (.p (dCat C)), .fz (.p (dPat p)), .fz (.l (acc.map .dk)), .fz (.p (.str t.1)), .fz (.p (dVars vs)), .ow (.l ((asg1 C (t.1, vs) (acc.take j) ++ (t.2.2.take k).filterMap fun r => agr m vs r).map .dk)), .fz (.dk m), .no, .no]) (ed_op (ed_call (d := dTab t) (ea_cons (ed_var rfl) (ea_cons (ed_var rfl) ea_nil)) ⟨(C, t), ⟨g, ht⟩, rfl, fun _ e => e⟩).s ed_int.s (od_ixT rfl)) (by rw [List.take_zero, List.filterMap_nil, List.append_nil]; rfl) (fun k r ρ' hk e => ?_) fun ρ' e => ?_
        · subst e
          have hr := List.mem_of_getElem? hk
          have hrl : r.length = t.2.1 := ((g.tabs t ht).rows r hr).1
          have kl : k < t.2.2.length := (List.getElem?_eq_some_iff.mp hk).1
          have ek : (t.2.2.take (k + 1)).filterMap (fun r => agr m vs r) = (t.2.2.take k).filterMap (fun r => agr m vs r) ++ (agr m vs r).toList := by
            rw [take_snoc hk, List.filterMap_append]
            cases z : agr m vs r <;> simp [z]
          have hk2 := List.length_filterMap_le (fun r => agr m vs r) (t.2.2.take k)
          rw [List.length_take] at hk2
          refine ⟨_, _, bd_name (lq rfl), ?_⟩
          refine run_seq (run_asg (P := (· = dOpt (agr m vs r))) (ev_call (eva_cons1 (ev_var rfl) (eva_cons1 (ev_var rfl) (eva_cons1 (ev_var rfl) eva_nil))) fun ds e => by subst e; exact ⟨(m, vs, r), ⟨by rw [hrl]; exact el.symm, l4, by show m.length ≤ 100; omega⟩, rfl, fun _ e => e⟩) (lq rfl) fun d e => ?_)
          subst e
          refine run_if (b := !isNon (dOpt (agr m vs r))) (et_test (ev_op (ev_var rfl).s ed_none.s fun _ _ e1 e2 => by subst e1 e2; exact od_notN).s) (fun hb => ?_) fun hb => run_next ?_
          · cases z : agr m vs r with
            | none => rw [z] at hb; cases hb
            | some m' =>
              refine run_appL rfl (ev_var rfl) ?_ fun d e => ?_
              · rw [List.length_map, List.length_append, sizeLine_eq]; omega
              · subst e
                show S3 (.dk m) _ = S3 (.dk m) _
                refine congrArg (S3 (.dk m)) ?_
                rw [ek, z]; simp [dOpt]
          · cases z : agr m vs r with
            | some m' => rw [z] at hb; cases hb
            | none =>
              show S3 (.dk m) _ = S3 (.dk m) _
              refine congrArg (S3 (.dk m)) ?_
              rw [ek, z]; simp
        · subst e
          show _ = S2 _
          rw [ej, List.take_length]; rfl
    · subst e
      refine run_freeze (i := 5) rfl ?_
      rw [List.length_map, List.take_length]
      refine run_asg (P := (· = .l ((asg1 C (t.1, vs) acc).map .dk))) (ev_var rfl) (lq rfl) fun d e => ?_
      subst e
      show _ = S _
      rw [e2]; rfl
  · subst e
    refine run_ret (ev_var rfl) fun d e => ?_
    rw [e, List.take_length]
end JQ

-- part Rf
set_option Elab.async false
set_option linter.all false
set_option maxRecDepth 100000
set_option maxHeartbeats 2000000
/-! What the plain answers are. -/
namespace JQ
open PySem PySem.Spec PyProof.Rows L2
theorem agr_get : ∀ {vs : List Str} {r : Row} {m m' : Asg}, agr m vs r = some m' → ∀ {v n}, getS m v = some n → getS m' v = some n
  | [], _, m, m', h, v, n, g => by simp [agr] at h; subst h; exact g
  | _ :: _, [], m, m', h, v, n, g => by simp [agr] at h; subst h; exact g
  | w :: vs, k :: r, m, m', h, v, n, g => by
    rw [agr] at h
    split at h
    · rename_i hk
      refine agr_get h ?_
      rw [getS_put]
      by_cases e : v = w
      · subst e
        rw [g] at hk
        rw [if_pos rfl, ← hk]; rfl
      · rw [if_neg e]; exact g
    · cases h
theorem agr_at : ∀ {vs : List Str} {r : Row} {m m' : Asg}, agr m vs r = some m' → vs.length = r.length → r.map some = vs.map (getS m')
  | [], [], _, _, _, _ => rfl
  | [], _ :: _, _, _, _, hl => by cases hl
  | _ :: _, [], _, _, _, hl => by cases hl
  | w :: vs, k :: r, m, m', h, hl => by
    rw [agr] at h
    split at h
    · rw [List.map_cons, List.map_cons, agr_at h (Nat.succ.inj hl), agr_get h (v := w) (n := k) (by rw [getS_put, if_pos rfl])]
    · cases h
/-- θ extends m -/
def Ext (θ : Str → Int) (m : Asg) : Prop := ∀ v n, getS m v = some n → θ v = n
theorem agr_ok {θ : Str → Int} : ∀ {vs : List Str} {m : Asg}, Ext θ m → ∃ m', agr m vs (vs.map θ) = some m' ∧ Ext θ m'
  | [], m, h => ⟨m, by simp [agr], h⟩
  | w :: vs, m, h => by
    have e1 : (getS m w).getD (θ w) = θ w := by
      cases z : getS m w with
      | none => rfl
      | some n => exact (h w n z).symm
    have h2 : Ext θ (putS m w (θ w)) := fun v n g => by
      rw [getS_put] at g
      by_cases e : v = w
      · rw [if_pos e] at g; cases g; rw [e]
      · rw [if_neg e] at g; exact h v n g
    obtain ⟨m', e, x⟩ := agr_ok (vs := vs) h2
    exact ⟨m', by rw [List.map_cons, agr, if_pos e1]; exact e, x⟩
def val (m : Asg) (v : Str) : Int := (getS m v).getD 0
/-- the assignment fits the catalogue -/
def Fits (C : Cat) (p : Pat) (θ : Str → Int) : Prop := ∀ a ∈ p.2, a.2.map θ ∈ tbl C a.1
theorem tbl_row {C : Cat} {as : List Atom} (g : GCat C) (h : GAtoms C as) {a : Atom} (ha : a ∈ as) {r : Row} (hr : r ∈ tbl C a.1) : r.length = a.2.length := by
  obtain ⟨t, ht, et, el⟩ := h.tab a ha
  rw [← et, tbl_of g ht] at hr
  rw [((g.tabs t ht).rows r hr).1, el]
theorem asgs_get {C : Cat} {as : List Atom} (g : GCat C) (h : GAtoms C as) : ∀ i, i ≤ as.length → ∀ m ∈ asgs C (as.take i) [[]], ∀ a ∈ as.take i, (∀ v ∈ a.2, ∃ n, getS m v = some n) ∧ a.2.map (val m) ∈ tbl C a.1 := by
  intro i
  induction i with
  | zero => intro _ m _ a ha; simp at ha
  | succ i ih =>
    intro hi m hm a ha
    have hx := List.getElem?_eq_getElem (show i < as.length by omega)
    generalize as[i] = b at hx
    have hb := List.mem_of_getElem? hx
    rw [take_snoc hx, asgs_snoc] at hm
    rw [take_snoc hx] at ha
    obtain ⟨m0, h0, hm⟩ := List.mem_flatMap.mp hm
    obtain ⟨r, hr, e⟩ := List.mem_filterMap.mp hm
    rcases List.mem_append.mp ha with ha | ha
    · obtain ⟨z1, z2⟩ := ih (by omega) m0 h0 a ha
      refine ⟨fun v hv => ?_, ?_⟩
      · obtain ⟨n, hn⟩ := z1 v hv
        exact ⟨n, agr_get e hn⟩
      · have : a.2.map (val m) = a.2.map (val m0) := List.map_congr_left fun v hv => by
          obtain ⟨n, hn⟩ := z1 v hv
          unfold val
          rw [hn, agr_get e hn]
        rw [this]; exact z2
    · rw [List.mem_singleton.mp ha]
      have hl := tbl_row g h hb hr
      have ea := agr_at e hl.symm
      refine ⟨fun v hv => ?_, ?_⟩
      · have : getS m v ∈ b.2.map (getS m) := List.mem_map_of_mem hv
        rw [← ea] at this
        obtain ⟨n, _, en⟩ := List.mem_map.mp this
        exact ⟨n, en.symm⟩
      · have : b.2.map (val m) = r := by
          have z : (r.map some).map (fun o : Option Int => o.getD 0) = (b.2.map (getS m)).map (fun o => o.getD 0) := by rw [ea]
          rw [List.map_map, List.map_map] at z
          have e1 : r.map ((fun o : Option Int => o.getD 0) ∘ some) = r := by
            show r.map (fun x => x) = r
            exact List.map_id r
          rw [e1] at z
          exact z.symm
        rw [this]; exact hr
theorem asgs_fit {C : Cat} {as : List Atom} {θ : Str → Int} : (∀ a ∈ as, a.2.map θ ∈ tbl C a.1) → ∃ m ∈ asgs C as [[]], Ext θ m := by
  suffices ∀ (as : List Atom) (acc : List Asg), (∀ a ∈ as, a.2.map θ ∈ tbl C a.1) → (∃ m ∈ acc, Ext θ m) → ∃ m ∈ asgs C as acc, Ext θ m from fun h => this as [[]] h ⟨[], List.mem_singleton.mpr rfl, fun v n z => by cases z⟩
  intro as
  induction as with
  | nil => intro acc _ h; exact h
  | cons a as ih =>
    intro acc h ⟨m, hm, x⟩
    obtain ⟨m', e, x'⟩ := agr_ok (vs := a.2) x
    exact ih (asg1 C a acc) (fun b hb => h b (List.mem_cons_of_mem _ hb)) ⟨m', List.mem_flatMap.mpr ⟨m, hm, List.mem_filterMap.mpr ⟨_, h a (List.mem_cons_self ..), e⟩⟩, x'⟩
theorem varsOf_mem {p : Pat} {v : Str} : v ∈ varsOf p ↔ ∃ a ∈ p.2, v ∈ a.2 := by
  unfold varsOf
  rw [mem_dd, List.mem_flatMap]
  simp
theorem ans_iff {C : Cat} {p : Pat} (h : Good (C, p)) (r : Row) : (∃ m ∈ asgs C p.2 [[]], p.1.map (val m) = r) ↔ ∃ θ, Fits C p θ ∧ p.1.map θ = r := by
  have key := asgs_get h.1 h.2.at_ p.2.length (Nat.le_refl _)
  rw [List.take_length] at key
  constructor
  · rintro ⟨m, hm, e⟩
    exact ⟨val m, fun a ha => (key m hm a ha).2, e⟩
  · rintro ⟨θ, hf, e⟩
    obtain ⟨m, hm, x⟩ := asgs_fit (C := C) (as := p.2) (θ := θ) hf
    refine ⟨m, hm, ?_⟩
    rw [← e]
    refine List.map_congr_left fun v hv => ?_
    obtain ⟨a, ha, hva⟩ := varsOf_mem.mp (h.2.sub v hv)
    obtain ⟨n, hn⟩ := (key m hm a ha).1 v hva
    unfold val
    rw [hn]; exact (x v n hn).symm
/-- the answers -/
structure IsAns (C : Cat) (p : Pat) (A : List Row) : Prop where
  asc : Asc dRow A
  mem : ∀ r, r ∈ A ↔ ∃ θ, Fits C p θ ∧ p.1.map θ = r
def R_plain_answers : List DV → (DV → Prop) → Prop := mkR Good (fun x => [.p (dCat x.1), .p (dPat x.2)]) fun x d => ∃ A, IsAns x.1 x.2 A ∧ d = .p (dRows A)
theorem rn_plain_answers {c : Cf} {G : Gx} {x : Cat × Pat} (h : Good x) : Run c G (t_plain_answers c R_check_fit R_plain_assignments) (args 5 [.p (dCat x.1), .p (dPat x.2)]) (fun o => ∃ A, IsAns x.1 x.2 A ∧ o = .rt (.p (dRows A))) := by
  obtain ⟨C, p⟩ := x
  have key := asgs_get h.1 h.2.at_ p.2.length (Nat.le_refl _)
  rw [List.take_length] at key
  have hh : p.1.length ≤ 3 := h.2.hfew
  have hlen : (asgs C p.2 [[]]).length ≤ 125 := by
    have z := (asgs_ok h.1 h.2.at_ p.2.length (Nat.le_refl _)).1
    rw [List.take_length] at z
    have : 5 ^ p.2.length ≤ 5 ^ 3 := Nat.pow_le_pow_right (by decide) h.2.at_.few
    exact Nat.le_trans z this
  let S : List Row → Rho := fun l => [.fz (.p (dCat C)), .fz (.p (dPat p)), .ow (.ks (l.map dRow)), .no, .no]
  refine run_seq (run_drop (ed_call (d := .none) (ea_cons (ed_var rfl) (ea_cons (ed_var rfl) ea_nil)) ⟨(C, p), h, rfl, fun _ e => e⟩) ?_)
  refine run_seq (run_asgN evn_ksnew (lq rfl) fun d e => ?_)
  subst e
  refine run_seq (run_forX (ds := (asgs C p.2 [[]]).map .dk) [3, 4] (fun i ρ' => ρ' = S (dd [] (((asgs C p.2 [[]]).take i).map fun m => p.1.map (val m)))) (ev_call (ea_cons (ed_var rfl) (ea_cons (ed_var rfl) ea_nil)) fun ds e => by subst e; exact ⟨(C, p), h, rfl, fun _ e => e⟩) rfl (fun i d ρ' hi e => ?_) fun ρ' e => ?_)
  · subst e
    rw [List.getElem?_map] at hi
    cases hm : (asgs C p.2 [[]])[i]? with
    | none => rw [hm] at hi; cases hi
    | some m =>
      rw [hm] at hi
      cases hi
      have hmem := List.mem_of_getElem? hm
      have il : i < (asgs C p.2 [[]]).length := (List.getElem?_eq_some_iff.mp hm).1
      have hl := len_dd (acc := ([] : List Row)) (vs := ((asgs C p.2 [[]]).take i).map fun m => p.1.map (val m))
      rw [List.length_map, List.length_take, List.length_nil] at hl
      refine ⟨_, _, bd_name (lq rfl), ?_⟩
      refine run_ksput (ds := (p.1.map (val m)).map .int) rfl ed_bool (Ed.is (ed_cb1 (en_lc1 p.1 (fun v => .p (.str v)) (fun v => .int (val m v)) (src_tupE p.1 .str (ed_op (es_var rfl) ed_int.s (od_ixT rfl))) (by omega) fun v hv => ⟨_, _, fun _ h => h, bd_name (lq rfl), ?_⟩).s cb_tupL) (by rw [List.map_map]; rfl)) (enc_row.key _) (fun e he => ?_) (by rw [List.length_map, sizeLine_eq]; omega) ?_
      · obtain ⟨a, ha, hva⟩ := varsOf_mem.mp (h.2.sub v hv)
        obtain ⟨n, hn⟩ := (key m hmem a ha).1 v hva
        refine ed_dget (ev_var rfl).s (es_var rfl) ?_
        unfold val
        rw [hn]; rfl
      · obtain ⟨r, _, rfl⟩ := List.mem_map.mp he
        exact enc_row.key r
      · show _ = S _
        rw [take_snoc hm, List.map_append, List.map_cons, List.map_nil, dd_snoc]
        have := ksPut_map enc_row (dd [] (((asgs C p.2 [[]]).take i).map fun m => p.1.map (val m))) (p.1.map (val m))
        exact congrArg (fun l => ([.fz (.p (dCat C)), .fz (.p (dPat p)), .ow (.ks l), .no, .no] : Rho)) this
  · subst e
    rw [List.length_map, List.take_length]
    let rows := (asgs C p.2 [[]]).map fun m => p.1.map (val m)
    have hnd : (dd [] rows).Nodup := nd_dd List.nodup_nil
    have hin : ∀ r ∈ dd [] rows, r.length = p.1.length := fun r hr => by
      rcases mem_dd.mp hr with z | z
      · cases z
      · obtain ⟨m, _, rfl⟩ := List.mem_map.mp z
        exact List.length_map ..
    have hs : PySem.W.Sortable ((dd [] rows).map dRow) ∨ ((dd [] rows).map dRow).length ≤ 1 := by
      cases hp : p.1 with
      | nil =>
        right
        rw [List.length_map]
        rw [hp] at hin
        cases e : dd [] rows with
        | nil => exact Nat.zero_le _
        | cons a l =>
          cases l with
          | nil => exact Nat.le_refl _
          | cons b l =>
            rw [e] at hin hnd
            have h1 := List.eq_nil_of_length_eq_zero (hin a (by simp))
            have h2 := List.eq_nil_of_length_eq_zero (hin b (by simp))
            subst h1 h2
            simp at hnd
      | cons v vs =>
        refine .inl (.inl fun d hd => ?_)
        obtain ⟨r, hr, rfl⟩ := List.mem_map.mp hd
        have := hin r hr
        rw [hp] at this
        cases r with
        | nil => cases this
        | cons n r => exact ⟨_, _, rfl⟩
    refine run_ret (P := fun d => d = .p (dRows (srt dRow (dd [] rows)))) (Ed.is (ed_cb1 (en_cb1 (evs_own rfl) (cb_sortKs (enc_row.alls _) hs fun d hd => ?_)).s cb_tupL) ?_) fun d e => ⟨srt dRow (dd [] rows), ⟨srt_asc enc_row hnd, fun r => ?_⟩, by rw [e]⟩
    · obtain ⟨r, _, rfl⟩ := List.mem_map.mp hd
      exact ⟨(enc_row.fine r).2, enc_row.nn r⟩
    · rw [map_sort]; rfl
    · rw [(srt_perm dRow (dd [] rows)).mem_iff, mem_dd, ← ans_iff h r]
      simp [rows]
end JQ

-- part Rg
set_option Elab.async false
set_option linter.all false
set_option maxRecDepth 100000
set_option maxHeartbeats 2000000
/-! What _law_gone says. -/
namespace JQ
open PySem PySem.Spec PyProof.Rows L2
def factsOf (p : Pat) (θ : Str → Int) : List Fact := p.2.map fun a => (a.1, a.2.map θ)
theorem tbl_minus {C : Cat} (f : Fact) (n : Str) : tbl (minus C f) n = if n = f.1 then (tbl C n).filter (fun r => decide (r ≠ f.2)) else tbl C n := by
  unfold tbl minus
  induction C with
  | nil => simp
  | cons u C ih =>
    rw [List.map_cons, List.find?_cons, List.find?_cons]
    have e1 : (if u.1 = f.1 then ((u.1, u.2.1, u.2.2.filter fun r => decide (r ≠ f.2)) : Tab) else u).1 = u.1 := by split <;> rfl
    rw [e1]
    by_cases hu : u.1 = n
    · simp only [hu, decide_true]
      by_cases hn : n = f.1
      · simp only [if_pos hn]
      · simp only [if_neg hn]
    · simp only [hu, decide_false]
      exact ih
theorem fits_minus {C : Cat} {p : Pat} {θ : Str → Int} (f : Fact) : Fits (minus C f) p θ ↔ Fits C p θ ∧ f ∉ factsOf p θ := by
  unfold Fits factsOf
  constructor
  · intro h
    refine ⟨fun a ha => ?_, fun hf => ?_⟩
    · have := h a ha
      rw [tbl_minus] at this
      split at this
      · exact (List.mem_filter.mp this).1
      · exact this
    · obtain ⟨a, ha, e⟩ := List.mem_map.mp hf
      have := h a ha
      rw [tbl_minus, if_pos (by rw [← e])] at this
      have := (List.mem_filter.mp this).2
      rw [← e] at this
      simp at this
  · rintro ⟨h, hf⟩ a ha
    rw [tbl_minus]
    split
    · rename_i e
      refine List.mem_filter.mpr ⟨h a ha, decide_eq_true fun z => hf ?_⟩
      exact List.mem_map.mpr ⟨a, ha, Prod.ext e z⟩
    · exact h a ha
theorem gpat_minus {C : Cat} {p : Pat} (h : GPat C p) (f : Fact) : GPat (minus C f) p where
  at_ := ⟨fun a ha => by
    obtain ⟨t, ht, e1, e2⟩ := h.at_.tab a ha
    refine ⟨_, List.mem_map_of_mem ht, ?_, ?_⟩
    · split <;> exact e1
    · split <;> exact e2, h.at_.vs, h.at_.ne, h.at_.few⟩
  few := h.few
  hd := h.hd
  sub := h.sub
theorem good_minus {C : Cat} {p : Pat} (h : Good (C, p)) (f : Fact) : Good (minus C f, p) := ⟨minus_good h.1 f, gpat_minus h.2 f⟩
theorem inCat_minus {C : Cat} {f g : Fact} (h : inCat C g) (hn : g ≠ f) : inCat (minus C f) g := by
  obtain ⟨t, ht, e, hr⟩ := h
  refine ⟨_, List.mem_map_of_mem ht, ?_, ?_⟩
  · split <;> exact e
  · split
    · rename_i z
      exact List.mem_filter.mpr ⟨hr, decide_eq_true fun w => hn (Prod.ext (e.symm.trans z) w)⟩
    · exact hr
def minusAll (C : Cat) (S : List Fact) : Cat := S.foldl minus C
theorem minusAll_snoc (C : Cat) (S : List Fact) (f : Fact) : minusAll C (S ++ [f]) = minus (minusAll C S) f := by
  unfold minusAll; rw [List.foldl_append]; rfl
theorem good_minusAll {C : Cat} {p : Pat} (h : Good (C, p)) (S : List Fact) : Good (minusAll C S, p) := by
  unfold minusAll
  induction S generalizing C with
  | nil => exact h
  | cons f S ih => exact ih (good_minus h f)
theorem inCat_minusAll {C : Cat} {S : List Fact} {g : Fact} (h : inCat C g) (hn : g ∉ S) : inCat (minusAll C S) g := by
  unfold minusAll
  induction S generalizing C with
  | nil => exact h
  | cons f S ih =>
    rw [List.mem_cons, not_or] at hn
    exact ih (inCat_minus h hn.1) hn.2
theorem fits_minusAll {C : Cat} {p : Pat} {θ : Str → Int} (S : List Fact) : Fits (minusAll C S) p θ ↔ Fits C p θ ∧ ∀ f ∈ S, f ∉ factsOf p θ := by
  unfold minusAll
  induction S generalizing C with
  | nil => simp
  | cons f S ih =>
    show Fits (S.foldl minus (minus C f)) p θ ↔ _
    rw [ih, fits_minus, and_assoc, List.forall_mem_cons]
/-- with the facts S gone the answer is gone -/
def GoneP (C : Cat) (p : Pat) (ans : Row) (S : List Fact) : Prop := ¬ ∃ θ, Fits C p θ ∧ p.1.map θ = ans ∧ ∀ f ∈ S, f ∉ factsOf p θ
/-- facts of the catalogue, each once -/
def okFacts (C : Cat) (S : List Fact) : Prop := S.Nodup ∧ ∀ f ∈ S, inCat C f
def R__law_gone : List DV → (DV → Prop) → Prop := mkR (fun x : (Cat × Pat) × Row × List Fact => Good x.1 ∧ okFacts x.1.1 x.2.2) (fun x => [.p (dCat x.1.1), .p (dPat x.1.2), .p (dRow x.2.1), .p (dFacts x.2.2)]) fun x d => ∃ b : Bool, (b = true ↔ GoneP x.1.1 x.1.2 x.2.1 x.2.2) ∧ d = .p (.bool b)
theorem rn__law_gone {c : Cf} {G : Gx} {C : Cat} {p : Pat} {ans : Row} {S : List Fact} (h : Good (C, p)) (hs : okFacts C S) : Run c G (t__law_gone c R_without_row R_plain_answers) (args 6 [.p (dCat C), .p (dPat p), .p (dRow ans), .p (dFacts S)]) (fun o => ∃ b : Bool, (b = true ↔ GoneP C p ans S) ∧ o = .rt (.p (.bool b))) := by
  refine run_seq (run_forTE (l := S) (e := dFact) [4, 5] (fun i ρ' => ρ' = [.fz (.p (dCat (minusAll C (S.take i)))), .fz (.p (dPat p)), .fz (.p (dRow ans)), .fz (.p (dFacts S)), .no, .no]) (ed_var rfl) rfl (fun i f ρ' hi e => ?_) fun ρ' e => ?_)
  · subst e
    have hin := hs.2 f (List.mem_of_getElem? hi)
    have hnot : f ∉ S.take i := mem_take_lt hs.1 hi
    refine ⟨_, _, bd_tup (bda_cons (bd_name (lq rfl)) (bda_cons (bd_name (lq rfl)) bda_nil)) rfl, ?_⟩
    refine run_set (ed_call (d := dCat (minus (minusAll C (S.take i)) f)) (ea_cons (ed_var rfl) (ea_cons (ed_var rfl) (ea_cons (ed_var rfl) ea_nil))) ⟨(minusAll C (S.take i), f), ⟨(good_minusAll h _).1, inCat_minusAll hin hnot⟩, rfl, fun _ e => e⟩) (lq rfl) ?_
    show _ = _
    rw [take_snoc hi, minusAll_snoc]; rfl
  · subst e
    rw [List.take_length]
    refine run_ret (P := fun d => ∃ b : Bool, (b = true ↔ GoneP C p ans S) ∧ d = .p (.bool b)) (ev_op (P1 := (· = .p (dRow ans))) (P2 := fun d => ∃ A, IsAns (minusAll C S) p A ∧ d = .p (dRows A)) (es_var rfl) (ev_call (ea_cons (ed_var rfl) (ea_cons (ed_var rfl) ea_nil)) fun ds e => by subst e; exact ⟨(minusAll C S, p), good_minusAll h S, rfl, fun _ e => e⟩).s fun u v e1 ⟨A, hA, e2⟩ => ?_) fun d ⟨b, hb, e⟩ => ⟨b, hb, by rw [e]⟩
    subst e1 e2
    intro M H u v k r1 r2 Q q
    refine od_niT (enc_row.fine ans) (enc_row.pls A) M H u v k r1 r2 Q fun z H' d f j r e => q z H' d f j r ⟨_, ?_, e⟩
    rw [enc_row.any]
    simp only [Bool.not_eq_true', decide_eq_false_iff_not]
    rw [hA.mem]
    unfold GoneP
    refine not_congr (exists_congr fun θ => ?_)
    rw [fits_minusAll]
    exact ⟨fun ⟨⟨a, b⟩, c⟩ => ⟨a, c, b⟩, fun ⟨a, c, b⟩ => ⟨⟨a, b⟩, c⟩⟩
end JQ

-- part Rh
set_option Elab.async false
set_option linter.all false
set_option maxRecDepth 100000
set_option maxHeartbeats 2000000
/-! What the defs compute (6): cuts. -/
namespace JQ
open PySem PySem.Spec PyProof.Rows L2
theorem En.e {c : Cf} {G : Gx} {te : TE} {ρ : Rho} {d : PyData} (h : En c G te ρ d) : Ed c G te ρ d := EvN.e h
def meets (W : List (List Fact)) (S : List Fact) : Bool := W.all fun w => S.any fun f => decide (f ∈ w)
def dWits (W : List (List Fact)) : PyData := .tuple (W.map dFacts)
def R_meets_all : List DV → (DV → Prop) → Prop := mkR (fun x : List (List Fact) × List Fact => x.1.length < 1000000 ∧ x.2.length < 1000000) (fun x => [.p (dWits x.1), .p (dFacts x.2)]) fun x d => d = .p (.bool (meets x.1 x.2))
theorem rn_meets_all {c : Cf} {G : Gx} {W : List (List Fact)} {S : List Fact} (h1 : W.length < 1000000) (h2 : S.length < 1000000) : Run c G (t_meets_all c) (args 4 [.p (dWits W), .p (dFacts S)]) (Fin (.bool (meets W S))) :=
  fin_ret (ed_cb1 (en_lc1 W (fun w => .p (dFacts w)) (fun w => .bool (S.any fun f => decide (f ∈ w))) (src_tupE W dFacts (ed_var rfl)) h1 fun w hw => ⟨_, _, fun _ h => h, bd_name (lq rfl), ed_cb1 (en_lc1 S (fun f => .p (dFact f)) (fun f => .bool (decide (f ∈ w))) (src_tupE S dFact (ed_var rfl)) h2 fun f hf => ⟨_, _, fun _ h => h, bd_name (lq rfl), Ed.is (ed_op (es_var rfl) (es_var rfl) (od_inT (ds := w.map dFact) (enc_fact.fine f) (enc_fact.pls w))) (by rw [enc_fact.any])⟩).s cb_anyF⟩).s cb_allF)
/-- all the facts, ascending -/
def Fs (W : List (List Fact)) : List Fact := srt dFact (dd [] W.flatten)
theorem mem_Fs {W : List (List Fact)} {f : Fact} : f ∈ Fs W ↔ ∃ w ∈ W, f ∈ w := by
  unfold Fs
  rw [(srt_perm ..).mem_iff, mem_dd, List.mem_flatten]
  simp
theorem asc_Fs (W : List (List Fact)) : Asc dFact (Fs W) := srt_asc enc_fact (nd_dd List.nodup_nil)
theorem sort_facts (l : List Fact) : PySem.W.Sortable (l.map dFact) := .inl fun d hd => by
  obtain ⟨f, _, rfl⟩ := List.mem_map.mp hd
  exact ⟨_, _, rfl⟩
def R_facts_in : List DV → (DV → Prop) → Prop := mkR (fun W : List (List Fact) => W.flatten.length < 1000000) (fun W => [.p (dWits W)]) fun W d => d = .p (.list ((Fs W).map dFact))
theorem rn_facts_in {c : Cf} {G : Gx} {W : List (List Fact)} (h : W.flatten.length < 1000000) : Run c G (t_facts_in c) (args 4 [.p (dWits W)]) (Fin (.list ((Fs W).map dFact))) := by
  refine run_seq (run_asgN evn_ksnew (lq rfl) fun d e => ?_)
  subst e
  refine run_seq (run_forTE (l := W) (e := dFacts) [2, 3] (fun i ρ' => ρ' = [.fz (.p (dWits W)), .ow (.ks ((dd [] (W.take i).flatten).map dFact)), .no, .no]) (ed_var rfl) rfl (fun i w ρ' hi e => ?_) fun ρ' e => ?_)
  · subst e
    have hl : (W.take i).flatten.length + w.length < 1000000 := by
      have : (W.take (i + 1)).flatten.length ≤ W.flatten.length := by
        have a : W.flatten = (W.take (i + 1)).flatten ++ (W.drop (i + 1)).flatten := by rw [← List.flatten_append, List.take_append_drop]
        rw [a, List.length_append]; omega
      rw [take_snoc hi, List.flatten_append, List.length_append] at this
      simp only [List.flatten_cons, List.flatten_nil, List.append_nil] at this
      omega
    refine ⟨_, _, bd_name (lq rfl), ?_⟩
    refine run_forTE (l := w) (e := dFact) [3] (fun j ρ' => ρ' = [.fz (.p (dWits W)), .ow (.ks ((dd (dd [] (W.take i).flatten) (w.take j)).map dFact)), .fz (.p (dFacts w)), .no]) (ed_var rfl) rfl (fun j f ρ' hj e => ?_) fun ρ' e => ?_
    · subst e
      have a1 := len_dd (acc := ([] : List Fact)) (vs := (W.take i).flatten)
      have a2 := len_dd (acc := dd [] (W.take i).flatten) (vs := w.take j)
      rw [List.length_take] at a2
      rw [List.length_nil] at a1
      refine ⟨_, _, bd_name (lq rfl), run_ksput (ds := [.str f.1, dRow f.2]) rfl ed_bool (ed_var rfl) (enc_fact.key f) (fun e he => ?_) (by rw [List.length_map, sizeLine_eq]; omega) ?_⟩
      · obtain ⟨g, _, rfl⟩ := List.mem_map.mp he
        exact enc_fact.key g
      · show _ = _
        rw [take_snoc hj, dd_snoc]
        exact congrArg (fun l => ([.fz (.p (dWits W)), .ow (.ks l), .fz (.p (dFacts w)), .no] : Rho)) (ksPut_map enc_fact _ f)
    · subst e
      show _ = _
      rw [take_snoc hi, List.flatten_append, dd_app, List.take_length]
      simp only [List.flatten_cons, List.flatten_nil, List.append_nil]; rfl
  · subst e
    rw [List.take_length]
    refine fin_ret (En.e (En.is (en_cb1 (evs_own rfl) (cb_sortKs (enc_fact.alls _) (.inl (sort_facts _)) fun d hd => ?_)) ?_))
    · obtain ⟨f, _, rfl⟩ := List.mem_map.mp hd
      exact ⟨(enc_fact.fine f).2, enc_fact.nn f⟩
    · rw [map_sort]; rfl
/-! ### choices -/
def chs {α : Type} : List α → Nat → List (List α)
  | _, 0 => [[]]
  | [], _ + 1 => []
  | x :: l, n + 1 => (chs l n).map (x :: ·) ++ chs l (n + 1)
theorem chs_len {α : Type} : ∀ (l : List α) (n : Nat), (chs l n).length ≤ 2 ^ l.length
  | l, 0 => by rw [chs]; exact Nat.one_le_two_pow
  | [], _ + 1 => Nat.zero_le _
  | x :: l, n + 1 => by
    have h1 := chs_len l n
    have h2 := chs_len l (n + 1)
    rw [chs, List.length_append, List.length_map, List.length_cons, Nat.pow_succ]; omega
theorem chs_mem {α : Type} : ∀ {l : List α} {n : Nat} {S : List α}, S ∈ chs l n ↔ S.Sublist l ∧ S.length = n
  | l, 0, S => by
    rw [chs, List.mem_singleton]
    exact ⟨fun e => by subst e; exact ⟨List.nil_sublist _, rfl⟩, fun h => List.eq_nil_of_length_eq_zero h.2⟩
  | [], n + 1, S => by
    rw [chs]
    refine ⟨fun h => (nomatch h), fun ⟨h1, h2⟩ => ?_⟩
    rw [List.sublist_nil.mp h1] at h2; cases h2
  | x :: l, n + 1, S => by
    rw [chs, List.mem_append, List.mem_map, chs_mem (l := l) (n := n + 1), List.sublist_cons_iff]
    constructor
    · rintro (⟨T, hT, rfl⟩ | ⟨h1, h2⟩)
      · obtain ⟨a, b⟩ := chs_mem.mp hT
        exact ⟨.inr ⟨T, rfl, a⟩, by rw [List.length_cons, b]⟩
      · exact ⟨.inl h1, h2⟩
    · rintro ⟨h1 | ⟨T, rfl, h1⟩, h2⟩
      · exact .inr ⟨h1, h2⟩
      · exact .inl ⟨T, chs_mem.mpr ⟨h1, Nat.succ.inj h2⟩, rfl⟩
def R_ch (n : Nat) : List DV → (DV → Prop) → Prop := mkR (fun x : List Fact × Nat => x.2 < n ∧ x.1.length ≤ 15) (fun x => [.p (.list (x.1.map dFact)), .p (.int (x.2 : Int))]) fun x d => d = .p (.list ((chs x.1 x.2).map dFacts))
theorem rn_choices {c : Cf} {G : Gx} {n : Nat} {l : List Fact} {m : Nat} (hm : m < n + 1) (hl : l.length ≤ 15) : Run c G (t_choices c (R_ch n)) (args 5 [.p (.list (l.map dFact)), .p (.int (m : Int))]) (Fin (.list ((chs l m).map dFacts))) := by
  have big : ∀ (l : List Fact) k, l.length ≤ 15 → (chs l k).length ≤ 32768 := fun l k h => Nat.le_trans (chs_len l k) (Nat.pow_le_pow_right (n := 2) (by decide) h)
  cases m with
  | zero =>
    refine run_seq (run_if (b := true) (Et.is (et_test (ed_op (es_var rfl) ed_int.s (od_eq (int_fine _) rfl)).s) rfl) (fun _ => run_retD (en_lst (ea_cons (ed_tup ea_nil) ea_nil)).e ?_) fun h => nomatch h)
    show _ = _
    cases l <;> rfl
  | succ m =>
    have e0 : PyData.eqv (.int ((m + 1 : Nat) : Int)) (.int 0) = false := by rw [enc_int.eqB]; exact decide_eq_false (by omega)
    let S : List (List Fact) → Rho := fun F => [.fz (.p (.list (l.map dFact))), .fz (.p (.int ((m + 1 : Nat) : Int))), .ow (.p (.list (F.map dFacts))), .no, .no]
    refine run_seq (run_if (b := false) (Et.is (et_test (ed_op (es_var rfl) ed_int.s (od_eq (int_fine _) rfl)).s) e0) (fun h => nomatch h) fun _ => run_next ?_)
    refine run_seq (run_own (en_lst ea_nil) (lq rfl) ?_)
    refine run_seq (run_forR (n := l.length) [3, 4] (fun i ρ' => ∃ F, ρ' = S F ∧ F ++ chs (l.drop i) (m + 1) = chs l (m + 1)) (ed_cb1 (es_var rfl) cb_lenLE).s (by omega) ⟨[], rfl, rfl⟩ (fun i ρ' hi ⟨F, e, ef⟩ => ?_) fun ρ' ⟨F, e, ef⟩ => ?_)
    · subst e
      have hx := List.getElem?_eq_getElem hi
      have ed : l.drop i = l[i] :: l.drop (i + 1) := List.drop_eq_getElem_cons hi
      generalize l[i] = x at hx ed
      have hdl : (l.drop (i + 1)).length ≤ 15 := by rw [List.length_drop]; omega
      rw [ed, chs, ← List.append_assoc] at ef
      have hlen : F.length + (chs (l.drop (i + 1)) m).length ≤ 32768 := by
        have := big l (m + 1) hl
        rw [← ef, List.length_append, List.length_append, List.length_map] at this
        omega
      have e1 : ((i : Int) + 1) = ((i + 1 : Nat) : Int) := by omega
      have e2 : (((m + 1 : Nat) : Int) - 1) = (m : Int) := by omega
      refine ⟨_, _, bd_name (lq rfl), ?_⟩
      refine run_forLE (l := chs (l.drop (i + 1)) m) (e := dFacts) [4] (fun j ρ' => ρ' = [.fz (.p (.list (l.map dFact))), .fz (.p (.int ((m + 1 : Nat) : Int))), .ow (.p (.list ((F ++ ((chs (l.drop (i + 1)) m).take j).map (x :: ·)).map dFacts))), .fz (.p (.int (i : Int))), .no])
        (ed_call (ea_cons (Ed.is (En.e (en_slL (es_var rfl) (eo_some (Ed.is (ed_op (es_var rfl) ed_int.s od_add) (congrArg PyData.int e1)).s) eo_none)) (show PyData.list (cutD (l.map dFact) (some ((i + 1 : Nat) : Int)) none) = PyData.list ((l.drop (i + 1)).map dFact) by rw [cut_from, List.map_drop])) (ea_cons (Ed.is (ed_op (es_var rfl) ed_int.s od_sub) (congrArg PyData.int e2)) ea_nil)) ⟨(l.drop (i + 1), m), ⟨by show m < n; omega, hdl⟩, rfl, fun _ e => e⟩)
        (by rw [List.take_zero, List.map_nil, List.append_nil]; rfl) (fun j T ρ' hj e => ?_) fun ρ' e => ?_
      · subst e
        have jl : j < (chs (l.drop (i + 1)) m).length := (List.getElem?_eq_some_iff.mp hj).1
        have hT := (chs_mem.mp (List.mem_of_getElem? hj))
        have hTl : T.length ≤ 15 := Nat.le_trans hT.1.length_le hdl
        refine ⟨_, _, bd_name (lq rfl), run_app rfl (ed_op (ed_tup (ea_cons (ed_op (es_var rfl) (es_var rfl) (od_ixL (atE hx))) ea_nil)).s (es_var rfl) (od_catT ?_)) ?_ ?_⟩
        · rw [List.length_map]; exact sl3 (by show 1 + T.length ≤ 100; omega)
        · rw [List.length_map, List.length_append, List.length_map, List.length_take, sizeLine_eq]; omega
        · show _ = _
          rw [take_snoc hj]
          refine congrArg (fun z => ([.fz (.p (.list (l.map dFact))), .fz (.p (.int ((m + 1 : Nat) : Int))), .ow (.p (.list z)), .fz (.p (.int (i : Int))), .no] : Rho)) ?_
          simp only [List.map_append, List.map_cons, List.map_nil, List.append_assoc]; rfl
      · subst e
        rw [List.take_length]
        exact ⟨_, rfl, ef⟩
    · subst e
      rw [List.drop_length, chs, List.append_nil] at ef
      subst ef
      exact run_retO rfl rfl
end JQ

-- part Ri
set_option Elab.async false
set_option linter.all false
set_option maxRecDepth 100000
set_option maxHeartbeats 2000000
/-! What the defs compute (7): the least cut; a cut checked. -/
namespace JQ
open PySem PySem.Spec PyProof.Rows L2
def catFacts (C : Cat) : List Fact := C.flatMap fun t => t.2.2.map fun r => (t.1, r)
theorem mem_catFacts {C : Cat} {f : Fact} : f ∈ catFacts C ↔ inCat C f := by
  unfold catFacts inCat
  rw [List.mem_flatMap]
  constructor
  · rintro ⟨t, ht, h⟩
    obtain ⟨r, hr, e⟩ := List.mem_map.mp h
    subst e
    exact ⟨t, ht, rfl, hr⟩
  · rintro ⟨t, ht, e, hr⟩
    exact ⟨t, ht, List.mem_map.mpr ⟨f.2, hr, Prod.ext e rfl⟩⟩
theorem catFacts_len {C : Cat} (h : GCat C) : (catFacts C).length ≤ 15 := by
  have key : ∀ l : List Tab, (∀ t ∈ l, t.2.2.length ≤ 5) → (l.flatMap fun t => t.2.2.map fun r => ((t.1, r) : Fact)).length ≤ 5 * l.length := by
    intro l
    induction l with
    | nil => intro _; exact Nat.le_refl _
    | cons t l ih =>
      intro hh
      have h1 := ih fun u hu => hh u (List.mem_cons_of_mem _ hu)
      have h2 := hh t (List.mem_cons_self ..)
      rw [List.flatMap_cons, List.length_append, List.length_map, List.length_cons]; omega
  have h1 := key C fun t ht => (h.tabs t ht).few
  have h2 := h.few
  unfold catFacts
  omega
theorem okFacts.len {C : Cat} {S : List Fact} (g : GCat C) (h : okFacts C S) : S.length ≤ 15 :=
  Nat.le_trans (h.1.length_le_of_subset fun f hf => mem_catFacts.mpr (h.2 f hf)) (catFacts_len g)
theorem fact_in {C : Cat} {p : Pat} {θ : Str → Int} (h : Good (C, p)) (hf : Fits C p θ) {f : Fact} (hm : f ∈ factsOf p θ) : inCat C f := by
  obtain ⟨a, ha, e⟩ := List.mem_map.mp hm
  subst e
  obtain ⟨t, ht, et, _⟩ := h.2.at_.tab a ha
  have := hf a ha
  rw [← et, tbl_of h.1 ht] at this
  exact ⟨t, ht, et, this⟩
/-- the answer stands -/
def Hits (C : Cat) (p : Pat) (ans : Row) (θ : Str → Int) : Prop := Fits C p θ ∧ p.1.map θ = ans
structure IsWit (C : Cat) (p : Pat) (ans : Row) (W : List (List Fact)) : Prop where
  snd : ∀ w ∈ W, ∃ θ, Hits C p ans θ ∧ ∀ f, f ∈ w ↔ f ∈ factsOf p θ
  all : ∀ θ, Hits C p ans θ → ∃ w ∈ W, ∀ f, f ∈ w ↔ f ∈ factsOf p θ
  few : W.length ≤ 1000
  len : ∀ w ∈ W, w.length ≤ 3
theorem IsWit.flat {C : Cat} {p : Pat} {ans : Row} {W : List (List Fact)} (h : IsWit C p ans W) : W.flatten.length ≤ 3000 := by
  have key : ∀ l : List (List Fact), (∀ w ∈ l, w.length ≤ 3) → l.flatten.length ≤ 3 * l.length := by
    intro l
    induction l with
    | nil => intro _; exact Nat.le_refl _
    | cons t l ih =>
      intro hh
      have h1 := ih fun u hu => hh u (List.mem_cons_of_mem _ hu)
      have h2 := hh t (List.mem_cons_self ..)
      rw [List.flatten_cons, List.length_append, List.length_cons]; omega
  have := key W h.len
  have := h.few
  omega
theorem IsWit.okF {C : Cat} {p : Pat} {ans : Row} {W : List (List Fact)} (g : Good (C, p)) (h : IsWit C p ans W) : okFacts C (Fs W) := ⟨asc_nd (asc_Fs W), fun f hf => by
  obtain ⟨w, hw, hf⟩ := mem_Fs.mp hf
  obtain ⟨θ, ⟨h1, _⟩, h2⟩ := h.snd w hw
  exact fact_in g h1 ((h2 f).mp hf)⟩
theorem IsWit.ne {C : Cat} {p : Pat} {ans : Row} {W : List (List Fact)} (g : Good (C, p)) (h : IsWit C p ans W) {w : List Fact} (hw : w ∈ W) : ∃ f, f ∈ w := by
  obtain ⟨θ, _, h2⟩ := h.snd w hw
  obtain ⟨a, ha⟩ := List.exists_mem_of_ne_nil _ g.2.at_.ne
  exact ⟨(a.1, a.2.map θ), (h2 _).mpr (List.mem_map_of_mem ha)⟩
theorem meets_all_of {W : List (List Fact)} (h : ∀ w ∈ W, ∃ f, f ∈ w) : meets W (Fs W) = true := by
  unfold meets
  rw [List.all_eq_true]
  intro w hw
  obtain ⟨f, hf⟩ := h w hw
  exact List.any_eq_true.mpr ⟨f, mem_Fs.mpr ⟨w, hw, hf⟩, decide_eq_true hf⟩
/-- S is the first of its size that meets all, and no smaller one does -/
def isCut (W : List (List Fact)) (S : List Fact) : Prop := 1 ≤ S.length ∧ meets W S = true ∧ (∃ pre post, chs (Fs W) S.length = pre ++ S :: post ∧ ∀ T ∈ pre, meets W T = false) ∧ ∀ j, 1 ≤ j → j < S.length → ∀ T ∈ chs (Fs W) j, meets W T = false
def R_witnesses : List DV → (DV → Prop) → Prop := mkR (fun x : (Cat × Pat) × Row => Good x.1 ∧ ∃ θ, Hits x.1.1 x.1.2 x.2 θ) (fun x => [.p (dCat x.1.1), nPat x.1.2, .p (dRow x.2)]) fun x d => ∃ W, IsWit x.1.1 x.1.2 x.2 W ∧ d = .p (dWits W)
def R_least_cut : List DV → (DV → Prop) → Prop := mkR (fun x : (Cat × Pat) × Row => Good x.1 ∧ ∃ θ, Hits x.1.1 x.1.2 x.2 θ) (fun x => [.p (dCat x.1.1), nPat x.1.2, .p (dRow x.2)]) fun x d => ∃ W S, IsWit x.1.1 x.1.2 x.2 W ∧ isCut W S ∧ d = .p (dFacts S)
theorem rn_least_cut {c : Cf} {G : Gx} {C : Cat} {p : Pat} {ans : Row} (h : Good (C, p)) (hh : ∃ θ, Hits C p ans θ) : Run c G (t_least_cut c R_witnesses R_facts_in (R_ch 19) R_meets_all) (args 7 [.p (dCat C), nPat p, .p (dRow ans)]) (fun o => ∃ W S, IsWit C p ans W ∧ isCut W S ∧ o = .rt (.p (dFacts S))) := by
  refine run_seq (run_asg (P := fun d => ∃ W, IsWit C p ans W ∧ d = .p (dWits W)) (ev_call (eva_cons1 (ev_var rfl) (eva_cons1 (ev_var rfl) (eva_cons1 (ev_var rfl) eva_nil))) fun ds e => by subst e; exact ⟨((C, p), ans), ⟨h, hh⟩, rfl, fun _ e => e⟩) (lq rfl) fun d ⟨W, hW, e⟩ => ?_)
  subst e
  have hfl := hW.flat
  have hF := (hW.okF h).len h.1
  have hWl := hW.few
  have hWne : W ≠ [] := by
    obtain ⟨θ, hθ⟩ := hh
    obtain ⟨w, hw, _⟩ := hW.all θ hθ
    exact List.ne_nil_of_mem hw
  have hm : meets W (Fs W) = true := meets_all_of fun w hw => hW.ne h hw
  have hF1 : 1 ≤ (Fs W).length := by
    obtain ⟨w, hw⟩ := List.exists_mem_of_ne_nil _ hWne
    obtain ⟨f, hf⟩ := hW.ne h hw
    exact List.length_pos_of_mem (mem_Fs.mpr ⟨w, hw, hf⟩)
  refine run_seq (run_set (ed_call (d := .list ((Fs W).map dFact)) (ea_cons (ed_var rfl) ea_nil) ⟨W, by omega, rfl, fun _ e => e⟩) (lq rfl) ?_)
  refine run_seq (run_if (b := false) (Et.is (et_test (ed_op (ed_cb1 (es_var rfl) cb_lenLE).s ed_int.s od_gt).s) (decide_eq_false (by omega))) (fun h => nomatch h) fun _ => run_next ?_)
  refine run_seq (run_set ed_int (lq rfl) ?_)
  let S0 : Nat → Rho := fun k => [.fz (.p (dCat C)), .fz (nPat p), .fz (.p (dRow ans)), .fz (.p (dWits W)), .fz (.p (.list ((Fs W).map dFact))), .fz (.p (.int (k : Int))), .no]
  refine run_while [6] (fun m ρ' => ∃ k, ρ' = S0 k ∧ 1 ≤ k ∧ k + m = (Fs W).length ∧ ∀ j, 1 ≤ j → j < k → ∀ T ∈ chs (Fs W) j, meets W T = false) ((Fs W).length - 1) ⟨1, rfl, Nat.le_refl _, by omega, fun j h1 h2 => by omega⟩ fun m ρ' ⟨k, e, hk1, hkm, hj⟩ => ?_
  subst e
  refine ⟨true, et_B ed_bool.s, fun _ => ?_, fun z => nomatch z⟩
  refine run_seq (run_forLE (l := chs (Fs W) k) (e := dFacts) [6] (fun i ρ' => ρ' = S0 k ∧ ∀ T ∈ (chs (Fs W) k).take i, meets W T = false) (ed_call (ea_cons (ed_var rfl) (ea_cons (ed_var rfl) ea_nil)) ⟨(Fs W, k), ⟨by show k < 19; omega, hF⟩, rfl, fun _ e => e⟩) ⟨rfl, fun T hT => by simp at hT⟩ (fun i T ρ' hi ⟨e, hall⟩ => ?_) fun ρ' ⟨e, hall⟩ => ?_)
  · subst e
    obtain ⟨hTs, hTl⟩ := chs_mem.mp (List.mem_of_getElem? hi)
    refine ⟨_, _, bd_name (lq rfl), run_if (b := meets W T) (et_B (ed_call (ea_cons (ed_var rfl) (ea_cons (ed_var rfl) ea_nil)) ⟨(W, T), ⟨by show W.length < 1000000; omega, by show T.length < 1000000; omega⟩, rfl, fun _ e => e⟩).s) (fun hb => run_retD (ed_var rfl) ?_) fun hb => run_next ?_⟩
    · show ∃ W S, _
      refine ⟨W, T, hW, ⟨by omega, hb, ⟨(chs (Fs W) k).take i, (chs (Fs W) k).drop (i + 1), ?_, hall⟩, by rw [hTl]; exact hj⟩, rfl⟩
      rw [hTl]
      obtain ⟨hl, eT⟩ := List.getElem?_eq_some_iff.mp hi
      rw [← eT, ← List.drop_eq_getElem_cons, List.take_append_drop]
    · refine ⟨rfl, fun U hU => ?_⟩
      rw [take_snoc hi] at hU
      rcases List.mem_append.mp hU with z | z
      · exact hall U z
      · rw [List.mem_singleton.mp z]; exact hb
  · subst e
    rw [List.take_length] at hall
    have hne : k ≠ (Fs W).length := fun e => by
      have := hall (Fs W) (chs_mem.mpr ⟨List.Sublist.refl _, e.symm⟩)
      rw [hm] at this; cases this
    have e2 : ((k : Int) + 1) = ((k + 1 : Nat) : Int) := by omega
    refine run_set (Ed.is (ed_op (es_var rfl) ed_int.s od_add) (congrArg PyData.int e2)) (lq rfl) ?_
    refine ⟨m - 1, by omega, k + 1, rfl, by omega, by omega, fun j h1 h2 T hT => ?_⟩
    rcases Nat.lt_or_ge j k with z | z
    · exact hj j h1 z T hT
    · have : j = k := by omega
      subst this
      exact hall T hT
/-- the fact stands in the catalogue -/
def inB (C : Cat) (f : Fact) : Bool := decide (f.1 ∈ C.map (·.1)) && decide (f.2 ∈ tbl C f.1)
theorem inB_iff {C : Cat} (g : GCat C) {f : Fact} : inB C f = true ↔ inCat C f := by
  unfold inB inCat
  rw [Bool.and_eq_true, decide_eq_true_eq, decide_eq_true_eq]
  constructor
  · rintro ⟨h1, h2⟩
    obtain ⟨t, ht, e⟩ := List.mem_map.mp h1
    rw [← e, tbl_of g ht] at h2
    exact ⟨t, ht, e, h2⟩
  · rintro ⟨t, ht, e, h⟩
    refine ⟨List.mem_map.mpr ⟨t, ht, e⟩, ?_⟩
    rw [← e, tbl_of g ht]; exact h
def R_check_cut : List DV → (DV → Prop) → Prop := mkR (fun x : ((Cat × Pat) × Row) × List Fact => (Good x.1.1 ∧ ∃ θ, Hits x.1.1.1 x.1.1.2 x.1.2 θ) ∧ x.2.length ≤ 1000) (fun x => [.p (dCat x.1.1.1), nPat x.1.1.2, .p (dRow x.1.2), .p (dFacts x.2)])
  fun x d => ∃ W, IsWit x.1.1.1 x.1.1.2 x.1.2 W ∧ d = .p (.bool (ascB (x.2.map dFact) && x.2.all (inB x.1.1.1) && meets W x.2))
theorem rn_check_cut {c : Cf} {G : Gx} {C : Cat} {p : Pat} {ans : Row} {S : List Fact} (h : Good (C, p)) (hh : ∃ θ, Hits C p ans θ) (hS : S.length ≤ 1000) : Run c G (t_check_cut c R_witnesses R_ascend R_table_at R_meets_all) (args 10 [.p (dCat C), nPat p, .p (dRow ans), .p (dFacts S)]) (fun o => ∃ W, IsWit C p ans W ∧ o = .rt (.p (.bool (ascB (S.map dFact) && S.all (inB C) && meets W S)))) := by
  have g : GCat C := h.1
  have hf : C.length ≤ 3 := g.few
  refine run_seq (run_asg (P := fun d => ∃ W, IsWit C p ans W ∧ d = .p (dWits W)) (ev_call (eva_cons1 (ev_var rfl) (eva_cons1 (ev_var rfl) (eva_cons1 (ev_var rfl) eva_nil))) fun ds e => by subst e; exact ⟨((C, p), ans), ⟨h, hh⟩, rfl, fun _ e => e⟩) (lq rfl) fun d ⟨W, hW, e⟩ => ?_)
  subst e
  have hWl := hW.few
  refine run_seq (run_set (Ed.is (En.e (en_lc1 C (fun t => .p (dTab t)) (fun t => .str t.1) (src_tupE C dTab (ed_var rfl)) (by omega) fun t ht => ⟨_, _, ?_, bd_tup (bda_cons (bd_name (lq rfl)) (bda_cons (bd_name (lq rfl)) (bda_cons (bd_name (lq rfl)) bda_nil))) rfl, ed_var rfl⟩)) (show _ = PyData.list ((C.map (·.1)).map .str) by rw [List.map_map]; rfl)) (lq rfl) ?_)
  · intro k hk; exact hk
  refine run_seq (run_if (b := !ascB (S.map dFact) || !S.all (inB C)) (et_or (et_not (et_B (ed_call (d := .bool (ascB (S.map dFact))) (ea_cons (ed_var rfl) ea_nil) ⟨(false, S.map dFact), enc_fact.asc (by omega), rfl, fun _ e => e⟩).s)) fun _ => et_not (et_B (ed_cb1 (en_lc1 S (fun f => .p (dFact f)) (fun f => .bool (inB C f)) (src_tupE S dFact (ed_var rfl)) (by omega) fun f hf => ⟨_, _, ?_, bd_tup (bda_cons (bd_name (lq rfl)) (bda_cons (bd_name (lq rfl)) bda_nil)) rfl, ?_⟩).s cb_allF).s)) (fun hb => run_retD ed_bool ?_) fun hb => run_next ?_)
  · intro k hk; exact hk
  · refine ed_andV (Es.is (ed_op (es_var rfl) (es_var rfl) (od_inL (ds := (C.map (·.1)).map .str) (str_fine _) (enc_str.pls _))).s (by rw [enc_str.any])) fun hb => ?_
    obtain ⟨t, ht, et⟩ := List.mem_map.mp (of_decide_eq_true hb)
    obtain ⟨n, r⟩ := f
    have et : t.1 = n := et
    subst et
    exact Ed.is (ed_op (es_var rfl) (ed_op (ed_call (d := dTab t) (ea_cons (ed_var rfl) (ea_cons (ed_var rfl) ea_nil)) ⟨(C, t), ⟨g, ht⟩, rfl, fun _ e => e⟩).s ed_int.s (od_ixT rfl)).s (od_inT (ds := t.2.2.map dRow) (enc_row.fine _) (enc_row.pls _))) (by rw [enc_row.any, tbl_of g ht])
  · refine ⟨W, hW, ?_⟩
    have : (ascB (S.map dFact) && S.all (inB C)) = false := by
      cases z1 : ascB (S.map dFact) <;> cases z2 : S.all (inB C) <;> simp_all
    rw [this]; rfl
  · have : (ascB (S.map dFact) && S.all (inB C)) = true := by
      cases z1 : ascB (S.map dFact) <;> cases z2 : S.all (inB C) <;> simp_all
    refine run_ret (P := (· = .p (.bool (meets W S)))) (ed_call (ea_cons (ed_var rfl) (ea_cons (ed_var rfl) ea_nil)) ⟨(W, S), ⟨by show W.length < 1000000; omega, by show S.length < 1000000; omega⟩, rfl, fun _ e => e⟩) fun d e => ⟨W, hW, ?_⟩
    rw [e, this]; rfl
end JQ

-- part Rj
set_option Elab.async false
set_option linter.all false
set_option maxRecDepth 100000
set_option maxHeartbeats 2000000
/-! What the law's own defs compute (1). -/
namespace JQ
open PySem PySem.Spec PyProof.Rows L2
def R__law_table : List DV → (DV → Prop) → Prop := mkR (fun x : Cat × Tab => GCat x.1 ∧ x.2 ∈ x.1) (fun x => [.p (dCat x.1), .p (.str x.2.1)]) fun x d => d = .p (dTab x.2)
theorem rn__law_table {c : Cf} {G : Gx} {C : Cat} {t : Tab} (h : GCat C) (ht : t ∈ C) : Run c G (t__law_table c) (args 3 [.p (dCat C), .p (.str t.1)]) (Fin (dTab t)) := by
  obtain ⟨k, hk⟩ := okAt.of h ht
  have hkl := hk.lt
  refine run_seq (run_forTE (l := C) (e := dTab) [2] (fun i ρ' => i ≤ k ∧ ρ' = args 3 [.p (dCat C), .p (.str t.1)]) (ed_var rfl) ⟨Nat.zero_le _, rfl⟩ (fun i u ρ' hi ⟨hik, e⟩ => ?_) fun ρ' ⟨hik, e⟩ => absurd hik (by omega))
  subst e
  refine ⟨_, _, bd_name (lq rfl), run_if (b := decide (u.1 = t.1)) (Et.is (et_test (ed_op (ed_op (es_var rfl) ed_int.s (od_ixT rfl)).s (es_var rfl) (od_eq (str_fine _) rfl)).s) (enc_str.eqB _ _)) (fun e => ?_) fun e => run_next ?_⟩
  · rw [name_one h (List.mem_of_getElem? hi) ht (of_decide_eq_true e)]
    exact run_retD (ed_var rfl) rfl
  · have e := of_decide_eq_false e
    refine ⟨?_, rfl⟩
    rcases Nat.lt_or_ge i k with x | x
    · exact x
    · have : i = k := by omega
      subst this
      rw [hk.2] at hi; cases hi
      exact absurd rfl e
/-! ### variables -/
theorem dd_filter (found inner : List Str) : ∀ i, i ≤ inner.length → found ++ ((List.range i).filter fun k => !decide (inner.getD k "" ∈ found) && !decide (inner.getD k "" ∈ inner.take k)).map (fun k => inner.getD k "") = dd found (inner.take i) := by
  intro i
  induction i with
  | zero => intro _; simp [dd]
  | succ i ih =>
    intro hi
    have hx : inner[i]? = some (inner.getD i "") := by rw [List.getD_eq_getElem?_getD, List.getElem?_eq_getElem (by omega)]; rfl
    rw [take_snoc hx, dd_snoc, ← ih (by omega), List.range_succ, List.filter_append, List.map_append]
    unfold add1
    rw [ih (by omega)]
    by_cases h : inner.getD i "" ∈ dd found (inner.take i)
    · rw [if_pos h]
      rw [mem_dd] at h
      have : (!decide (inner.getD i "" ∈ found) && !decide (inner.getD i "" ∈ inner.take i)) = false := by
        rcases h with h | h
        · rw [decide_eq_true h]; rfl
        · rw [decide_eq_true (p := inner.getD i "" ∈ inner.take i) h, Bool.and_comm]; rfl
      rw [List.filter_cons, if_neg (by rw [this]; decide), List.filter_nil, List.map_nil, List.append_nil, ih (by omega)]
    · rw [if_neg h]
      rw [mem_dd, not_or] at h
      have : (!decide (inner.getD i "" ∈ found) && !decide (inner.getD i "" ∈ inner.take i)) = true := by simp only [h.1, h.2, decide_false]; rfl
      rw [List.filter_cons, if_pos this, List.filter_nil, List.map_cons, List.map_nil, ← List.append_assoc, ih (by omega)]
def R__law_variables : List DV → (DV → Prop) → Prop := mkR Good (fun x => [.p (dPat x.2)]) fun x d => d = .tN (varsOf x.2)
theorem rn__law_variables {c : Cf} {G : Gx} {C : Cat} {p : Pat} (h : Good (C, p)) : Run c G (t__law_variables c) (args 5 [.p (dPat p)]) (fun o => o = .rt (.tN (varsOf p))) := by
  have hall := h.all
  refine run_seq (run_own (en_lst ea_nil) (lq rfl) ?_)
  refine run_seq (run_forTE (l := p.2) (e := dAtom) [2, 3, 4] (fun i ρ' => ρ' = [.fz (.p (dPat p)), .ow (.p (.list ((dd [] ((p.2.take i).flatMap (·.2))).map .str))), .no, .no, .no]) (ed_op (es_var rfl) ed_int.s (od_ixT rfl)) rfl (fun i a ρ' hi e => ?_) fun ρ' e => ?_)
  · subst e
    obtain ⟨n, vs⟩ := a
    have hv4 : vs.length ≤ 4 := (h.2.at_.okA h.1 (List.mem_of_getElem? hi)).2.2
    let acc := dd [] ((p.2.take i).flatMap (·.2))
    have e2 : dd [] ((p.2.take (i + 1)).flatMap (·.2)) = dd acc vs := by
      rw [take_snoc hi, List.flatMap_append, dd_app]; simp [acc]
    have hacc : acc.length ≤ 12 := by
      have a1 := len_dd (acc := ([] : List Str)) (vs := (p.2.take i).flatMap (·.2))
      have a2 : (p.2.take i).flatMap (·.2) <+: p.2.flatMap (·.2) := ⟨(p.2.drop i).flatMap (·.2), by rw [← List.flatMap_append, List.take_append_drop]⟩
      have a3 := a2.length_le
      have a4 : (p.2.flatMap (·.2)).length ≤ 12 := hall
      rw [List.length_nil] at a1
      show (dd [] _).length ≤ 12
      omega
    have key := dd_filter acc vs vs.length (Nat.le_refl _)
    rw [List.take_length] at key
    refine ⟨_, _, bd_tup (bda_cons (bd_name (lq rfl)) (bda_cons (bd_name (lq rfl)) bda_nil)) rfl, ?_⟩
    refine run_own (en_cat rfl (en_lc (List.range vs.length) (fun k => .p (.int (k : Int))) (fun k => !decide (vs.getD k "" ∈ acc) && !decide (vs.getD k "" ∈ vs.take k)) (fun k => .str (vs.getD k "")) (src_range (ed_cb1 (es_var rfl) cb_lenTE).s (by omega)) (by rw [List.length_range]; omega) fun k hk => ⟨_, _, fun _ h => h, bd_name (lq rfl), ?_, fun _ => ?_⟩) ?_) (lq rfl) ?_
    · have hk := List.mem_range.mp hk
      have e1 : vs[k]? = some (vs.getD k "") := by rw [List.getD_eq_getElem?_getD, List.getElem?_eq_getElem hk]; rfl
      have e3 : cutD (vs.map PyData.str) none (some (k : Int)) = (vs.take k).map .str := by rw [cut_to, List.map_take]
      refine et_and (Et.is (et_test (ed_op (ed_op (es_var rfl) (es_var rfl) (od_ixT (ds := vs.map .str) (atE e1))).s (evs_own rfl) (od_niL (ds := acc.map .str) (str_fine _) (enc_str.pls _))).s) (by rw [enc_str.any])) fun _ => Et.is (et_test (ed_op (ed_op (es_var rfl) (es_var rfl) (od_ixT (ds := vs.map .str) (atE e1))).s (Ed.is (ed_slT (es_var rfl) eo_none (eo_some (es_var rfl))) (congrArg PyData.tuple e3)).s (od_niT (ds := (vs.take k).map .str) (str_fine _) (enc_str.pls _))).s) (by rw [enc_str.any])
    · have hk := List.mem_range.mp hk
      have e1 : vs[k]? = some (vs.getD k "") := by rw [List.getD_eq_getElem?_getD, List.getElem?_eq_getElem hk]; rfl
      exact ed_op (es_var rfl) (es_var rfl) (od_ixT (ds := vs.map .str) (atE e1))
    · rw [List.length_map, List.length_map]
      have := List.length_filter_le (fun k => !decide (vs.getD k "" ∈ acc) && !decide (vs.getD k "" ∈ vs.take k)) (List.range vs.length)
      rw [List.length_range] at this
      exact sl3 (by show acc.length + _ ≤ 100; omega)
    · show _ = _
      rw [e2, ← key]
      refine congrArg (fun z => ([.fz (.p (dPat p)), .ow (.p (.list z)), .no, .no, .no] : Rho)) ?_
      rw [List.map_append, List.map_map]; rfl
  · subst e
    refine run_ret (ev_tupN (evs_own rfl)) fun d e => ?_
    rw [e, List.take_length]; rfl
/-! ### agreement with what is known -/
def Agrees (vs : List Str) (r : Row) (kn : Asg) : Prop := ∀ (i : Nat) (v : Str) (n x : Int), vs[i]? = some v → r[i]? = some n → getS kn v = some x → x = n
def R__law_agrees : List DV → (DV → Prop) → Prop := mkR (fun x : List Str × Row × Asg => x.1.length = x.2.1.length ∧ x.1.length ≤ 4) (fun x => [.p (dVars x.1), .p (dRow x.2.1), .dk x.2.2]) fun x d => ∃ b : Bool, (b = true → Agrees x.1 x.2.1 x.2.2) ∧ d = .p (.bool b)
theorem rn__law_agrees {c : Cf} {G : Gx} {vs : List Str} {r : Row} {kn : Asg} (h1 : vs.length = r.length) (h2 : vs.length ≤ 4) : Run c G (t__law_agrees c) (args 5 [.p (dVars vs), .p (dRow r), .dk kn]) (fun o => ∃ b : Bool, (b = true → Agrees vs r kn) ∧ o = .rt (.p (.bool b))) := by
  refine run_seq (run_asgN evn_dnew (lq rfl) fun d e => ?_)
  subst e
  refine run_seq (run_forR (n := vs.length) [4] (fun i ρ' => (∃ m : Asg, ρ' = [.fz (.p (dVars vs)), .fz (.p (dRow r)), .fz (.dk kn), .ow (.dk m), .no] ∧ m.length ≤ i) ∧ ∀ (j : Nat) (v : Str) (n x : Int), j < i → vs[j]? = some v → r[j]? = some n → getS kn v = some x → x = n) (ed_cb1 (es_var rfl) cb_lenTE).s (by omega) ⟨⟨[], rfl, Nat.le_refl _⟩, fun j v n x hj => by omega⟩ (fun i ρ' hi ⟨⟨m, e, hm⟩, hall⟩ => ?_) fun ρ' ⟨⟨m, e, hm⟩, hall⟩ => ?_)
  · subst e
    have hv := List.getElem?_eq_getElem hi
    have hr := List.getElem?_eq_getElem (show i < r.length by omega)
    generalize vs[i] = v at hv
    generalize r[i] = n at hr
    have test : ∀ (ρ : Rho) (q : Nat) (kk : Asg), EvS c G (tVar q) ρ (· = .dk kk) → Es c G (tVar 0) ρ (dVars vs) → Es c G (tVar 1) ρ (dRow r) → Es c G (tVar 4) ρ (.int (i : Int)) → Et c G (tAnd (tB (tDIn (tOp (rIx c.K) (tVar 0) (tVar 4)) (tVar q))) (tTest (tOp (rNeP c.K) (tDGet (tVar q) (tOp (rIx c.K) (tVar 0) (tVar 4))) (tOp (rIx c.K) (tVar 1) (tVar 4))))) ρ ((getS kk v).isSome && !decide ((getS kk v).getD n = n)) := fun ρ q kk hq g0 g1 g4 => by
      refine et_and (et_B (ed_din (ed_op g0 g4 (od_ixT (atE hv))).s hq).s) fun hs => ?_
      obtain ⟨x, hx⟩ := Option.isSome_iff_exists.mp hs
      refine Et.is (et_test (ed_op (ed_dget hq (ed_op g0 g4 (od_ixT (atE hv))).s hx).s (ed_op g1 g4 (od_ixT (atE hr))).s (od_ne (int_fine _) rfl)).s) ?_
      rw [hx, enc_int.eqB]; rfl
    refine ⟨_, _, bd_name (lq rfl), ?_⟩
    refine run_seq (run_if (test _ 2 kn (ev_var rfl).s (es_var rfl) (es_var rfl) (es_var rfl)) (fun _ => run_retD ed_bool ⟨false, (fun z => nomatch z), rfl⟩) fun hb => run_next ?_)
    refine run_seq (run_if (test _ 3 m (evs_own rfl) (es_var rfl) (es_var rfl) (es_var rfl)) (fun _ => run_retD ed_bool ⟨false, (fun z => nomatch z), rfl⟩) fun hb2 => run_next ?_)
    refine run_dput rfl (ed_op (es_var rfl) (es_var rfl) (od_ixT (atE hr))) (ed_op (es_var rfl) (es_var rfl) (od_ixT (atE hv))).s (by rw [sizeLine_eq]; omega) ⟨⟨putS m v n, rfl, Nat.le_trans len_putS (by omega)⟩, fun j v' n' x hj g1 g2 g3 => ?_⟩
    rcases Nat.lt_or_ge j i with z | z
    · exact hall j v' n' x z g1 g2 g3
    · have : j = i := by omega
      subst this
      rw [hv] at g1; rw [hr] at g2
      cases g1; cases g2
      rw [g3] at hb
      simpa using hb
  · subst e
    refine run_retD ed_bool ⟨true, fun _ j v n x g1 g2 g3 => hall j v n x ?_ g1 g2 g3, rfl⟩
    exact (List.getElem?_eq_some_iff.mp g1).1
end JQ

-- part Rk
set_option Elab.async false
set_option linter.all false
set_option maxRecDepth 100000
set_option maxHeartbeats 2000000
/-! What the law's own defs compute (2). -/
namespace JQ
open PySem PySem.Spec PyProof.Rows L2
theorem at_last {α : Type} {l : List α} {x : α} : atI (l ++ [x]) (-1) = some x := by
  unfold atI ixN
  rw [if_neg (by omega), List.length_append, List.length_singleton, if_pos (by omega)]
  have : ((-1 : Int) + ((l.length + 1 : Nat) : Int)).toNat = l.length := by omega
  rw [this]
  simp
theorem snoc_of {α : Type} : ∀ {l : List α}, l ≠ [] → ∃ ini g, l = ini ++ [g]
  | [], h => absurd rfl h
  | [x], _ => ⟨[], x, rfl⟩
  | x :: y :: l, _ => by
    obtain ⟨ini, g, e⟩ := snoc_of (l := y :: l) (by simp)
    exact ⟨x :: ini, g, by rw [e]; rfl⟩
/-! ### named -/
def Named (vs : List Str) (r : Row) (m : Asg) : Prop := ∀ (i : Nat) (v : Str) (n : Int), vs[i]? = some v → r[i]? = some n → getS m v = some n
theorem named_put {vs : List Str} (hnd : vs.Nodup) {r : Row} {i : Nat} {m : Asg} {v : Str} {n : Int} (hv : vs[i]? = some v) (hr : r[i]? = some n) (h : ∀ (j : Nat) (w : Str) (k : Int), j < i → vs[j]? = some w → r[j]? = some k → getS m w = some k) :
    ∀ (j : Nat) (w : Str) (k : Int), j < i + 1 → vs[j]? = some w → r[j]? = some k → getS (putS m v n) w = some k := fun j w k hj g1 g2 => by
  rw [getS_put]
  rcases Nat.lt_or_ge j i with z | z
  · have : w ≠ v := fun e => by
      subst e
      obtain ⟨l1, q1⟩ := List.getElem?_eq_some_iff.mp g1
      obtain ⟨l2, q2⟩ := List.getElem?_eq_some_iff.mp hv
      exact List.pairwise_iff_getElem.mp hnd j i l1 l2 z (q1.trans q2.symm)
    rw [if_neg this]; exact h j w k z g1 g2
  · have : j = i := by omega
    subst this
    rw [hv] at g1; rw [hr] at g2
    cases g1; cases g2
    rw [if_pos rfl]
def R__law_named : List DV → (DV → Prop) → Prop := mkR (fun x : List Str × Row => x.1.Nodup ∧ x.1.length = x.2.length ∧ x.1.length ≤ 100) (fun x => [.p (dVars x.1), .p (dRow x.2)]) fun x d => ∃ m, Named x.1 x.2 m ∧ d = .dk m
theorem rn__law_named {c : Cf} {G : Gx} {vs : List Str} {r : Row} (hnd : vs.Nodup) (h1 : vs.length = r.length) (h2 : vs.length ≤ 100) : Run c G (t__law_named c) (args 4 [.p (dVars vs), .p (dRow r)]) (fun o => ∃ m, Named vs r m ∧ o = .rt (.dk m)) := by
  refine run_seq (run_asgN evn_dnew (lq rfl) fun d e => ?_)
  subst e
  refine run_seq (run_forR (n := vs.length) [3] (fun i ρ' => ∃ m : Asg, ρ' = [.fz (.p (dVars vs)), .fz (.p (dRow r)), .ow (.dk m), .no] ∧ m.length ≤ i ∧ ∀ (j : Nat) (w : Str) (k : Int), j < i → vs[j]? = some w → r[j]? = some k → getS m w = some k) (ed_cb1 (es_var rfl) cb_lenTE).s (by omega) ⟨[], rfl, Nat.le_refl _, fun j w k hj => by omega⟩ (fun i ρ' hi ⟨m, e, hm, hall⟩ => ?_) fun ρ' ⟨m, e, hm, hall⟩ => ?_)
  · subst e
    have hv := List.getElem?_eq_getElem hi
    have hr := List.getElem?_eq_getElem (show i < r.length by omega)
    generalize vs[i] = v at hv
    generalize r[i] = n at hr
    refine ⟨_, _, bd_name (lq rfl), run_dput rfl (ed_op (es_var rfl) (es_var rfl) (od_ixT (atE hr))) (ed_op (es_var rfl) (es_var rfl) (od_ixT (atE hv))).s (by rw [sizeLine_eq]; omega) ⟨putS m v n, rfl, Nat.le_trans len_putS (by omega), named_put hnd hv hr hall⟩⟩
  · subst e
    exact run_retO (d := .dk m) rfl ⟨m, fun i v n g1 g2 => hall i v n (List.getElem?_eq_some_iff.mp g1).1 g1 g2, rfl⟩
/-! ### facts -/
def R__law_facts : List DV → (DV → Prop) → Prop := mkR (fun x : (Cat × Pat) × Asg => Good x.1 ∧ ∀ v ∈ varsOf x.1.2, ∃ n, getS x.2 v = some n) (fun x => [.p (dPat x.1.2), .dk x.2]) fun x d => d = .p (.list ((factsOf x.1.2 (val x.2)).map dFact))
theorem rn__law_facts {c : Cf} {G : Gx} {C : Cat} {p : Pat} {m : Asg} (h : Good (C, p)) (hm : ∀ v ∈ varsOf p, ∃ n, getS m v = some n) : Run c G (t__law_facts c) (args 5 [.p (dPat p), .dk m]) (Fin (.list ((factsOf p (val m)).map dFact))) := by
  have hf : p.2.length ≤ 3 := h.2.at_.few
  refine fin_ret (Ed.is (En.e (en_lc1 p.2 (fun a => .p (dAtom a)) (fun a => dFact (a.1, a.2.map (val m))) (src_tupE p.2 dAtom (ed_op (es_var rfl) ed_int.s (od_ixT rfl))) (by omega) fun a ha => ⟨_, _, ?_, bd_tup (bda_cons (bd_name (lq rfl)) (bda_cons (bd_name (lq rfl)) bda_nil)) rfl, ?_⟩)) ?_)
  · intro k hk; exact hk
  · have h4 := (h.2.at_.okA h.1 ha).2.2
    refine ed_tup (ds := [.str a.1, dRow (a.2.map (val m))]) (ea_cons (ed_var rfl) (ea_cons (Ed.is (ed_cb1 (en_lc1 a.2 (fun v => .p (.str v)) (fun v => .int (val m v)) (src_tupE a.2 .str (ed_var rfl)) (by omega) fun v hv => ⟨_, _, fun _ h => h, bd_name (lq rfl), ?_⟩).s cb_tupL) (by unfold dRow; rw [List.map_map]; rfl)) ea_nil))
    obtain ⟨n, hn⟩ := hm v (varsOf_mem.mpr ⟨a, ha, hv⟩)
    refine ed_dget (ev_var rfl).s (es_var rfl) ?_
    unfold val
    rw [hn]; rfl
  · unfold factsOf
    rw [List.map_map]; rfl
def R__law_cut : List DV → (DV → Prop) → Prop := R_least_cut
theorem rn__law_cut {c : Cf} {G : Gx} {C : Cat} {p : Pat} {ans : Row} (h : Good (C, p)) (hh : ∃ θ, Hits C p ans θ) : Run c G (t__law_cut c R_least_cut) (args 4 [.p (dCat C), nPat p, .p (dRow ans)]) (fun o => ∃ W S, IsWit C p ans W ∧ isCut W S ∧ o = .rt (.p (dFacts S))) := by
  refine run_seq ?_
  have q : Run c G (tAsg (tCall (spR c R_least_cut) [] C8.E0 (tCons (tVar 0) (tCons (tVar 1) (tCons (tVar 2) (tNil))))) (gName 3)) (args 4 [.p (dCat C), nPat p, .p (dRow ans)]) (thenR c G (tRet (tVar 3)) (fun o => ∃ W S, IsWit C p ans W ∧ isCut W S ∧ o = .rt (.p (dFacts S)))) :=
    run_asg (P := fun d => ∃ W S, IsWit C p ans W ∧ isCut W S ∧ d = .p (dFacts S)) (ev_call (eva_cons1 (ev_var rfl) (eva_cons1 (ev_var rfl) (eva_cons1 (ev_var rfl) eva_nil))) fun ds e => by subst e; exact ⟨((C, p), ans), ⟨h, hh⟩, rfl, fun _ e => e⟩) (lq rfl) fun d ⟨W, S, hW, hS, e⟩ => by
      subst e
      exact run_ret (ev_var rfl) fun d e => ⟨W, S, hW, hS, by rw [e]⟩
  exact q
/-! ### sets -/
def okSet (l : List Fact) (n : Nat) (S : List Fact) : Prop := S.length = n ∧ Asc dFact S ∧ ∀ f ∈ S, f ∈ l
def R__law_sets : List DV → (DV → Prop) → Prop := mkR (fun x : List Fact × Nat => x.1.length ≤ 15 ∧ x.2 ≤ 2) (fun x => [.p (.list (x.1.map dFact)), .p (.int (x.2 : Int))]) fun x d => ∃ Ss : List (List Fact), Ss.length ≤ 1000 ∧ (∀ S ∈ Ss, okSet x.1 x.2 S) ∧ d = .p (.list (Ss.map dFacts))
theorem rn__law_sets {c : Cf} {G : Gx} {l : List Fact} {n : Nat} (hl : l.length ≤ 15) (hn : n ≤ 2) : Run c G (t__law_sets c) (args 7 [.p (.list (l.map dFact)), .p (.int (n : Int))]) (fun o => ∃ Ss : List (List Fact), Ss.length ≤ 1000 ∧ (∀ S ∈ Ss, okSet l n S) ∧ o = .rt (.p (.list (Ss.map dFacts)))) := by
  let S0 : List (List Fact) → Rho := fun F => [.fz (.p (.list (l.map dFact))), .fz (.p (.int (n : Int))), .fz (.p (.list (F.map dFacts))), .no, .no, .no, .no]
  refine run_seq (run_own (en_lst (ea_cons (ed_tup ea_nil) ea_nil)) (lq rfl) ?_)
  refine run_freeze (i := 2) rfl ?_
  refine run_seq (run_forR (n := n) [3, 4, 5, 6] (fun i ρ' => ∃ F, ρ' = S0 F ∧ F.length ≤ 15 ^ i ∧ ∀ S ∈ F, okSet l i S) (es_var rfl) (by omega) ⟨[[]], rfl, Nat.le_refl _, fun S hS => by rw [List.mem_singleton.mp hS]; exact ⟨rfl, .nil, fun f h => nomatch h⟩⟩ (fun i ρ' hi ⟨F, e, hF, hok⟩ => ?_) fun ρ' ⟨F, e, hF, hok⟩ => ?_)
  · subst e
    have hp : F.length ≤ 15 := Nat.le_trans hF (Nat.pow_le_pow_right (n := 15) (by decide) (show i ≤ 1 by omega))
    refine ⟨_, _, bd_name (lq rfl), ?_⟩
    refine run_seq (run_own (en_lst ea_nil) (lq rfl) ?_)
    refine run_seq (run_forLE (l := F) (e := dFacts) [5, 6] (fun j ρ' => ∃ F2 : List (List Fact), ρ' = [.fz (.p (.list (l.map dFact))), .fz (.p (.int (n : Int))), .fz (.p (.list (F.map dFacts))), .fz (.p (.int (i : Int))), .ow (.p (.list (F2.map dFacts))), .no, .no] ∧ F2.length ≤ 15 * j ∧ ∀ S ∈ F2, okSet l (i + 1) S) (ed_var rfl) ⟨[], rfl, Nat.le_refl _, fun S h => nomatch h⟩ (fun j one ρ' hj ⟨F2, e, hF2, hok2⟩ => ?_) fun ρ' ⟨F2, e, hF2, hok2⟩ => ?_)
    · subst e
      have jl : j < F.length := (List.getElem?_eq_some_iff.mp hj).1
      have ho := hok one (List.mem_of_getElem? hj)
      -- which facts may follow
      let tst : Fact → Bool := fun f => decide ((one.length : Int) = 0) || (match one.getLast? with | some g => PySem.W.dataLt (dFact g) (dFact f) | none => false)
      have hfl := List.length_filter_le tst l
      refine ⟨_, _, bd_name (lq rfl), run_own (en_cat rfl (en_lc l (fun f => .p (dFact f)) tst (fun f => dFacts (one ++ [f])) (src_listE l dFact (ed_var rfl)) (by omega) fun f hf => ⟨_, _, fun _ h => h, bd_name (lq rfl), ?_, fun _ => ?_⟩) ?_) (lq rfl) ?_⟩
      · refine et_or (Et.is (et_test (ed_op (ed_cb1 (es_var rfl) cb_lenTE).s ed_int.s (od_eq (int_fine _) rfl)).s) (enc_int.eqB _ _)) fun hb => ?_
        have hb := of_decide_eq_false hb
        have hne : one ≠ [] := fun e => hb (by rw [e]; rfl)
        obtain ⟨ini, g, eo⟩ : ∃ ini g, one = ini ++ [g] := snoc_of hne
        have e1 : atI (one.map dFact) (-1) = some (dFact g) := by rw [eo, List.map_append]; exact at_last
        have e2 : (match one.getLast? with | some g => PySem.W.dataLt (dFact g) (dFact f) | none => false) = PySem.W.dataLt (dFact g) (dFact f) := by rw [eo]; simp
        rw [e2]
        exact et_test (ed_op (ed_op (es_var rfl) (ed_neg ed_int.s).s (od_ixT e1)).s (es_var rfl) (od_ltD (enc_fact.al _ _) (enc_fact.nn _) (enc_fact.fine _).2)).s
      · refine Ed.is (ed_op (es_var rfl) (ed_tup (ea_cons (ed_var rfl) ea_nil)).s (od_catT ?_)) ?_
        · rw [List.length_map, ho.1]; exact sl3 (by show i + 1 ≤ 100; omega)
        · unfold dFacts; rw [List.map_append]; rfl
      · rw [List.length_map, List.length_map, sizeLine_eq]; omega
      · refine ⟨F2 ++ (l.filter tst).map (fun f => one ++ [f]), ?_, ?_, fun S hS => ?_⟩
        · refine congrArg (fun z => ([.fz (.p (.list (l.map dFact))), .fz (.p (.int (n : Int))), .fz (.p (.list (F.map dFacts))), .fz (.p (.int (i : Int))), .ow (.p (.list z)), .no, .no] : Rho)) ?_
          rw [List.map_append, List.map_map]; rfl
        · rw [List.length_append, List.length_map]; omega
        · rcases List.mem_append.mp hS with hS | hS
          · exact hok2 S hS
          · obtain ⟨f, hf, e⟩ := List.mem_map.mp hS
            subst e
            obtain ⟨hfl, ht⟩ := List.mem_filter.mp hf
            refine ⟨by rw [List.length_append, ho.1]; rfl, ?_, fun g hg => ?_⟩
            · refine List.pairwise_append.mpr ⟨ho.2.1, List.pairwise_singleton .., fun a ha b hb => ?_⟩
              rw [List.mem_singleton.mp hb]
              have hne : one ≠ [] := List.ne_nil_of_mem ha
              obtain ⟨ini, g, eo⟩ : ∃ ini g, one = ini ++ [g] := snoc_of hne
              have lt : ltE dFact g f := by
                simp only [tst, Bool.or_eq_true, decide_eq_true_eq] at ht
                rcases ht with z | z
                · exact absurd (List.eq_nil_of_length_eq_zero (by omega)) hne
                · rw [eo] at z; simp at z; exact z
              rw [eo] at ha
              rcases List.mem_append.mp ha with z | z
              · have := ho.2.1
                rw [eo] at this
                exact lt_tr ((List.pairwise_append.mp this).2.2 a z g (by simp)) lt
              · rw [List.mem_singleton.mp z]; exact lt
            · rcases List.mem_append.mp hg with z | z
              · exact ho.2.2 g z
              · rw [List.mem_singleton.mp z]; exact hfl
    · subst e
      refine run_freeze (i := 4) rfl ?_
      refine run_asg (P := (· = .p (.list (F2.map dFacts)))) (ev_var rfl) (lq rfl) fun d e => ?_
      subst e
      refine ⟨F2, rfl, ?_, hok2⟩
      rw [Nat.pow_succ]
      have := Nat.mul_le_mul_left 15 hF
      omega
  · subst e
    refine run_ret (ev_var rfl) fun d e => ⟨F, ?_, hok, by rw [e]⟩
    have : (15 : Nat) ^ n ≤ 15 ^ 2 := Nat.pow_le_pow_right (by decide) hn
    omega
end JQ

-- part Rl
set_option Elab.async false
set_option linter.all false
set_option maxRecDepth 100000
set_option maxHeartbeats 4000000
/-! What the law's own defs compute (3): partial rows. -/
namespace JQ
open PySem PySem.Spec PyProof.Rows L2
section
variable {c : Cf} {G : Gx} {te ta tb tl td ty tx : TE} {ρ : Rho} {P P1 P2 : DV → Prop} {α : Type}
theorem run_setLX {i j : Nat} {ds : List DV} {ti : TE} {Φ : Out → Prop} (h : ρ[i]? = some (.ow (.l ds))) (he : Ev c G te ρ P) (hj : Es c G ti ρ (.int (j : Int))) (hl : j < ds.length) (k : ∀ d, P d → Φ (.nx (ρ.set i (.ow (.l (ds.set j d)))))) :
    Run c G (tAsg te (gSub (tVar i) ti rSetL)) ρ Φ := fun m0 H0 M H σ D E B L => by
  refine he m0 M H σ E _ fun v H1 d f1 j1 r1 pd => ?_
  have E1 := E.fx f1 j1
  obtain ⟨a, h1, h2, h3, vs, h4, h5⟩ := E1.ow i _ h
  refine ⟨.ref a, h1, hj m0 M H1 σ E1 _ fun u H2 d2 f2 j2 r2 e2 => ?_⟩
  subst e2
  have E2 := E1.fx f2 j2
  obtain ⟨a', q1, q2, q3, ws, q4, q5⟩ := E2.ow i _ h
  have ea : a' = a := by rw [h1] at q1; injection q1 with q1; injection q1 with q1; injection q1 with q1; exact q1.symm
  subst ea
  have hw : j < ws.length := by rw [rva_len q5]; exact hl
  refine ⟨a', ws, (j : Int), j, rfl, r2.int, q4, ?_, L.nx _ _ ⟨M, _, E2.setW (d' := .l (ds.set j d)) h h1 (by rw [q4]; intro _ z; cases z) ⟨ws.set j v, upd_same, ?_⟩, ((B.fxx f1).fxx f2).upd q2 q3, k d pd⟩⟩
  · unfold ixN
    rw [if_pos (by omega), if_pos (by omega)]
    simp
  have hs : Same (hid M H2) (hid M (upd H2 a' (.lst (ws.set j v)))) := fun b u q => by
    obtain ⟨z1, z2⟩ := hid_some q
    rw [hid_get z1, upd_ne (fun z => by subst z; rw [h2] at z1; cases z1)]; exact z2
  have rset : ∀ {vs : List V} {ds : List DV} (n : Nat) {v : V} {d : DV}, RvAll c (hid M (upd H2 a' (.lst (ws.set j v)))) vs ds → Rv c (hid M (upd H2 a' (.lst (ws.set j v)))) v d → RvAll c (hid M (upd H2 a' (.lst (ws.set j v)))) (vs.set n v) (ds.set n d) := by
    intro vs ds n v d ha hv
    induction ds generalizing vs n with
    | nil => cases ha; exact .nil
    | cons d' ds ih =>
      cases ha with
      | cons h1 h2 => cases n with
        | zero => exact .cons hv h2
        | succ n => exact .cons h1 (ih n h2)
  exact rset j (rva_mono hs q5) (rv_mono hs (rv_mono (E1.k.hidS f2) r1))
/-- any([..]), what the elements may be -/
theorem ev_anyP {wi : TI} {g : TG} {vs : List Nat} (xs : List α) (e : α → DV) (q : α → Bool → Prop) (hs : Src c G wi ρ (xs.map e)) (hn : xs.length < 1000000)
    (ht : ∀ x ∈ xs, ∃ ks ρ1, (∀ k ∈ ks, k ∈ vs) ∧ Bd c G ks g (e x) (clrW vs ρ) ρ1 ∧ Ev c G te ρ1 (fun d => ∃ b, q x b ∧ d = .p (.bool b))) : Ev c G (tCB (rAny c.K) (tCons (tLc wi g tYes te vs) tNil)) ρ (fun d => ∃ b : Bool, (b = true → ∃ x ∈ xs, q x true) ∧ d = .p (.bool b)) := by
  have h1 := evn_lcp (te := te) (g := g) (tt := tYes) (vs := vs) (PB := fun i b => b = true) (PE := fun i d => ∃ x b, x ∈ xs ∧ q x b ∧ d = .p (.bool b)) hs (by rw [List.length_map]; exact hn) (fun i d hd => by
    rw [List.getElem?_map] at hd
    cases hx : xs[i]? with
    | none => rw [hx] at hd; cases hd
    | some x =>
      rw [hx] at hd
      cases hd
      have hm := List.mem_of_getElem? hx
      obtain ⟨ks, ρ1, a1, a2, a3⟩ := ht x hm
      exact ⟨ks, ρ1, a1, a2, et_yes, fun _ => a3.imp fun d ⟨b, h1, h2⟩ => ⟨x, b, hm, h1, h2⟩⟩) fun i d ⟨x, b, _, _, e⟩ => ⟨_, e⟩
  have h2 : EvN c G (tLc wi g tYes te vs) ρ (fun d => ∃ bs : List Bool, (true ∈ bs → ∃ x ∈ xs, q x true) ∧ d = .p (.list (bs.map .bool))) := h1.imp fun d ⟨out, lr, ed⟩ => by
    have key : ∀ {n : Nat} {o : List DV}, LcR (fun i b => b = true) (fun i d => ∃ x b, x ∈ xs ∧ q x b ∧ d = .p (.bool b)) n o → ∃ bs : List Bool, o = bs.map (fun b => .p (.bool b)) ∧ (true ∈ bs → ∃ x ∈ xs, q x true) := by
      intro n o h
      induction h with
      | zero => exact ⟨[], rfl, fun h => nomatch h⟩
      | yes _ _ pe ih =>
        obtain ⟨bs, e1, e2⟩ := ih
        obtain ⟨x, b, hx, hq, ed⟩ := pe
        refine ⟨bs ++ [b], by rw [e1, ed, List.map_append]; rfl, fun hm => ?_⟩
        rcases List.mem_append.mp hm with z | z
        · exact e2 z
        · rw [← List.mem_singleton.mp z] at hq
          exact ⟨x, hx, hq⟩
      | no _ pb ih => cases pb
    obtain ⟨bs, e1, e2⟩ := key lr
    have e3 : out = bs.map .bool := by
      have inj : ∀ l1 l2 : List PyData, l1.map DV.p = l2.map DV.p → l1 = l2 := by
        intro l1
        induction l1 with
        | nil => intro l2 h; cases l2 with
          | nil => rfl
          | cons _ _ => cases h
        | cons a l1 ih => intro l2 h; cases l2 with
          | nil => cases h
          | cons b l2 =>
            simp only [List.map_cons, List.cons.injEq, DV.p.injEq] at h
            rw [h.1, ih l2 h.2]
      refine inj _ _ ?_
      rw [e1, List.map_map]; rfl
    exact ⟨bs, e2, by rw [ed, e3]⟩
  refine ev_cb1 h2.s fun d ⟨bs, hb, e⟩ => ?_
  subst e
  intro M H u k r Q qq
  refine cb_any M H u k r Q fun z H' d f j r e => qq z H' d f j r ⟨_, fun hz => ?_, e⟩
  obtain ⟨b, hb1, hb2⟩ := List.any_eq_true.mp hz
  have : b = true := hb2
  rw [this] at hb1
  exact hb hb1
end
end JQ

-- part Rm
set_option Elab.async false
set_option linter.all false
set_option maxRecDepth 100000
set_option maxHeartbeats 4000000
/-! What the law's own defs compute (4): rows begun. -/
namespace JQ
open PySem PySem.Spec PyProof.Rows L2
/-- the row r agrees with the prefix, as far as place i -/
def AgreeTo (vs : List Str) (a : Atom) (r pre : Row) (i : Nat) : Prop := ∀ (pos : Nat) (v : Str) (n x : Int) (k : Nat), k ≤ i → a.2[pos]? = some v → r[pos]? = some n → vs[k]? = some v → pre[k]? = some x → x = n
/-- a prefix of k numbers that each atom bears -/
def okPre (C : Cat) (p : Pat) (k : Nat) (pre : Row) : Prop := pre.length = k ∧ ∀ (i : Nat) (v : Str), i < k → (varsOf p)[i]? = some v → ∀ a ∈ p.2, v ∈ a.2 → ∃ r ∈ tbl C a.1, AgreeTo (varsOf p) a r pre i
def dLev (L : List Row) : DV := .p (.list (L.map dRow))
def R__law_partials : List DV → (DV → Prop) → Prop := mkR Good (fun x => [.p (dCat x.1), .p (dPat x.2), .p (dVars (varsOf x.2))]) fun x d => ∃ (init : List (List Row)) (L : List Row), L.length ≤ 1000 ∧ (∀ pre ∈ L, okPre x.1 x.2 (varsOf x.2).length pre) ∧ d = .l ((init ++ [L]).map dLev)
theorem agree_of {vs : List Str} {a : Atom} {r pre : Row} {n : Int} {k : Nat} {kn : Asg} (hpre : pre.length = k) (hk : ∀ (j : Nat) (w : Str) (x : Int), j < k + 1 → vs[j]? = some w → (pre ++ [n])[j]? = some x → getS kn w = some x) (h : Agrees a.2 r kn) : AgreeTo vs a r (pre ++ [n]) k :=
  fun pos v m x j hj g1 g2 g3 g4 => h pos v m x g1 g2 (hk j v x (by omega) g3 g4)
theorem okPre_snoc {C : Cat} {p : Pat} {k : Nat} {pre : Row} {n : Int} (h : okPre C p k pre) (hn : ∀ v, (varsOf p)[k]? = some v → ∀ a ∈ p.2, v ∈ a.2 → ∃ r ∈ tbl C a.1, AgreeTo (varsOf p) a r (pre ++ [n]) k) : okPre C p (k + 1) (pre ++ [n]) := by
  refine ⟨by rw [List.length_append, h.1]; rfl, fun i v hi hv a ha hva => ?_⟩
  rcases Nat.lt_or_ge i k with z | z
  · obtain ⟨r, hr, ag⟩ := h.2 i v z hv a ha hva
    refine ⟨r, hr, fun pos w m x j hj g1 g2 g3 g4 => ag pos w m x j hj g1 g2 g3 ?_⟩
    rw [List.getElem?_append_left (by rw [h.1]; omega)] at g4
    exact g4
  · have : i = k := by omega
    subst this
    exact hn v hv a ha hva
theorem lt_ten {ms : List Int} (h : ms.Pairwise (· < ·)) (hb : ∀ x ∈ ms, 0 ≤ x ∧ x < 10) : ms.length ≤ 10 := by
  have nd : ms.Nodup := List.Pairwise.imp (fun {a b} x z => by omega) h
  have := nd.length_le_of_subset (l₂ := (List.range 10).map fun i : Nat => (i : Int)) fun x hx => by
    have := hb x hx
    exact List.mem_map.mpr ⟨x.toNat, List.mem_range.mpr (by omega), by omega⟩
  rw [List.length_map, List.length_range] at this
  exact this
theorem rn__law_partials {c : Cf} {G : Gx} {w : World} {C : Cat} {p : Pat} (h : Good (C, p)) : Run c G (t__law_partials c w R__law_table R__law_agrees) (args 16 [.p (dCat C), .p (dPat p), .p (dVars (varsOf p))]) (fun o => ∃ (init : List (List Row)) (L : List Row), L.length ≤ 1000 ∧ (∀ pre ∈ L, okPre C p (varsOf p).length pre) ∧ o = .rt (.l ((init ++ [L]).map dLev))) := by
  have g : GCat C := h.1
  have ga := h.2.at_
  have hC : C.length ≤ 3 := g.few
  have hv3 : (varsOf p).length ≤ 3 := h.2.few
  have hvnd : (varsOf p).Nodup := nd_dd List.nodup_nil
  let B : Slot → Slot → Rho := fun s7 s3 => [.fz (.p (dCat C)), .fz (.p (dPat p)), .fz (.p (dVars (varsOf p))), s3, .no, .no, .no, s7, .no, .no, .no, .no, .no, .no, .no, .no]
  -- the values
  refine run_seq (run_own (en_lst ea_nil) (lq rfl) ?_)
  refine run_seq (run_forTE (l := C) (e := dTab) [4, 5, 6] (fun i ρ' => ∃ vl : List Int, ρ' = B .no (.ow (.p (.list (vl.map .int)))) ∧ vl.length ≤ 20 * i ∧ ∀ x ∈ vl, 0 ≤ x ∧ x < 10) (ed_var rfl) ⟨[], rfl, Nat.le_refl _, fun x h => nomatch h⟩ (fun i t ρ' hi ⟨vl, e, hl, hb⟩ => ?_) fun ρ' ⟨vl, e, hl, hb⟩ => ?_)
  · subst e
    have il : i < C.length := (List.getElem?_eq_some_iff.mp hi).1
    have gt := g.tabs t (List.mem_of_getElem? hi)
    have hr5 := gt.few
    have hc4 := gt.c4
    refine ⟨_, _, bd_name (lq rfl), ?_⟩
    refine run_forTE (l := t.2.2) (e := dRow) [5, 6] (fun j ρ' => ∃ vl : List Int, ρ' = [.fz (.p (dCat C)), .fz (.p (dPat p)), .fz (.p (dVars (varsOf p))), .ow (.p (.list (vl.map .int))), .fz (.p (dTab t)), .no, .no, .no, .no, .no, .no, .no, .no, .no, .no, .no] ∧ vl.length ≤ 20 * i + 4 * j ∧ ∀ x ∈ vl, 0 ≤ x ∧ x < 10) (ed_op (es_var rfl) ed_int.s (od_ixT rfl)) ⟨vl, rfl, by omega, hb⟩ (fun j r ρ' hj ⟨vl, e, hl, hb⟩ => ?_) fun ρ' ⟨vl, e, hl, hb⟩ => ?_
    · subst e
      have jl : j < t.2.2.length := (List.getElem?_eq_some_iff.mp hj).1
      obtain ⟨hrl, hrb⟩ := gt.rows r (List.mem_of_getElem? hj)
      have hfl := List.length_filter_le (fun x => !decide (x ∈ vl)) r
      refine ⟨_, _, bd_name (lq rfl), ?_⟩
      refine run_own (en_cat rfl (en_lc r (fun n => .p (.int n)) (fun x => !decide (x ∈ vl)) (fun n => .int n) (src_tupE r .int (ed_var rfl)) (by omega) fun n hn => ⟨_, _, fun _ h => h, bd_name (lq rfl), Et.is (et_test (ed_op (es_var rfl) (evs_own rfl) (od_niL (ds := vl.map .int) (int_fine _) (enc_int.pls _))).s) (by rw [enc_int.any]), fun _ => ed_var rfl⟩) ?_) (lq rfl) ?_
      · rw [List.length_map, List.length_map, sizeLine_eq]; omega
      · refine ⟨vl ++ r.filter (fun x => !decide (x ∈ vl)), ?_, ?_, fun x hx => ?_⟩
        · refine congrArg (fun z => ([.fz (.p (dCat C)), .fz (.p (dPat p)), .fz (.p (dVars (varsOf p))), .ow (.p (.list z)), .fz (.p (dTab t)), .no, .no, .no, .no, .no, .no, .no, .no, .no, .no, .no] : Rho)) ?_
          rw [List.map_append]
        · rw [List.length_append]; omega
        · rcases List.mem_append.mp hx with z | z
          · exact hb x z
          · exact hrb x (List.mem_filter.mp z).1
    · subst e
      exact ⟨vl, rfl, by omega, hb⟩
  subst e
  refine run_seq (run_asgN (evn_sortSetI (evs_own rfl) (by omega)) (lq rfl) fun d ⟨ms, hms, hmm, e⟩ => ?_)
  subst e
  have hmb : ∀ x ∈ ms, 0 ≤ x ∧ x < 10 := fun x hx => hb x ((hmm x).mp hx)
  have hml := lt_ten hms hmb
  refine run_freeze (i := 3) rfl ?_
  -- the first level
  refine run_seq (run_asgN (evn_lstX (eva_cons1 (en_lst ea_nil).e eva_nil)) (lq rfl) fun d e => ?_)
  subst e
  refine run_seq (run_setLX (j := 0) (P := (· = dLev [[]])) rfl (En.e (en_lst (ea_cons (ed_tup ea_nil) ea_nil))) ed_int.s (by decide) fun d e => ?_)
  subst e
  have eT : ∀ a ∈ p.2, ∃ t ∈ C, t.1 = a.1 ∧ tbl C a.1 = t.2.2 ∧ t.2.1 = a.2.length := fun a ha => by
    obtain ⟨t, ht, et, el⟩ := ga.tab a ha
    exact ⟨t, ht, et, by rw [← et, tbl_of g ht], el⟩
  have anyR : ∀ (ρ : Rho) (a : Atom) (kn : Asg) (tk : TE), a ∈ p.2 → Es c G (tVar 0) ρ (dCat C) → ρ.length = 16 → Es c G (tVar 8) ρ (.str a.1) → (∀ r, Ed c G (tVar 9) ((clrW [5] ρ).set 5 (.fz (.p (dRow r)))) (dVars a.2)) → (∀ r, Ev c G tk ((clrW [5] ρ).set 5 (.fz (.p (dRow r)))) (· = .dk kn)) → (∀ r, Ed c G (tVar 5) ((clrW [5] ρ).set 5 (.fz (.p (dRow r)))) (dRow r)) → Ed c G (tVar 0) ρ (dCat C) → Ed c G (tVar 8) ρ (.str a.1) →
      Ev c G (tCB (rAny c.K) (tCons (tLc (iTup c.K (tOp (rIx c.K) (tCall (spR c R__law_table) [] C8.E0 (tCons (tVar 0) (tCons (tVar 8) tNil))) (tC (.int 2)))) (gName 5) tYes (tCall (spR c R__law_agrees) [] C8.E0 (tCons (tVar 9) (tCons (tVar 5) (tCons tk tNil)))) [5]) tNil)) ρ (fun d => ∃ b : Bool, (b = true → ∃ r ∈ tbl C a.1, Agrees a.2 r kn) ∧ d = .p (.bool b)) := fun ρ a kn tk ha _ hlen _ h9 hk h5 h0 h8 => by
    obtain ⟨t, ht, et, etb, el⟩ := eT a ha
    obtain ⟨_, _, l4⟩ := ga.okA g ha
    have h8' : Ed c G (tVar 8) ρ (.str t.1) := by rw [et]; exact h8
    have hf := (g.tabs t ht).few
    rw [etb]
    refine ev_anyP t.2.2 (fun r => .p (dRow r)) (fun r b => b = true → Agrees a.2 r kn) (src_tupE t.2.2 dRow (ed_op (ed_call (d := dTab t) (ea_cons h0 (ea_cons h8' ea_nil)) ⟨(C, t), ⟨g, ht⟩, rfl, fun _ e => e⟩).s ed_int.s (od_ixT rfl))) (by omega) (fun r hr => ⟨[5], _, fun _ h => h, bd_name ?_, ?_⟩) |>.imp fun d ⟨b, hb, e⟩ => ⟨b, fun z => ?_, e⟩
    · show 5 < ((clrW [] ρ).set 5 .no).length
      rw [List.length_set]
      show 5 < ρ.length
      omega
    · have hrl := ((g.tabs t ht).rows r hr).1
      exact ev_call (eva_cons1 (h9 r) (eva_cons1 (h5 r) (eva_cons1 (hk r) eva_nil))) fun ds e => by subst e; exact ⟨(a.2, r, kn), ⟨by show a.2.length = r.length; omega, l4⟩, rfl, fun d ⟨b, h1, h2⟩ => ⟨b, h1, h2⟩⟩
    · obtain ⟨r, hr, hq⟩ := hb z
      exact ⟨r, hr, hq rfl⟩
  refine run_seq (run_forTE (l := p.2) (e := dAtom) [8, 9, 5] (fun i ρ' => ∃ L : List Row, ρ' = B (.ow (.l [dLev L])) (.fz (.p (.list (ms.map .int)))) ∧ L.length ≤ 1 ∧ ∀ pre ∈ L, okPre C p 0 pre) (ed_op (es_var rfl) ed_int.s (od_ixT rfl)) ⟨[[]], rfl, Nat.le_refl _, fun pre hp => by rw [List.mem_singleton.mp hp]; exact ⟨rfl, fun i v hi => by omega⟩⟩ (fun i a ρ' hi ⟨L, e, hL, hok⟩ => ?_) fun ρ' ⟨L, e, hL, hok⟩ => ?_)
  · subst e
    have ha := List.mem_of_getElem? hi
    refine ⟨_, _, bd_tup (bda_cons (bd_name (lq rfl)) (bda_cons (bd_name (lq rfl)) bda_nil)) rfl, ?_⟩
    refine run_ifP (PB := fun _ => True) (fun m0 M H σ E Q q => evt_test ((anyR _ a [] tDNewK ha (es_var rfl) rfl (es_var rfl) (fun r => ed_var rfl) (fun r => evn_dnew.e) (fun r => ed_var rfl) (ed_var rfl) (ed_var rfl)).imp fun d ⟨b, _, e⟩ => ⟨b, e, trivial⟩).s m0 M H σ E _ fun b H' f j _ => q _ H' f j trivial) (fun _ => ?_) fun _ => run_next ⟨L, rfl, hL, hok⟩
    exact run_setLX (j := 0) (P := (· = dLev [])) rfl (En.e (en_lst ea_nil)) ed_int.s (lq rfl) fun d e => by subst e; exact ⟨[], rfl, Nat.zero_le _, fun pre h => nomatch h⟩
  subst e
  -- the levels
  let LV : List (List Row) → List Row → Slot := fun init L => .ow (.l ((init ++ [L]).map dLev))
  refine run_seq (run_forR (n := (varsOf p).length) [10, 11, 12, 6, 13, 14, 15, 8, 9, 5] (fun k ρ' => ∃ init L, ρ' = B (LV init L) (.fz (.p (.list (ms.map .int)))) ∧ init.length = k ∧ L.length ≤ 10 ^ k ∧ ∀ pre ∈ L, okPre C p k pre) (ed_cb1 (es_var rfl) cb_lenTE).s (by omega) ⟨[], L, rfl, rfl, by omega, hok⟩ (fun k ρ' hk ⟨init, L, e, hil, hL, hok⟩ => ?_) fun ρ' ⟨init, L, e, hil, hL, hok⟩ => ?_)
  · subst e
    have hp2 : 10 ^ k ≤ 100 := Nat.pow_le_pow_right (n := 10) (by decide) (show k ≤ 2 by omega)
    have hvk := List.getElem?_eq_getElem hk
    generalize (varsOf p)[k] = vk at hvk
    have hit : atI ((init ++ [L]).map dLev) (k : Int) = some (dLev L) := by
      refine at_nat ?_
      rw [List.getElem?_map, List.getElem?_append_right (by omega), hil, Nat.sub_self]; rfl
    refine ⟨_, _, bd_name (lq rfl), ?_⟩
    refine run_seq (run_own (en_lst ea_nil) (lq rfl) ?_)
    let B2 : List Row → Rho := fun L2 => [.fz (.p (dCat C)), .fz (.p (dPat p)), .fz (.p (dVars (varsOf p))), .fz (.p (.list (ms.map .int))), .no, .no, .no, LV init L, .no, .no, .fz (.p (.int (k : Int))), .ow (.p (.list (L2.map dRow))), .no, .no, .no, .no]
    refine run_seq (run_forLE (l := L) (e := dRow) [12, 6, 13, 14, 15, 8, 9, 5] (fun i ρ' => ∃ L2 : List Row, ρ' = B2 L2 ∧ L2.length ≤ 10 * i ∧ ∀ pre ∈ L2, okPre C p (k + 1) pre) (ev_ix (evs_own rfl) (es_var rfl) (od_ixLX hit)) ⟨[], rfl, Nat.le_refl _, fun pre h => nomatch h⟩ (fun i pre ρ' hi ⟨L2, e, hL2, hok2⟩ => ?_) fun ρ' ⟨L2, e, hL2, hok2⟩ => ?_)
    · subst e
      have il : i < L.length := (List.getElem?_eq_some_iff.mp hi).1
      have hpre := hok pre (List.mem_of_getElem? hi)
      refine ⟨_, _, bd_name (lq rfl), ?_⟩
      let B3 : List Row → Rho := fun L2 => [.fz (.p (dCat C)), .fz (.p (dPat p)), .fz (.p (dVars (varsOf p))), .fz (.p (.list (ms.map .int))), .no, .no, .no, LV init L, .no, .no, .fz (.p (.int (k : Int))), .ow (.p (.list (L2.map dRow))), .fz (.p (dRow pre)), .no, .no, .no]
      refine run_forLE (l := ms) (e := .int) [6, 13, 14, 15, 8, 9, 5] (fun j ρ' => ∃ L2 : List Row, ρ' = B3 L2 ∧ L2.length ≤ 10 * i + j ∧ ∀ pre ∈ L2, okPre C p (k + 1) pre) (ed_var rfl) ⟨L2, rfl, by omega, hok2⟩ (fun j n ρ' hj ⟨L2, e, hL2, hok2⟩ => ?_) fun ρ' ⟨L2, e, hL2, hok2⟩ => ?_
      · subst e
        have jl : j < ms.length := (List.getElem?_eq_some_iff.mp hj).1
        refine ⟨_, _, bd_name (lq rfl), ?_⟩
        refine run_seq (run_asgN evn_dnew (lq rfl) fun d e => ?_)
        subst e
        let B4 : Asg → Rho := fun m => [.fz (.p (dCat C)), .fz (.p (dPat p)), .fz (.p (dVars (varsOf p))), .fz (.p (.list (ms.map .int))), .no, .no, .fz (.p (.int n)), LV init L, .no, .no, .fz (.p (.int (k : Int))), .ow (.p (.list (L2.map dRow))), .fz (.p (dRow pre)), .ow (.dk m), .no, .no]
        refine run_seq (run_forR (n := k) [14] (fun q ρ' => ∃ m : Asg, ρ' = B4 m ∧ m.length ≤ q ∧ ∀ (j : Nat) (w : Str) (x : Int), j < q → (varsOf p)[j]? = some w → (pre ++ [n])[j]? = some x → getS m w = some x) (es_var rfl) (by omega) ⟨[], rfl, Nat.le_refl _, fun j w x hj => by omega⟩ (fun q ρ' hq ⟨m, e, hm, hall⟩ => ?_) fun ρ' ⟨m, e, hm, hall⟩ => ?_)
        · subst e
          have hv := List.getElem?_eq_getElem (show q < (varsOf p).length by omega)
          have hql : q < pre.length := by rw [hpre.1]; exact hq
          have hr := List.getElem?_eq_getElem hql
          generalize (varsOf p)[q] = v at hv
          generalize pre[q] = y at hr
          have hr2 : (pre ++ [n])[q]? = some y := by rw [List.getElem?_append_left (by rw [hpre.1]; exact hq)]; exact hr
          refine ⟨_, _, bd_name (lq rfl), run_dput rfl (ed_op (es_var rfl) (es_var rfl) (od_ixT (atE hr))) (ed_op (es_var rfl) (es_var rfl) (od_ixT (atE hv))).s (by rw [sizeLine_eq]; omega) ⟨putS m v y, rfl, Nat.le_trans len_putS (by omega), named_put hvnd hv hr2 hall⟩⟩
        subst e
        have hr2 : (pre ++ [n])[k]? = some n := by rw [List.getElem?_append_right (by rw [hpre.1]; exact Nat.le_refl _), hpre.1, Nat.sub_self]; rfl
        have hkn := named_put hvnd hvk hr2 hall
        refine run_seq (run_dput rfl (ed_var rfl) (ed_op (es_var rfl) (es_var rfl) (od_ixT (atE hvk))).s (by rw [sizeLine_eq]; omega) ?_)
        generalize putS m vk n = kn at hkn
        refine run_seq (run_set ed_bool (lq rfl) ?_)
        let B5 : Bool → Rho := fun b => [.fz (.p (dCat C)), .fz (.p (dPat p)), .fz (.p (dVars (varsOf p))), .fz (.p (.list (ms.map .int))), .no, .no, .fz (.p (.int n)), LV init L, .no, .no, .fz (.p (.int (k : Int))), .ow (.p (.list (L2.map dRow))), .fz (.p (dRow pre)), .fz (.dk kn), .no, .fz (.p (.bool b))]
        refine run_freeze (i := 13) rfl ?_
        refine run_seq (run_forTE (l := p.2) (e := dAtom) [8, 9, 5] (fun q ρ' => ∃ b : Bool, ρ' = B5 b ∧ (b = true → ∀ a ∈ p.2.take q, vk ∈ a.2 → ∃ r ∈ tbl C a.1, Agrees a.2 r kn)) (ed_op (es_var rfl) ed_int.s (od_ixT rfl)) ⟨true, rfl, fun _ a ha => by simp at ha⟩ (fun q a ρ' hq ⟨b, e, hb⟩ => ?_) fun ρ' ⟨b, e, hb⟩ => ?_)
        · subst e
          have ha := List.mem_of_getElem? hq
          refine ⟨_, _, bd_tup (bda_cons (bd_name (lq rfl)) (bda_cons (bd_name (lq rfl)) bda_nil)) rfl, ?_⟩
          refine run_if (b := decide (vk ∈ a.2) && b) (et_and (Et.is (et_test (ed_op (ed_op (es_var rfl) (es_var rfl) (od_ixT (atE hvk))).s (es_var rfl) (od_inT (ds := a.2.map .str) (str_fine _) (enc_str.pls _))).s) (by rw [enc_str.any])) fun _ => et_B (es_var rfl)) (fun hc => ?_) fun hc => run_next ⟨b, rfl, fun hbt a' ha' hva => ?_⟩
          · rw [Bool.and_eq_true, decide_eq_true_eq] at hc
            refine run_asg (anyR _ a kn (tVar 13) ha (es_var rfl) rfl (es_var rfl) (fun r => ed_var rfl) (fun r => ev_var rfl) (fun r => ed_var rfl) (ed_var rfl) (ed_var rfl)) (lq rfl) fun d ⟨b2, hb2, e⟩ => ?_
            subst e
            refine ⟨b2, rfl, fun hbt a' ha' hva => ?_⟩
            rw [take_snoc hq] at ha'
            rcases List.mem_append.mp ha' with z | z
            · exact hb hc.2 a' z hva
            · rw [List.mem_singleton.mp z]; exact hb2 hbt
          · subst hbt
            rw [take_snoc hq] at ha'
            rcases List.mem_append.mp ha' with z | z
            · exact hb rfl a' z hva
            · rw [List.mem_singleton.mp z] at hva
              simp [hva] at hc
        subst e
        rw [List.take_length] at hb
        refine run_if (b := b) (et_B (es_var rfl)) (fun hbt => ?_) fun _ => run_next ⟨L2, rfl, by omega, hok2⟩
        have hnew : okPre C p (k + 1) (pre ++ [n]) := okPre_snoc hpre fun v hv a ha hva => by
          rw [hvk] at hv; cases hv
          obtain ⟨r, hr, ag⟩ := hb hbt a ha hva
          exact ⟨r, hr, agree_of hpre.1 hkn ag⟩
        refine run_app (d := dRow (pre ++ [n])) rfl (Ed.is (ed_op (es_var rfl) (ed_tup (ea_cons (ed_var rfl) ea_nil)).s (od_catT ?_)) ?_) (by rw [List.length_map, sizeLine_eq]; omega) ⟨L2 ++ [pre ++ [n]], ?_, by rw [List.length_append]; show L2.length + 1 ≤ _; omega, fun q hq => ?_⟩
        · rw [List.length_map, hpre.1]; exact sl3 (by show k + 1 ≤ 100; omega)
        · unfold dRow; rw [List.map_append]; rfl
        · refine congrArg (fun z => ([.fz (.p (dCat C)), .fz (.p (dPat p)), .fz (.p (dVars (varsOf p))), .fz (.p (.list (ms.map .int))), .no, .no, .no, LV init L, .no, .no, .fz (.p (.int (k : Int))), .ow (.p (.list z)), .fz (.p (dRow pre)), .no, .no, .no] : Rho)) ?_
          rw [List.map_append]; rfl
        · rcases List.mem_append.mp hq with z | z
          · exact hok2 q z
          · rw [List.mem_singleton.mp z]; exact hnew
      · subst e
        exact ⟨L2, rfl, by omega, hok2⟩
    · subst e
      refine run_freeze (i := 11) rfl ?_
      refine run_appL (P := (· = dLev L2)) rfl (ev_var rfl) ?_ fun d e => ?_
      · rw [List.length_map, List.length_append, hil, sizeLine_eq]
        show k + 1 < _
        omega
      · subst e
        refine ⟨init ++ [L], L2, ?_, by rw [List.length_append, hil]; rfl, ?_, hok2⟩
        · show B (.ow (.l ((init ++ [L]).map dLev ++ [dLev L2]))) _ = B (.ow (.l (((init ++ [L]) ++ [L2]).map dLev))) _
          rw [List.map_append (l₁ := init ++ [L])]; rfl
        · rw [Nat.pow_succ]
          omega
  · subst e
    refine run_retO (d := .l ((init ++ [L]).map dLev)) rfl ⟨init, L, ?_, hok, rfl⟩
    have : 10 ^ (varsOf p).length ≤ 10 ^ 3 := Nat.pow_le_pow_right (by decide) hv3
    omega
end JQ

-- part Rn
set_option Elab.async false
set_option linter.all false
set_option maxRecDepth 100000
set_option maxHeartbeats 4000000
/-! What the law's own defs compute (5): assignments. -/
namespace JQ
open PySem PySem.Spec PyProof.Rows L2
section
variable {c : Cf} {G : Gx} {te ta tb tl td ty tx : TE} {ρ : Rho} {P P1 P2 : DV → Prop} {α : Type}
theorem run_forXP {g : TG} {tb : TS} {γ : Type} {q : γ → Prop} {l : γ → List DV} {Φ : Out → Prop} (js : List Nat) (I : γ → Nat → Rho → Prop) (h : Ev c G tl ρ (fun d => ∃ x, q x ∧ d = .l (l x))) (h0 : ∀ x, q x → I x 0 ρ)
    (hs : ∀ x, q x → ∀ i d ρ', (l x)[i]? = some d → I x i ρ' → ∃ ks ρ1, Bd c G ks g d ρ' ρ1 ∧ Run c G tb ρ1 (turnR js (I x (i + 1)) Φ)) (hd : ∀ x, q x → ∀ ρ', I x (l x).length ρ' → Φ (.nx ρ')) : Run c G (tFor (iList c.K tl) g tb) ρ Φ := fun m0 H0 M H σ D E B L =>
  h m0 M H σ E _ fun v H1 d f j r ⟨w, hw, e⟩ => by
    subst e
    have E1 := E.fx f j
    have B1 := B.fxx f
    cases r with
    | @l a vs _ ha0 hv =>
      have ha : SqL c.K (hid M H1) a vs := SqL.of ha0
      have len := rva_len hv
      refine ⟨a, rfl, ⟨vs, same_l hid_same ha⟩, for_list (xs := vs) (fun i σ' H' => endP c G m0 (lb m0 M H1) (I w i) σ' H') ⟨M, ρ, E1, lb_bs, h0 w hw⟩ (fun i σ' H' _ ⟨M2, ρ2, e2, b2, _⟩ => same_l hid_same (same_l (lb_same (c := c) E1.k.gm E1.sub b2) ha)) (fun i x σ' H' hx ⟨M2, ρ2, e2, b2, p⟩ => ?_) fun σ' H' ⟨M2, ρ2, e2, b2, p⟩ => ?_⟩
      · obtain ⟨d, q1, q2⟩ := rva_get' hv hx
        obtain ⟨_, ρ1, b, k⟩ := hs w hw i d ρ2 q1 p
        exact b m0 M2 H' σ' x e2 (rv_mono (lb_same (c := c) E1.k.gm E1.sub b2) q2) _ fun σ2 e3 _ => k m0 (lb m0 M H1) M2 H' σ2 _ e3 b2 (le_turn E.gm B1 L fun _ _ z => z)
      · exact L.nx _ _ ⟨M2, ρ2, e2, lb_back E.gm B1 b2, hd w hw _ (by rw [← len]; exact p)⟩
theorem run_forLP {g : TG} {tb : TS} {γ : Type} {q : γ → Prop} {l : γ → List PyData} {Φ : Out → Prop} (js : List Nat) (I : γ → Nat → Rho → Prop) (h : Ev c G tl ρ (fun d => ∃ x, q x ∧ d = .p (.list (l x)))) (h0 : ∀ x, q x → I x 0 ρ)
    (hs : ∀ x, q x → ∀ i d ρ', (l x)[i]? = some d → I x i ρ' → ∃ ks ρ1, Bd c G ks g (.p d) ρ' ρ1 ∧ Run c G tb ρ1 (turnR js (I x (i + 1)) Φ)) (hd : ∀ x, q x → ∀ ρ', I x (l x).length ρ' → Φ (.nx ρ')) : Run c G (tFor (iList c.K tl) g tb) ρ Φ := fun m0 H0 M H σ D E B L =>
  h m0 M H σ E _ fun v H1 d f j r ⟨w, hw, e⟩ => by
    subst e
    have E1 := E.fx f j
    have B1 := B.fxx f
    have r := rv_p r
    cases r with
    | @lst a vs _ ha hv =>
      have len := dpa_len hv
      refine ⟨a, rfl, ⟨vs, same_l hid_same ha⟩, for_list (xs := vs) (fun i σ' H' => endP c G m0 (lb m0 M H1) (I w i) σ' H') ⟨M, ρ, E1, lb_bs, h0 w hw⟩ (fun i σ' H' _ ⟨M2, ρ2, e2, b2, _⟩ => same_l hid_same (same_l (lb_same (c := c) E1.k.gm E1.sub b2) ha)) (fun i x σ' H' hx ⟨M2, ρ2, e2, b2, p⟩ => ?_) fun σ' H' ⟨M2, ρ2, e2, b2, p⟩ => ?_⟩
      · obtain ⟨d, q1, q2⟩ := dpa_get' hv hx
        obtain ⟨_, ρ1, b, k⟩ := hs w hw i d ρ2 q1 p
        exact b m0 M2 H' σ' x e2 (.p (dp_mono (lb_same (c := c) E1.k.gm E1.sub b2) q2)) _ fun σ2 e3 _ => k m0 (lb m0 M H1) M2 H' σ2 _ e3 b2 (le_turn E.gm B1 L fun _ _ z => z)
      · exact L.nx _ _ ⟨M2, ρ2, e2, lb_back E.gm B1 b2, hd w hw _ (by rw [← len]; exact p)⟩
end
/-- a full prefix fits -/
theorem okPre_fits {C : Cat} {p : Pat} (h : Good (C, p)) {pre : Row} (hp : okPre C p (varsOf p).length pre) {m : Asg} (hm : Named (varsOf p) pre m) : (∀ v ∈ varsOf p, ∃ n, getS m v = some n) ∧ Fits C p (val m) := by
  have h1 : ∀ v ∈ varsOf p, ∃ n, getS m v = some n := fun v hv => by
    obtain ⟨i, hi⟩ := List.getElem?_of_mem hv
    have hl : i < pre.length := by rw [hp.1]; exact (List.getElem?_eq_some_iff.mp hi).1
    exact ⟨_, hm i v _ hi (List.getElem?_eq_getElem hl)⟩
  refine ⟨h1, fun a ha => ?_⟩
  -- the last of the atom's variables
  have hne : a.2 ≠ [] := fun e => by
    have := (h.2.at_.okA h.1 ha).2.1
    rw [e] at this; cases this
  have hidx : ∀ l : List Str, l ≠ [] → (∀ v ∈ l, v ∈ varsOf p) → ∃ (i : Nat) (v : Str), (varsOf p)[i]? = some v ∧ v ∈ l ∧ ∀ w ∈ l, ∃ j : Nat, j ≤ i ∧ (varsOf p)[j]? = some w := by
    intro l
    induction l with
    | nil => intro h; exact absurd rfl h
    | cons v l ih =>
      intro _ hs
      obtain ⟨i, hi⟩ := List.getElem?_of_mem (hs v (List.mem_cons_self ..))
      cases l with
      | nil => exact ⟨i, v, hi, List.mem_cons_self .., fun w hw => by rw [List.mem_singleton.mp hw]; exact ⟨i, Nat.le_refl _, hi⟩⟩
      | cons u l =>
        obtain ⟨i2, v2, g1, g2, g3⟩ := ih (by simp) fun w hw => hs w (List.mem_cons_of_mem _ hw)
        rcases Nat.le_total i i2 with z | z
        · refine ⟨i2, v2, g1, List.mem_cons_of_mem _ g2, fun w hw => ?_⟩
          rcases List.mem_cons.mp hw with e | hw
          · rw [e]; exact ⟨i, z, hi⟩
          · exact g3 w hw
        · refine ⟨i, v, hi, List.mem_cons_self .., fun w hw => ?_⟩
          rcases List.mem_cons.mp hw with e | hw
          · rw [e]; exact ⟨i, Nat.le_refl _, hi⟩
          · obtain ⟨j, hj, e⟩ := g3 w hw
            exact ⟨j, Nat.le_trans hj z, e⟩
  obtain ⟨i, v, hi, hva, hall⟩ := hidx a.2 hne fun w hw => varsOf_mem.mpr ⟨a, ha, hw⟩
  obtain ⟨r, hr, ag⟩ := hp.2 i v (List.getElem?_eq_some_iff.mp hi).1 hi a ha hva
  have hl := tbl_row h.1 h.2.at_ ha hr
  have : a.2.map (val m) = r := by
    refine List.ext_getElem? fun k => ?_
    rw [List.getElem?_map]
    cases hk : a.2[k]? with
    | none =>
      have := List.getElem?_eq_none_iff.mp hk
      rw [List.getElem?_eq_none (by omega)]; rfl
    | some w =>
      have kl : k < r.length := by rw [hl]; exact (List.getElem?_eq_some_iff.mp hk).1
      have hrk := List.getElem?_eq_getElem kl
      generalize r[k] = n at hrk
      obtain ⟨j, hj, ej⟩ := hall w (List.mem_of_getElem? hk)
      have jl : j < pre.length := by rw [hp.1]; exact (List.getElem?_eq_some_iff.mp ej).1
      have hpj := List.getElem?_eq_getElem jl
      generalize pre[j] = x at hpj
      have e1 := ag k w n x j hj hk hrk ej hpj
      have e2 := hm j w x ej hpj
      rw [hrk]
      show some (val m w) = some n
      unfold val
      rw [e2, ← e1]; rfl
  rw [this]; exact hr
def okAsg (C : Cat) (p : Pat) (m : Asg) : Prop := (∀ v ∈ varsOf p, ∃ n, getS m v = some n) ∧ Fits C p (val m)
def R__law_assignments : List DV → (DV → Prop) → Prop := mkR Good (fun x => [.p (dCat x.1), .p (dPat x.2)]) fun x d => ∃ ms : List Asg, (ms.length ≤ 1000 ∧ ∀ m ∈ ms, okAsg x.1 x.2 m) ∧ d = .l (ms.map .dk)
theorem rn__law_assignments {c : Cf} {G : Gx} {C : Cat} {p : Pat} (h : Good (C, p)) : Run c G (t__law_assignments c R__law_variables R__law_partials R__law_named) (args 4 [.p (dCat C), .p (dPat p)]) (fun o => ∃ ms : List Asg, (ms.length ≤ 1000 ∧ ∀ m ∈ ms, okAsg C p m) ∧ o = .rt (.l (ms.map .dk))) := by
  have hv3 : (varsOf p).length ≤ 3 := h.2.few
  have hvnd : (varsOf p).Nodup := nd_dd List.nodup_nil
  refine run_seq (run_asg (P := (· = .p (dVars (varsOf p)))) ((ev_call (P := (· = .tN (varsOf p))) (ea_cons (ed_var rfl) ea_nil) fun ds e => by subst e; exact ⟨(C, p), h, rfl, fun _ e => e⟩).conv fun _ _ r => rva_tN r) (lq rfl) fun d e => ?_)
  subst e
  have hs : Ev c G (tOp (rIx c.K) (tCall (spR c R__law_partials) [] C8.E0 (tCons (tVar 0) (tCons (tVar 1) (tCons (tVar 2) tNil)))) (tUn (rU fun i => .int (-i)) (tC (.int 1)))) [.fz (.p (dCat C)), .fz (.p (dPat p)), .fz (.p (dVars (varsOf p))), .no] (fun d => ∃ L : List Row, (L.length ≤ 1000 ∧ ∀ pre ∈ L, okPre C p (varsOf p).length pre) ∧ d = .p (.list (L.map dRow))) :=
    ev_op (P1 := fun d => ∃ (init : List (List Row)) (L : List Row), L.length ≤ 1000 ∧ (∀ pre ∈ L, okPre C p (varsOf p).length pre) ∧ d = .l ((init ++ [L]).map dLev)) (P2 := (· = .p (.int (-1)))) (ev_call (ea_cons (ed_var rfl) (ea_cons (ed_var rfl) (ea_cons (ed_var rfl) ea_nil))) fun ds e => by subst e; exact ⟨(C, p), h, rfl, fun _ e => e⟩).s (ed_neg ed_int.s).s fun x y ⟨init, L, h1, h2, e1⟩ e2 => by
      subst e1 e2
      have := od_ixLX (c := c) (G := G) (ds := (init ++ [L]).map dLev) (i := -1) (d := dLev L) (by rw [List.map_append]; exact at_last)
      intro M H u v k r1 r2 Q q
      exact this M H u v k r1 r2 Q fun z H' d f j r e => q z H' d f j r ⟨L, ⟨h1, h2⟩, e⟩
  refine run_ret (P := fun d => ∃ ms : List Asg, (ms.length ≤ 1000 ∧ ∀ m ∈ ms, okAsg C p m) ∧ d = .l (ms.map .dk)) ((evn_lcE (PB := fun _ _ b => b = true) (PE := fun _ _ d => ∃ m, okAsg C p m ∧ d = .dk m) hs fun L ⟨hL, hok⟩ => ⟨by rw [List.length_map]; omega, fun i d hd => ?_⟩).e.imp fun d ⟨L, out, ⟨hL, hok⟩, lr, e⟩ => ?_) fun d ⟨ms, h1, e⟩ => ⟨ms, h1, by rw [e]⟩
  · rw [List.getElem?_map, List.getElem?_map] at hd
    cases hx : L[i]? with
    | none => rw [hx] at hd; cases hd
    | some pre =>
      rw [hx] at hd
      cases hd
      have hp := hok pre (List.mem_of_getElem? hx)
      refine ⟨[3], _, fun _ h => h, bd_name (lq rfl), et_yes, fun _ => ev_call (ea_cons (ed_var rfl) (ea_cons (ed_var rfl) ea_nil)) fun ds e => ?_⟩
      subst e
      exact ⟨(varsOf p, pre), ⟨hvnd, hp.1.symm, by show (varsOf p).length ≤ 100; omega⟩, rfl, fun d ⟨m, hm, e⟩ => ⟨m, okPre_fits h hp hm, e⟩⟩
  · have key : ∀ {n : Nat} {o : List DV}, LcR (fun _ b => b = true) (fun _ d => ∃ m, okAsg C p m ∧ d = .dk m) n o → ∃ ms : List Asg, o = ms.map .dk ∧ (∀ m ∈ ms, okAsg C p m) := by
      intro n o h
      induction h with
      | zero => exact ⟨[], rfl, fun m h => nomatch h⟩
      | yes _ _ pe ih =>
        obtain ⟨ms, e1, e2⟩ := ih
        obtain ⟨m, hm, ed⟩ := pe
        refine ⟨ms ++ [m], by rw [e1, ed, List.map_append]; rfl, fun q hq => ?_⟩
        rcases List.mem_append.mp hq with z | z
        · exact e2 q z
        · rw [List.mem_singleton.mp z]; exact hm
      | no _ pb ih => cases pb
    obtain ⟨ms, e1, e2⟩ := key lr
    have hl := lr.len
    rw [e1, List.length_map, List.length_map] at hl
    exact ⟨ms, ⟨by omega, e2⟩, by rw [e, e1]⟩
end JQ

-- part Ro
set_option Elab.async false
set_option linter.all false
set_option maxRecDepth 100000
set_option maxHeartbeats 4000000
/-! What is drawn: one number. -/
namespace JQ
open PySem PySem.Spec PyProof.Rows L2
/-- te comes to w and changes nothing -/
def Det (te : TE) (σ : L2.St) (H : Hp) (w : V) : Prop := ∀ Q : VK, Q w H → te σ H Q
def DetT (tt : TT) (σ : L2.St) (H : Hp) (b : Bool) : Prop := ∀ Q : Bool → Hp → Prop, Q b H → tt σ H Q
section
variable {σ : L2.St} {H : Hp} {ta tb te : TE} {i j : Int} {K : PySem.W.Frag}
theorem det_c {v : V} : Det (tC v) σ H v := fun _ q => q
theorem det_var {n : Nat} {v : V} (h : σ[n]? = some (some v)) : Det (tVar n) σ H v := fun _ q => ⟨v, h, q⟩
theorem det_i0 {g : Int → Int → V} (ha : Det ta σ H (.int i)) (hb : Det tb σ H (.int j)) : Det (tOp (rI0 g) ta tb) σ H (g i j) := fun Q q => ha _ (hb _ ⟨i, j, rfl, rfl, q⟩)
theorem det_i {C : Int → Int → Prop} {g : Int → Int → V} (ha : Det ta σ H (.int i)) (hb : Det tb σ H (.int j)) (hc : C i j) : Det (tOp (rI C g) ta tb) σ H (g i j) := fun Q q => ha _ (hb _ ⟨i, j, rfl, rfl, hc, q⟩)
theorem det_add (ha : Det ta σ H (.int i)) (hb : Det tb σ H (.int j)) : Det (tOp rAddI ta tb) σ H (.int (i + j)) := det_i0 ha hb
theorem det_mul (ha : Det ta σ H (.int i)) (hb : Det tb σ H (.int j)) (hc : CMul i j) : Det (tOp rMulI ta tb) σ H (.int (i * j)) := det_i ha hb hc
theorem det_mod (ha : Det ta σ H (.int i)) (hb : Det tb σ H (.int j)) (hc : j ≠ 0) : Det (tOp rModI ta tb) σ H (.int (i.fmod j)) := det_i ha hb hc
theorem det_div (ha : Det ta σ H (.int i)) (hb : Det tb σ H (.int j)) (hc : CDivN i j) : Det (tOp rDivI ta tb) σ H (.int (i.fdiv j)) := det_i ha hb hc
theorem det_pow (ha : Det ta σ H (.int i)) (hb : Det tb σ H (.int j)) (hc : CPow i j) : Det (tOp rPowI ta tb) σ H (.int (i ^ j.toNat)) := det_i ha hb hc
theorem det_lt (ha : Det ta σ H (.int i)) (hb : Det tb σ H (.int j)) : Det (tOp rLtI ta tb) σ H (.bl (decide (i < j))) := det_i0 ha hb
theorem det_gt (ha : Det ta σ H (.int i)) (hb : Det tb σ H (.int j)) : Det (tOp rGtI ta tb) σ H (.bl (decide (j < i))) := det_i0 ha hb
theorem det_ix {l : Addr} {xs : List V} {v : V} (ha : Det ta σ H (.ref l)) (hb : Det tb σ H (.int i)) (hl : H l = some (.lst xs)) (hv : atI xs i = some v) : Det (tOp (rIx K) ta tb) σ H v := fun Q q => ha _ (hb _ (.inl ⟨l, xs, i, v, rfl, rfl, SqL.of hl, hv, q⟩))
theorem det_len {l : Addr} {xs : List V} (ha : Det ta σ H (.ref l)) (hl : H l = some (.lst xs)) : Det (tCB (rLen K) (tCons ta tNil)) σ H (.int xs.length) := fun Q q => ha _ ⟨_, xs.length, rfl, .inl ⟨xs, SqL.of hl, rfl⟩, q⟩
theorem det_int (ha : Det ta σ H (.int i)) : Det (tCB rInt1 (tCons ta tNil)) σ H (.int i) := fun Q q => ha _ (.inl ⟨i, rfl, q⟩)
theorem det_abs (ha : Det ta σ H (.int i)) : Det (tCB rAbs (tCons ta tNil)) σ H (.int (if i < 0 then -i else i)) := fun Q q => ha _ ⟨i, rfl, q⟩
theorem det_eq (ha : Det ta σ H (.int i)) (hb : Det tb σ H (.int j)) : Det (tOp (rEqP K) ta tb) σ H (.bl (decide (i = j))) := fun Q q => ha _ (hb _ ⟨.int i, .int j, .int i, .int j, int_fine i, rfl, by rw [enc_int.eqB]; exact q⟩)
theorem detT_test {b : Bool} (h : Det te σ H (.bl b)) : DetT (tTest te) σ H b := fun Q q => h _ ⟨b, rfl, q⟩
theorem detT_and {t u : TT} {a b : Bool} (h1 : DetT t σ H a) (h2 : a = true → DetT u σ H b) : DetT (tAnd t u) σ H (a && b) := fun Q q => h1 _ (by
  cases a with
  | true => exact h2 rfl _ q
  | false => exact q)
theorem raw_if {t u : TS} {tt : TT} {D : Ends} {b : Bool} (h : DetT tt σ H b) (h1 : b = true → t D σ H) (h2 : b = false → u D σ H) : tIfS tt t u D σ H := h _ (by
  cases b with
  | true => exact h1 rfl
  | false => exact h2 rfl)
theorem raw_set {D : Ends} {n : Nat} {v : V} (h : Det te σ H v) (k : D.nx (σ.set n (some v)) H) : tAsg te (gName n) D σ H := h _ k
theorem raw_put {D : Ends} {l : Addr} {xs : List V} {v : V} {n : Nat} (h : Det te σ H v) (ho : Det ta σ H (.ref l)) (hi : Det tb σ H (.int (n : Int))) (hl : H l = some (.lst xs)) (hn : n < xs.length) (k : D.nx σ (upd H l (.lst (xs.set n v)))) : tAsg te (gSub ta tb rSetL) D σ H :=
  h _ (ho _ (hi _ ⟨l, xs, (n : Int), n, rfl, rfl, hl, by unfold ixN; rw [if_pos (by omega), if_pos (by omega)]; simp, k⟩))
theorem raw_ret {D : Ends} {v : V} (h : Det te σ H v) (k : D.rt v H) : tRet te D σ H := h _ k
end
/-- what the drawn list holds -/
structure DS (D L0 : Addr) (ds : List Int) (a b e : Int) (H : Hp) : Prop where
  h1 : H D = some (.lst [.ref L0, .int a, .int b, .int e])
  h2 : H L0 = some (.lst (ds.map V.int))
  ne : D ≠ L0
theorem DS.upd {D L0 : Addr} {ds : List Int} {a b e a' b' e' : Int} {H : Hp} (h : DS D L0 ds a b e H) : DS D L0 ds a' b' e' (upd H D (.lst [.ref L0, .int a', .int b', .int e'])) := ⟨upd_same, by rw [upd_ne (Ne.symm h.ne)]; exact h.h2, h.ne⟩
theorem JD.ds {D L0 : Addr} {H : Hp} (h : JD D L0 H) : ∃ a b e ds, DS D L0 ds a b e H ∧ 0 ≤ a ∧ 0 ≤ b ∧ 0 ≤ e ∧ e < 2147483647 := by
  obtain ⟨a, b, e, ds, h1, h2, h3⟩ := h
  refine ⟨a, b, e, ds, ⟨h1, h2, fun z => ?_⟩, h3⟩
  subst z
  rw [h1] at h2
  injection h2 with h2
  injection h2 with h2
  cases ds with
  | nil => cases h2
  | cons x ds => injection h2 with h2 _; cases h2
theorem DS.jd {D L0 : Addr} {ds : List Int} {a b e : Int} {H : Hp} (h : DS D L0 ds a b e H) (ha : 0 ≤ a) (hb : 0 ≤ b) (he : 0 ≤ e) (he2 : e < 2147483647) : JD D L0 H := ⟨a, b, e, ds, h.h1, h.h2, ha, hb, he, he2⟩
/-- a number below many -/
def R__law_take : List DV → (DV → Prop) → Prop := mkR (fun m : Int => 0 < m ∧ m < 1000) (fun m => [.p (.int m)]) fun m d => ∃ r : Nat, (r : Int) < m ∧ d = .p (.int (r : Int))
theorem take_run {c : Cf} {D L0 : Addr} {ds : List Int} {a b e m : Int} {H : Hp} {σ : L2.St} {Q : VK} {nx : L2.St → Hp → Prop} (hσ : σ.length = 4) (h0 : σ[0]? = some (some (.ref D))) (h1 : σ[1]? = some (some (.int m))) (S : DS D L0 ds a b e H) (ha : 0 ≤ a) (hb : 0 ≤ b) (he : 0 ≤ e) (he2 : e < 2147483647) (hm : 0 < m) (hm2 : m < 1000)
    (q : ∀ (r : Nat) a' b' e' H', (r : Int) < m → DS D L0 ds a' b' e' H' → 0 ≤ a' → 0 ≤ b' → 0 ≤ e' → e' < 2147483647 → (∀ x o, x ≠ D → H x = some o → H' x = some o) → Q (.int (r : Int)) H') : t__law_take c { nx := nx, rt := Q } σ H := by
  have al : ∀ {H : Hp} {o : HO}, ∀ x u, x ≠ D → H x = some u → (L2.upd H D o) x = some u := fun x u hx g => by rw [upd_ne hx]; exact g
  have mlt : ∀ z : Int, 0 ≤ z.fmod m ∧ z.fmod m < m := fun z => ⟨Int.fmod_nonneg_of_pos z hm, Int.fmod_lt_of_pos z hm⟩
  have r0 : ∀ {H : Hp} {σ : L2.St} {a b e : Int}, σ[0]? = some (some (.ref D)) → DS D L0 ds a b e H → Det (tOp (rIx c.K) (tVar 0) (tC (.int 0))) σ H (.ref L0) := fun h s => det_ix (det_var h) det_c s.h1 rfl
  have r1 : ∀ {H : Hp} {σ : L2.St} {a b e : Int}, σ[0]? = some (some (.ref D)) → DS D L0 ds a b e H → Det (tOp (rIx c.K) (tVar 0) (tC (.int 1))) σ H (.int a) := fun h s => det_ix (det_var h) det_c s.h1 rfl
  have r2 : ∀ {H : Hp} {σ : L2.St} {a b e : Int}, σ[0]? = some (some (.ref D)) → DS D L0 ds a b e H → Det (tOp (rIx c.K) (tVar 0) (tC (.int 2))) σ H (.int b) := fun h s => det_ix (det_var h) det_c s.h1 rfl
  have r3 : ∀ {H : Hp} {σ : L2.St} {a b e : Int}, σ[0]? = some (some (.ref D)) → DS D L0 ds a b e H → Det (tOp (rIx c.K) (tVar 0) (tC (.int 3))) σ H (.int e) := fun h s => det_ix (det_var h) det_c s.h1 rfl
  -- what stands behind the first if
  have tail : ∀ (a b e : Int) (H1 : Hp), DS D L0 ds a b e H1 → 0 ≤ a → 0 ≤ b → 0 ≤ e → e < 2147483647 → (∀ x o, x ≠ D → H x = some o → H1 x = some o) →
      (tSeq (tIfS (tTest (tOp rGtI (tOp (rIx c.K) (tVar 0) (tC (.int 2))) (tC (.int 0)))) (tSeq (tAsg (tOp rModI (tCB rInt1 (tCons (tOp (rIx c.K) (tVar 0) (tC (.int 2))) (tNil))) (tVar 1)) (gName 3))
        (tSeq (tAsg (tOp rDivI (tCB rInt1 (tCons (tOp (rIx c.K) (tVar 0) (tC (.int 2))) (tNil))) (tVar 1)) (gSub (tVar 0) (tC (.int 2)) rSetL))
        (tRet (tVar 3)))) (tNext))
        (tSeq (tAsg (tOp rModI (tCB rInt1 (tCons (tOp rAddI (tOp rMulI (tOp (rIx c.K) (tVar 0) (tC (.int 3))) (tC (.int 48271))) (tC (.int 11))) (tNil))) (tC (.int 2147483647))) (gSub (tVar 0) (tC (.int 3)) rSetL))
        (tRet (tOp rModI (tCB rInt1 (tCons (tOp rDivI (tOp (rIx c.K) (tVar 0) (tC (.int 3))) (tC (.int 3))) (tNil))) (tVar 1))))) { nx := nx, rt := Q } σ H1 := fun a b e H1 S ha hb he he2 k => by
    refine raw_if (b := decide (0 < b)) (detT_test (det_gt (r2 h0 S) det_c)) (fun hp => ?_) fun _ => ?_
    · refine raw_set (det_mod (det_int (r2 h0 S)) (det_var h1) (by omega)) ?_
      have h0' : (σ.set 3 (some (V.int (b.fmod m))))[0]? = some (some (.ref D)) := by rw [List.getElem?_set_ne (by decide)]; exact h0
      have h1' : (σ.set 3 (some (V.int (b.fmod m))))[1]? = some (some (.int m)) := by rw [List.getElem?_set_ne (by decide)]; exact h1
      have h3' : (σ.set 3 (some (V.int (b.fmod m))))[3]? = some (some (.int (b.fmod m))) := List.getElem?_set_self (by rw [hσ]; decide)
      refine raw_put (n := 2) (det_div (det_int (r2 h0' S)) (det_var h1') ⟨by omega, by omega⟩) (det_var h0') det_c S.h1 (lq rfl) ?_
      refine raw_ret (det_var h3') ?_
      have e1 : (b.fmod m) = (((b.fmod m).toNat : Nat) : Int) := (Int.toNat_of_nonneg (mlt b).1).symm
      rw [e1]
      exact q _ a (b.fdiv m) e _ (by rw [← e1]; exact (mlt b).2) S.upd ha (Int.fdiv_nonneg hb (by omega)) he he2 fun x u hx g => al x u hx (k x u hx g)
    · refine raw_put (n := 3) (det_mod (det_int (det_add (det_mul (r3 h0 S) det_c (.inr ⟨by decide, by decide⟩)) det_c)) det_c (by decide)) (det_var h0) det_c S.h1 (lq rfl) ?_
      have S2 : DS D L0 ds a b ((e * 48271 + 11).fmod 2147483647) _ := S.upd
      refine raw_ret (det_mod (det_int (det_div (r3 h0 S2) det_c ⟨by decide, by decide⟩)) (det_var h1) (by omega)) ?_
      generalize ((e * 48271 + 11).fmod 2147483647).fdiv 3 = z
      have e1 : (z.fmod m) = (((z.fmod m).toNat : Nat) : Int) := (Int.toNat_of_nonneg (mlt z).1).symm
      rw [e1]
      exact q _ a b _ _ (by rw [← e1]; exact (mlt z).2) S2 ha hb (Int.fmod_nonneg_of_pos _ (by decide)) (Int.fmod_lt_of_pos _ (by decide)) fun x u hx g => al x u hx (k x u hx g)
  refine raw_if (b := decide (b = 0) && decide (a < ((ds.map V.int).length : Int))) (detT_and (detT_test (det_eq (r2 h0 S) det_c)) fun _ => detT_test (det_lt (r1 h0 S) (det_len (r0 h0 S) S.h2))) (fun hp => ?_) fun _ => tail a b e H S ha hb he he2 fun _ _ _ g => g
  rw [Bool.and_eq_true, decide_eq_true_eq, decide_eq_true_eq, List.length_map] at hp
  obtain ⟨hb0, hal⟩ := hp
  have hx := List.getElem?_eq_getElem (show a.toNat < ds.length by omega)
  generalize ds[a.toNat] = z at hx
  have hat : atI (ds.map V.int) a = some (.int z) := by
    have : a = ((a.toNat : Nat) : Int) := (Int.toNat_of_nonneg ha).symm
    rw [this]
    exact at_nat (by rw [List.getElem?_map, hx]; rfl)
  refine raw_put (n := 2) (det_abs (det_int (det_ix (r0 h0 S) (r1 h0 S) S.h2 hat))) (det_var h0) det_c S.h1 (lq rfl) ?_
  have S2 : DS D L0 ds a (if z < 0 then -z else z) e _ := S.upd
  refine raw_put (n := 1) (det_add (r1 h0 S2) det_c) (det_var h0) det_c S2.h1 (lq rfl) ?_
  have S3 : DS D L0 ds (a + 1) (if z < 0 then -z else z) e _ := S2.upd
  have hz : 0 ≤ (if z < 0 then -z else z) := by split <;> omega
  generalize (if z < 0 then -z else z) = y at S2 S3 hz
  have k3 : ∀ x u, x ≠ D → H x = some u → (L2.upd (L2.upd H D (.lst [.ref L0, .int a, .int y, .int e])) D (.lst [.ref L0, .int (a + 1), .int y, .int e])) x = some u := fun x u hx g => al x u hx (al x u hx g)
  refine raw_if (b := decide (y < 10 ^ (18 : Int).toNat)) (detT_test (det_lt (r2 h0 S3) (det_pow det_c det_c ⟨by decide, by decide, by decide⟩))) (fun _ => ?_) fun _ => tail (a + 1) y e _ S3 (by omega) hz he he2 k3
  refine raw_set (det_int (r2 h0 S3)) ?_
  have h0' : (σ.set 2 (some (V.int y)))[0]? = some (some (.ref D)) := by rw [List.getElem?_set_ne (by decide)]; exact h0
  have h1' : (σ.set 2 (some (V.int y)))[1]? = some (some (.int m)) := by rw [List.getElem?_set_ne (by decide)]; exact h1
  have h2' : (σ.set 2 (some (V.int y)))[2]? = some (some (.int y)) := List.getElem?_set_self (by rw [hσ]; decide)
  refine raw_put (n := 2) det_c (det_var h0') det_c S3.h1 (lq rfl) ?_
  refine raw_ret (det_mod (det_var h2') (det_var h1') (by omega)) ?_
  have e1 : (y.fmod m) = (((y.fmod m).toNat : Nat) : Int) := (Int.toNat_of_nonneg (mlt y).1).symm
  rw [e1]
  exact q _ (a + 1) 0 e _ (by rw [← e1]; exact (mlt y).2) S3.upd (by omega) (Int.le_refl 0) he he2 fun x u hx g => al x u hx (k3 x u hx g)
theorem take_of {c : Cf} (vs : List V) (H : Hp) (Q : VK) (E : XK) (hsp : spG c R__law_take vs H Q E) : t__law_take c { nx := fun _ H' => Q .non H', rt := Q } (L2.start N__law_take vs) H := by
  obtain ⟨D, L0, M, ds, P, al, j, mD, mL, rv, ⟨m, ⟨hm, hm2⟩, e, hP⟩, q⟩ := hsp
  subst e
  cases rv with
  | cons r1 r2 => cases r2 with
    | cons r2 r3 =>
      cases r3
      have r2 := rv_p r2
      cases r1
      cases r2
      obtain ⟨a, b, e, dg, S, ha, hb, he, he2⟩ := j.ds
      refine take_run rfl rfl rfl S ha hb he he2 hm hm2 fun r a' b' e' H' hr S' ha' hb' he' he2' k => ?_
      refine q _ H' (.p (.int (r : Int))) (fun x o g hx => k x o (fun z => ?_) hx) (S'.jd ha' hb' he' he2') (.p (.int _)) (hP _ ⟨r, hr, rfl⟩)
      subst z
      have : ((x == x) || (x == L0)) = false := g
      simp at this
end JQ

-- part Rp
set_option Elab.async false
set_option linter.all false
set_option maxRecDepth 100000
set_option maxHeartbeats 4000000
/-! What is drawn: rows, tables. -/
namespace JQ
open PySem PySem.Spec PyProof.Rows L2
theorem ev_take {c : Cf} {D L0 : Addr} {ρ : Rho} {tb : TE} {m : Int} (h : ρ[0]? = some (.fz (.at_ D))) (hb : Ed c (GD D L0) tb ρ (.int m)) (hm : 0 < m) (hm2 : m < 1000) : Ev c (GD D L0) (tCall (spG c R__law_take) [] C8.E0 (tCons (tVar 0) (tCons tb tNil))) ρ (fun d => ∃ r : Nat, (r : Int) < m ∧ d = .p (.int (r : Int))) :=
  ev_callG (eva_cons1 (ev_var h) (eva_cons1 hb eva_nil)) fun as e => ⟨[.p (.int m)], e, m, ⟨hm, hm2⟩, rfl, fun _ e => e⟩
theorem ea_p {c : Cf} {G : Gx} {ρ : Rho} {ta : TE} {tr : TA} {d : DV} {ds : List DV} (h : Ev c G ta ρ (· = d)) (hr : EvA c G tr ρ (· = ds)) : EvA c G (tCons ta tr) ρ (· = d :: ds) := eva_cons1 h hr
/-! ### begin -/
/-- what is drawn from -/
def dBegun (ns : List Int) (sd : Int) : DV := .l [.l (ns.map fun n => .p (.int n)), .p (.int 0), .p (.int 0), .p (.int sd)]
theorem evn_toL {c : Cf} {G : Gx} {ρ : Rho} {te : TE} {ds : List PyData} (h : En c G te ρ (.list ds)) : EvN c G te ρ (· = .l (ds.map .p)) := fun m0 M H σ E Q q => h m0 M H σ E Q fun p H' d n f j o e => by
  subst e
  obtain ⟨vs, h1, h2⟩ := o
  exact q p H' (.l (ds.map .p)) n f j ⟨vs, h1, dpa_rva h2⟩ rfl
def R__law_begin : List DV → (DV → Prop) → Prop := mkR (fun ns : List Int => ns.length < 1000000) (fun ns => [.p (.list (ns.map .int))]) fun ns d => ∃ sd : Int, 0 ≤ sd ∧ sd < 2147483647 ∧ d = dBegun ns sd
theorem rn__law_begin {c : Cf} {G : Gx} {ns : List Int} (h : ns.length < 1000000) : Run c G (t__law_begin c) (args 3 [.p (.list (ns.map .int))]) (fun o => ∃ sd : Int, 0 ≤ sd ∧ sd < 2147483647 ∧ o = .rt (dBegun ns sd)) := by
  refine run_seq (run_set ed_int (lq rfl) ?_)
  refine run_seq (run_forLE (l := ns) (e := .int) [2] (fun i ρ' => ∃ sd : Int, ρ' = [.fz (.p (.list (ns.map .int))), .fz (.p (.int sd)), .no] ∧ 0 ≤ sd ∧ sd < 2147483647) (ed_var rfl) ⟨1, rfl, by decide, by decide⟩ (fun i n ρ' hi ⟨sd, e, h1, h2⟩ => ?_) fun ρ' ⟨sd, e, h1, h2⟩ => ?_)
  · subst e
    refine ⟨_, _, bd_name (lq rfl), run_set (ed_op (ed_op (ed_op (ed_op (es_var rfl) ed_int.s (od_mul (.inr ⟨by decide, by decide⟩))).s (ed_op (ed_cb1 (es_var rfl) cb_int).s ed_int.s (od_mod (by decide))).s od_add).s ed_int.s od_add).s ed_int.s (od_mod (by decide))) (lq rfl) ⟨_, rfl, Int.fmod_nonneg_of_pos _ (by decide), Int.fmod_lt_of_pos _ (by decide)⟩⟩
  · subst e
    refine run_ret (evn_lstX (ea_p (evn_toL (en_listOf (es_var rfl))).e (ea_p ed_int (ea_p ed_int (ea_p (ed_var rfl) eva_nil))))).e fun d e => ⟨sd, h1, h2, by rw [e, List.map_map]; rfl⟩
/-! ### rows -/
theorem lcr_all {PE : Nat → DV → Prop} : ∀ {n : Nat} {out : List DV}, LcR (fun _ b => b = true) PE n out → out.length = n ∧ ∀ d ∈ out, ∃ i, PE i d := by
  intro n out h
  induction h with
  | zero => exact ⟨rfl, fun d h => nomatch h⟩
  | @yes i out d _ _ pe ih =>
    refine ⟨by rw [List.length_append, ih.1]; rfl, fun q hq => ?_⟩
    rcases List.mem_append.mp hq with z | z
    · exact ih.2 q z
    · rw [List.mem_singleton.mp z]; exact ⟨i, pe⟩
  | no _ pb _ => cases pb
/-- a row of n numbers below 3 -/
def lowRow (n : Nat) (r : Row) : Prop := r.length = n ∧ ∀ x ∈ r, 0 ≤ x ∧ x < 3
theorem ev_draws {c : Cf} {D L0 : Addr} {ρ : Rho} {i : Nat} {n : Nat} {ta tb : TE} (h0 : ∀ k : Nat, ((clrW [i] ρ).set i (.fz (.p (.int (k : Int)))))[0]? = some (.fz (.at_ D))) (ha : Es c (GD D L0) ta ρ (.int (n : Int))) (hn : n ≤ 100) (hi : i < ρ.length) (hb : ∀ k : Nat, Ed c (GD D L0) tb ((clrW [i] ρ).set i (.fz (.p (.int (k : Int))))) (.int 3)) :
    Ev c (GD D L0) (tCB (rTupOf c.K) (tCons (tLc (iRng1 (tCons ta tNil)) (gName i) tYes (tCall (spG c R__law_take) [] C8.E0 (tCons (tVar 0) (tCons tb tNil))) [i]) tNil)) ρ (fun d => ∃ r, lowRow n r ∧ d = .p (dRow r)) := by
  have h1 := evn_lcp (c := c) (G := GD D L0) (ρ := ρ) (wi := iRng1 (tCons ta tNil)) (g := gName i) (tt := tYes) (te := tCall (spG c R__law_take) [] C8.E0 (tCons (tVar 0) (tCons tb tNil))) (vs := [i]) (PB := fun _ b => b = true) (PE := fun _ d => ∃ r : Nat, (r : Int) < 3 ∧ d = .p (.int (r : Int))) (src_range ha (by omega)) (by rw [List.length_map, List.length_range]; omega) (fun k d hd => by
    rw [List.getElem?_map] at hd
    cases hx : (List.range n)[k]? with
    | none => rw [hx] at hd; cases hd
    | some x =>
      rw [hx] at hd
      cases hd
      refine ⟨[i], _, fun _ h => h, bd_name ?_, et_yes, fun _ => ev_take (h0 x) (hb x) (by decide) (by decide)⟩
      show i < ((clrW [] ρ).set i .no).length
      rw [List.length_set]; exact hi) fun _ d ⟨r, _, e⟩ => ⟨_, e⟩
  have h2 : EvN c (GD D L0) (tLc (iRng1 (tCons ta tNil)) (gName i) tYes (tCall (spG c R__law_take) [] C8.E0 (tCons (tVar 0) (tCons tb tNil))) [i]) ρ (fun d => ∃ r, lowRow n r ∧ d = .p (.list (r.map .int))) := h1.imp fun d ⟨out, lr, ed⟩ => by
    rw [List.length_map, List.length_range] at lr
    obtain ⟨q1, q2⟩ := lcr_all lr
    rw [List.length_map] at q1
    have key : ∀ o : List PyData, (∀ d ∈ o.map DV.p, ∃ i : Nat, ∃ r : Nat, (r : Int) < 3 ∧ d = .p (.int (r : Int))) → ∃ r : Row, o = r.map .int ∧ ∀ x ∈ r, 0 ≤ x ∧ x < 3 := by
      intro o
      induction o with
      | nil => intro _; exact ⟨[], rfl, fun x h => nomatch h⟩
      | cons d o ih =>
        intro hh
        obtain ⟨r, e1, e2⟩ := ih fun d hd => hh d (List.mem_cons_of_mem _ hd)
        obtain ⟨_, x, hx, ex⟩ := hh (.p d) (List.mem_cons_self ..)
        cases ex
        refine ⟨(x : Int) :: r, by rw [e1]; rfl, fun y hy => ?_⟩
        rcases List.mem_cons.mp hy with z | z
        · rw [z]; omega
        · exact e2 y z
    obtain ⟨r, e1, e2⟩ := key out q2
    refine ⟨r, ⟨by rw [← q1, e1, List.length_map], e2⟩, by rw [ed, e1]⟩
  refine ev_cb1 h2.s fun d ⟨r, hr, e⟩ => ?_
  subst e
  intro M H u k ru Q q
  exact cb_tupL M H u k ru Q fun z H' d f j r' e => q z H' d f j r' ⟨r, hr, e⟩
/-- rows as they are drawn -/
structure DRows (n : Nat) (rs : List Row) : Prop where
  rows : ∀ r ∈ rs, lowRow n r
  asc : Asc dRow rs
  few : rs.length ≤ 5
def R__law_rows : List DV → (DV → Prop) → Prop := mkR (fun n : Nat => 1 ≤ n ∧ n ≤ 4) (fun n => [.p (.int (n : Int)), .p (.int 5), .p (.int 3)]) fun n d => ∃ rs, DRows n rs ∧ d = .p (dRows rs)
theorem rn__law_rows {c : Cf} {D L0 : Addr} {n : Nat} (h1 : 1 ≤ n) (h4 : n ≤ 4) : Run c (GD D L0) (t__law_rows c (spG c R__law_take)) (args 8 [.at_ D, .p (.int (n : Int)), .p (.int 5), .p (.int 3)]) (fun o => ∃ rs, DRows n rs ∧ o = .rt (.p (dRows rs))) := by
  refine run_seq (run_own (en_lst ea_nil) (lq rfl) ?_)
  let S : List Row → Rho := fun rs => [.fz (.at_ D), .fz (.p (.int (n : Int))), .fz (.p (.int 5)), .fz (.p (.int 3)), .ow (.p (.list (rs.map dRow))), .no, .no, .no]
  refine run_seq (run_forRP (PN := fun k => k < 6) [5, 6, 7] (fun k i ρ' => ∃ rs : List Row, ρ' = S rs ∧ rs.length ≤ i ∧ rs.Nodup ∧ ∀ r ∈ rs, lowRow n r) ((ev_take rfl (ed_op (es_var rfl) ed_int.s od_add) (by decide) (by decide)).imp fun d ⟨r, hr, e⟩ => ⟨r, e, by omega, by omega⟩).s (fun k _ => ⟨[], rfl, Nat.le_refl _, List.nodup_nil, fun r h => nomatch h⟩) (fun k i ρ' hk hi ⟨rs, e, hl, hnd, hr⟩ => ?_) fun k ρ' hk ⟨rs, e, hl, hnd, hr⟩ => ?_)
  · subst e
    refine ⟨_, _, bd_name (lq rfl), ?_⟩
    refine run_seq (run_asg (P := fun d => ∃ r, lowRow n r ∧ d = .p (dRow r)) (ev_draws (fun _ => rfl) (es_var rfl) (by omega) (lq rfl) fun _ => ed_var rfl) (lq rfl) fun d ⟨r, hlr, e⟩ => ?_)
    subst e
    refine run_if (b := !decide (r ∈ rs)) (Et.is (et_test (ed_op (es_var rfl) (evs_own rfl) (od_niL (ds := rs.map dRow) (enc_row.fine r) (enc_row.pls rs))).s) (by rw [enc_row.any])) (fun hb => ?_) fun hb => run_next ⟨rs, rfl, by omega, hnd, hr⟩
    have hb : r ∉ rs := by simpa using hb
    refine run_app rfl (ed_var rfl) (by rw [List.length_map, sizeLine_eq]; omega) ⟨rs ++ [r], ?_, by rw [List.length_append]; show rs.length + 1 ≤ _; omega, ?_, fun q hq => ?_⟩
    · refine congrArg (fun z => ([.fz (.at_ D), .fz (.p (.int (n : Int))), .fz (.p (.int 5)), .fz (.p (.int 3)), .ow (.p (.list z)), .no, .no, .no] : Rho)) ?_
      rw [List.map_append]; rfl
    · exact List.nodup_append.mpr ⟨hnd, List.pairwise_singleton .., fun a ha b hb' => by rw [List.mem_singleton.mp hb']; exact fun e => hb (e ▸ ha)⟩
    · rcases List.mem_append.mp hq with z | z
      · exact hr q z
      · rw [List.mem_singleton.mp z]; exact hlr
  · subst e
    have hs : PySem.W.Sortable (rs.map dRow) := .inl fun d hd => by
      obtain ⟨r, hm, rfl⟩ := List.mem_map.mp hd
      have := (hr r hm).1
      cases r with
      | nil => simp at this; omega
      | cons x r => exact ⟨_, _, rfl⟩
    refine run_ret (P := (· = .p (dRows (srt dRow rs)))) (Ed.is (ed_cb1 (en_cb1 (evs_own rfl) (cb_sort (enc_row.alls rs) hs fun d hd => ?_)).s cb_tupL) (by rw [map_sort]; rfl)) fun d e => ⟨srt dRow rs, ⟨fun r hm => hr r ((srt_perm dRow rs).mem_iff.mp hm), srt_asc enc_row hnd, by rw [(srt_perm dRow rs).length_eq]; omega⟩, by rw [e]⟩
    obtain ⟨r, _, rfl⟩ := List.mem_map.mp hd
    exact (enc_row.fine r).2
end JQ

-- part Rq
set_option Elab.async false
set_option linter.all false
set_option maxRecDepth 100000
set_option maxHeartbeats 4000000
/-! What is drawn: a catalogue. -/
namespace JQ
open PySem PySem.Spec PyProof.Rows L2
section
variable {c : Cf} {G : Gx} {te : TE} {ρ : Rho} {Φ : Out → Prop}
theorem run_appP {i : Nat} {ds : List PyData} {q : PyData → Prop} (h : ρ[i]? = some (.ow (.p (.list ds)))) (he : Ev c G te ρ (fun d => ∃ x, q x ∧ d = .p x)) (hl : ds.length < sizeLine) (k : ∀ x, q x → Φ (.nx (ρ.set i (.ow (.p (.list (ds ++ [x]))))))) :
    Run c G (tDrop (tBM c.K "list" rAppend (tVar i) (tCons te tNil))) ρ Φ := fun m0 H0 M H σ D E B L => by
  obtain ⟨a, h1, h2, h3, vs, h4, h5⟩ := E.ow i _ h
  refine ⟨.ref a, h1, Or.inl ⟨rfl, vs, SqL.of h4⟩, he m0 M H σ E _ fun v H1 d' f j r ⟨x, hx, e⟩ => ?_⟩
  subst e
  have E' := E.fx f j
  obtain ⟨a', q1, q2, q3, ws, q4, q5⟩ := E'.ow i _ h
  have ea : a' = a := by rw [h1] at q1; injection q1 with q1; injection q1 with q1; injection q1 with q1; exact q1.symm
  subst ea
  refine ⟨a', ws, v, rfl, rfl, q4, by rw [dpa_len q5]; exact hl, L.nx _ _ ⟨M, _, E'.setW (d' := .p (.list (ds ++ [x]))) h h1 (by rw [q4]; intro _ z; cases z) ⟨ws ++ [v], upd_same, ?_⟩, (B.fxx f).upd q2 q3, k x hx⟩⟩
  refine dpa_app (dpa_mono ?_ q5) (.cons (dp_mono ?_ (rv_p r)) .nil) <;>
  · intro b u q
    obtain ⟨z1, z2⟩ := hid_some q
    rw [hid_get z1, upd_ne (fun z => by subst z; rw [h2] at z1; cases z1)]; exact z2
end
/-- the name of the table k of n columns -/
def nm (k n : Nat) : Str := (⟨#[97 + k]⟩ : Str) ++ ((toString (n : Int) : String) : Str)
def okWB (w : Str) : Bool := decide (w ≠ "") && decide (w.length ≤ 20) && (match w.cps.toList with | a :: _ => decide (a ∈ ("abcdefghijklmnopqrstuvwxyz" : Str).cps.toList) | [] => false) && w.cps.toList.all fun b => decide (b ∈ ("abcdefghijklmnopqrstuvwxyz0123456789" : Str).cps.toList)
theorem okW_of {w : Str} (h : okWB w = true) : okW w := by
  unfold okWB at h
  rw [Bool.and_eq_true, Bool.and_eq_true, Bool.and_eq_true, decide_eq_true_eq, decide_eq_true_eq, List.all_eq_true] at h
  obtain ⟨⟨⟨h1, h2⟩, h3⟩, h4⟩ := h
  refine ⟨h1, h2, ?_, fun b hb => of_decide_eq_true (h4 b hb)⟩
  cases e : w.cps.toList with
  | nil => rw [e] at h3; cases h3
  | cons a l =>
    rw [e] at h3
    exact ⟨a, at_nat (j := 0) rfl, of_decide_eq_true h3⟩
theorem nm_ok {k n : Nat} (hk : k < 3) (h1 : 1 ≤ n) (h4 : n ≤ 4) : okW (nm k n) := by
  have : ∀ k < 3, ∀ n < 5, 1 ≤ n → okWB (nm k n) = true := by decide +kernel
  exact okW_of (this k hk n (by omega) h1)
theorem nm_lt {i j n m : Nat} (hij : i < j) (hj : j < 3) (h4 : n ≤ 4) (h5 : m ≤ 4) : ltE PyData.str (nm i n) (nm j m) := by
  have : ∀ i < 3, ∀ j < 3, i < j → ∀ n < 5, ∀ m < 5, decide ((nm i n).cps.toList < (nm j m).cps.toList) = true := by decide +kernel
  unfold ltE
  rw [PySem.W.dataLt_str]
  exact this i (by omega) j hj hij n (by omega) m (by omega)
structure DCat (C : Cat) : Prop where
  g : GCat C
  ne : C ≠ []
  low : ∀ t ∈ C, ∀ r ∈ t.2.2, ∀ x ∈ r, 0 ≤ x ∧ x < 3
def tabAt (i : Nat) (t : Tab) : Prop := 1 ≤ t.2.1 ∧ t.2.1 ≤ 4 ∧ t.1 = nm i t.2.1 ∧ DRows t.2.1 t.2.2
theorem dcat_of {ts : List Tab} (h : ∀ i t, ts[i]? = some t → tabAt i t) (h1 : 1 ≤ ts.length) (h3 : ts.length ≤ 3) : DCat ts where
  g := ⟨fun t ht => by
      obtain ⟨i, hi⟩ := List.getElem?_of_mem ht
      obtain ⟨a, b, e, d⟩ := h i t hi
      have il := (List.getElem?_eq_some_iff.mp hi).1
      exact ⟨by rw [e]; exact nm_ok (by omega) a b, a, b, fun r hr => ⟨(d.rows r hr).1, fun x hx => by have := (d.rows r hr).2 x hx; omega⟩, d.asc, d.few⟩,
    List.pairwise_iff_getElem.mpr fun i j hi hj hij => by
      rw [List.length_map] at hi hj
      rw [List.getElem_map, List.getElem_map]
      obtain ⟨_, b, e, _⟩ := h i ts[i] (List.getElem?_eq_getElem hi)
      obtain ⟨_, b', e', _⟩ := h j ts[j] (List.getElem?_eq_getElem hj)
      rw [e, e']
      exact nm_lt hij (by omega) b b', h3⟩
  ne := fun e => by rw [e] at h1; cases h1
  low := fun t ht r hr x hx => by
    obtain ⟨i, hi⟩ := List.getElem?_of_mem ht
    obtain ⟨_, _, _, d⟩ := h i t hi
    exact (d.rows r hr).2 x hx
def R__law_catalogue : List DV → (DV → Prop) → Prop := mkR (fun _ : Unit => True) (fun _ => [.p (.int 3), .p (.int 5), .p (.int 3)]) fun _ d => ∃ C, DCat C ∧ d = .p (dCat C)
theorem rn__law_catalogue {c : Cf} {D L0 : Addr} : Run c (GD D L0) (t__law_catalogue c (spG c R__law_take) (spG c R__law_rows)) (args 7 [.at_ D, .p (.int 3), .p (.int 5), .p (.int 3)]) (fun o => ∃ C, DCat C ∧ o = .rt (.p (dCat C))) := by
  refine run_seq (run_own (en_lst ea_nil) (lq rfl) ?_)
  let S : List Tab → Rho := fun ts => [.fz (.at_ D), .fz (.p (.int 3)), .fz (.p (.int 5)), .fz (.p (.int 3)), .ow (.p (.list (ts.map dTab))), .no, .no]
  refine run_seq (run_forRP (PN := fun k => 1 ≤ k ∧ k ≤ 3) [5, 6] (fun k i ρ' => ∃ ts : List Tab, ρ' = S ts ∧ ts.length = i ∧ ∀ j t, ts[j]? = some t → tabAt j t)
    (ev_op (P1 := (· = .p (.int 1))) (P2 := fun d => ∃ r : Nat, (r : Int) < 3 ∧ d = .p (.int (r : Int))) ed_int.s (ev_take rfl (ed_var rfl) (by decide) (by decide)).s fun x y e1 ⟨r, hr, e2⟩ => by
      subst e1 e2
      intro M H u v k r1 r2 Q q
      exact od_add M H u v k r1 r2 Q fun z H' d f j r' e => q z H' d f j r' ⟨1 + r, by rw [e]; exact congrArg (fun z => DV.p (.int z)) (by omega), by omega, by omega⟩).s
    (fun k _ => ⟨[], rfl, rfl, fun j t h => by simp at h⟩) (fun k i ρ' ⟨hk1, hk3⟩ hi ⟨ts, e, hl, ht⟩ => ?_) fun k ρ' ⟨hk1, hk3⟩ ⟨ts, e, hl, ht⟩ => ?_)
  · subst e
    have i3 : i < 3 := by omega
    refine ⟨_, _, bd_name (lq rfl), ?_⟩
    refine run_seq (run_asg (P := fun d => ∃ n : Nat, 1 ≤ n ∧ n ≤ 4 ∧ d = .p (.int (n : Int))) (ev_op (P1 := (· = .p (.tuple [.int 2, .int 2, .int 2, .int 1, .int 3, .int 4]))) (P2 := fun d => ∃ r : Nat, (r : Int) < 6 ∧ d = .p (.int (r : Int))) (ed_tup (ea_cons ed_int (ea_cons ed_int (ea_cons ed_int (ea_cons ed_int (ea_cons ed_int (ea_cons ed_int ea_nil))))))).s (ev_take rfl ed_int (by decide) (by decide)).s fun x y e1 ⟨r, hr, e2⟩ => ?_) (lq rfl) fun d ⟨n, h1, h4, e⟩ => ?_)
    · subst e1 e2
      have : ∃ n : Nat, 1 ≤ n ∧ n ≤ 4 ∧ atI [PyData.int 2, .int 2, .int 2, .int 1, .int 3, .int 4] (r : Int) = some (.int (n : Int)) := by
        have : r < 6 := by omega
        match r, this with
        | 0, _ => exact ⟨2, by decide, by decide, rfl⟩
        | 1, _ => exact ⟨2, by decide, by decide, rfl⟩
        | 2, _ => exact ⟨2, by decide, by decide, rfl⟩
        | 3, _ => exact ⟨1, by decide, by decide, rfl⟩
        | 4, _ => exact ⟨3, by decide, by decide, rfl⟩
        | 5, _ => exact ⟨4, by decide, by decide, rfl⟩
        | r + 6, h => omega
      obtain ⟨n, h1, h4, ea⟩ := this
      intro M H u v k r1 r2 Q q
      exact od_ixT ea M H u v k r1 r2 Q fun z H' d f j r' e => q z H' d f j r' ⟨n, h1, h4, e⟩
    subst e
    refine run_seq (run_if (b := decide ((2 : Int) < n) && false) (et_and (et_test (ed_op (es_var rfl) ed_int.s od_gt).s) fun _ => Et.is (et_test (ed_op (es_var rfl) ed_int.s od_gt).s) rfl) (fun h => by rw [Bool.and_false] at h; cases h) fun _ => run_next ?_)
    have ha : atI ("abcdefgh" : Str).cps.toList (i : Int) = some (97 + i) := by
      match i, i3 with
      | 0, _ => rfl
      | 1, _ => rfl
      | 2, _ => rfl
      | i + 3, h => omega
    have hs : (⟨#[97 + i]⟩ : Str).length + ((toString (n : Int) : String) : Str).length ≤ sizeLine := by
      have : ∀ n < 5, ((toString ((n : Nat) : Int) : String) : Str).length ≤ 10 := by decide +kernel
      have := this n (by omega)
      have e1 : (⟨#[97 + i]⟩ : Str).length = 1 := rfl
      rw [sizeLine_eq]; omega
    have hel : Ev c (GD D L0) (tTup (tCons (tOp rAddS (tOp (rIx c.K) (tC (.str "abcdefgh")) (tVar 5)) (tCB rStrI (tCons (tVar 6) (tNil)))) (tCons (tVar 6) (tCons (tCall (spG c R__law_rows) [] C8.E0 (tCons (tVar 0) (tCons (tVar 6) (tCons (tVar 2) (tCons (tVar 3) (tNil)))))) (tNil))))) [.fz (.at_ D), .fz (.p (.int 3)), .fz (.p (.int 5)), .fz (.p (.int 3)), .ow (.p (.list (ts.map dTab))), .fz (.p (.int (i : Int))), .fz (.p (.int (n : Int)))] (fun d => ∃ x, (∃ t, tabAt i t ∧ x = dTab t) ∧ d = .p x) :=
      ev_tup (eva_cons (ed_op (ed_op ed_str.s (es_var rfl) (od_ixS (by rw [sizeLine_eq]; decide) ha)).s (ed_cb1 (es_var rfl) (cb_str (by
          have : ∀ n < 5, ((n : Nat) : Int).natAbs.log2 < 1920 := by decide +kernel
          exact this n (by omega)))).s (od_adds hs)) (eva_cons (ed_var rfl) (eva_cons (ev_callG (P := fun d => ∃ rs, DRows n rs ∧ d = .p (dRows rs)) (ea_p (ev_var rfl) (ea_p (ed_var rfl) (ea_p (ed_var rfl) (ea_p (ed_var rfl) eva_nil)))) fun as e => ⟨_, e, n, ⟨h1, h4⟩, rfl, fun _ e => e⟩) eva_nil))) fun l ⟨d1, l1, e1, p1, d2, l2, e2, p2, d3, l3, e3, ⟨rs, hrs, p3⟩, p4⟩ => by
        subst e1 e2 e3 p1 p2 p3 p4
        exact ⟨sl3 (by show 3 ≤ 100; decide), [.str (nm i n), .int (n : Int), dRows rs], rfl, dTab (nm i n, n, rs), ⟨_, ⟨h1, h4, rfl, hrs⟩, rfl⟩, rfl⟩
    refine run_appP rfl hel (by rw [List.length_map, sizeLine_eq]; omega) fun x ⟨t, htt, e⟩ => ?_
    subst e
    refine ⟨ts ++ [t], ?_, by rw [List.length_append, hl]; rfl, fun j u hu => ?_⟩
    · refine congrArg (fun z => ([.fz (.at_ D), .fz (.p (.int 3)), .fz (.p (.int 5)), .fz (.p (.int 3)), .ow (.p (.list z)), .no, .no] : Rho)) ?_
      rw [List.map_append]; rfl
    · rcases Nat.lt_or_ge j ts.length with z | z
      · rw [List.getElem?_append_left z] at hu; exact ht j u hu
      · rw [List.getElem?_append_right z] at hu
        cases hz : j - ts.length with
        | zero =>
          rw [hz] at hu
          cases hu
          have : j = i := by omega
          rw [this]; exact htt
        | succ q => rw [hz] at hu; cases hu
  · subst e
    exact run_ret (ed_cb1 (evs_own rfl) cb_tupL) fun d e => ⟨ts, dcat_of ht (by omega) (by omega), by rw [e]; rfl⟩
end JQ

-- part Rr
set_option Elab.async false
set_option linter.all false
set_option maxRecDepth 100000
set_option maxHeartbeats 4000000
/-! What is drawn: a pattern. -/
namespace JQ
open PySem PySem.Spec PyProof.Rows L2
section
variable {c : Cf} {G : Gx} {te : TE} {ρ : Rho} {P : DV → Prop}
theorem cb_tupN {xs : List Str} : CbD c G (rTupN c.K) (.p (.list (xs.map .str))) (· = .tN xs) := fun M H u k ru Q q => by
  obtain ⟨a, vs, e, h1, h2⟩ := ru.lst
  rw [dpa_strs h2] at h1
  exact ⟨a, xs, by rw [e], h1, fun p o n ho => q _ _ _ (Fx.of (same_new n)) (k.jnew n) (.tN ⟨o, by rw [hid_get (k.free n)]; exact upd_same, ho⟩) rfl⟩
theorem ev_tupXP {t : TA} {PA : List DV → Prop} (h : EvA c G t ρ PA) (hl : ∀ l, PA l → l.length ≤ sizeLine ∧ P (.tp l)) : Ev c G (tTup t) ρ P := fun m0 M H σ E Q q =>
  h m0 M H σ E _ fun vs H1 xs f1 j1 r1 p1 => by
    obtain ⟨z, hp⟩ := hl xs p1
    refine ⟨by rw [rva_len r1]; exact z, fun p n => ?_⟩
    have k1 := E.k.fx f1 j1
    exact q _ _ _ (f1.trans (Fx.of (same_new n))) (k1.jnew n) (.tp (SqT.of (by rw [hid_get (k1.free n)]; exact upd_same)) (rva_mono (k1.hidS (Fx.of (same_new n))) r1)) hp
end
def six : List Str := ["x", "y", "z", "u", "v", "w"]
theorem six_ok {n : Nat} (hn : n ≤ 3) : ∀ v ∈ six.take n, okW v := by
  have : ∀ n < 4, ∀ v ∈ six.take n, okWB v = true := by decide +kernel
  exact fun v hv => okW_of (this n (by omega) v hv)
/-- an atom as it is drawn -/
def drAtom (C : Cat) (ns : List Str) (a : Atom) : Prop := (∃ t ∈ C, t.1 = a.1 ∧ t.2.1 = a.2.length) ∧ ∀ v ∈ a.2, v ∈ ns
theorem gpat_of {C : Cat} {n : Nat} (hn : n ≤ 3) {as : List Atom} (h : ∀ a ∈ as, drAtom C (six.take n) a) (h1 : 1 ≤ as.length) (h3 : as.length ≤ 3) {hd : List Str} (hnd : hd.Nodup) (hs : ∀ v ∈ hd, v ∈ varsOf (hd, as)) : GPat C (hd, as) where
  at_ := ⟨fun a ha => (h a ha).1, fun a ha v hv => six_ok hn v ((h a ha).2 v hv), (fun e => by
    have e : as = [] := e
    rw [e] at h1; cases h1), h3⟩
  few := by
    have nd : (varsOf (hd, as)).Nodup := nd_dd List.nodup_nil
    have := nd.length_le_of_subset (l₂ := six.take n) fun v hv => by
      obtain ⟨a, ha, hva⟩ := varsOf_mem.mp hv
      exact (h a ha).2 v hva
    rw [List.length_take] at this
    omega
  hd := hnd
  sub := hs
def R__law_pattern : List DV → (DV → Prop) → Prop := mkR DCat (fun C => [.p (dCat C), .p (.int 3), .p (.int 3)]) fun C d => ∃ p, GPat C p ∧ d = nPat p
theorem rn__law_pattern {c : Cf} {D L0 : Addr} {C : Cat} (h : DCat C) : Run c (GD D L0) (t__law_pattern c (spG c R__law_take) R__law_variables) (args 13 [.at_ D, .p (dCat C), .p (.int 3), .p (.int 3)]) (fun o => ∃ p, GPat C p ∧ o = .rt (nPat p)) := by
  have g := h.g
  have hC1 : 1 ≤ C.length := List.length_pos_iff.mpr h.ne
  have hC3 := g.few
  have plus : ∀ {ρ : Rho} {tm : TE} {m : Nat}, ρ[0]? = some (.fz (.at_ D)) → Ed c (GD D L0) tm ρ (.int 3) → EvS c (GD D L0) (tOp rAddI (tC (.int 1)) (tCall (spG c R__law_take) [] C8.E0 (tCons (tVar 0) (tCons tm tNil)))) ρ (fun d => ∃ n : Nat, d = .p (.int (n : Int)) ∧ (1 ≤ n ∧ n ≤ 3)) := fun h0 hm =>
    (ev_op (P1 := (· = .p (.int 1))) (P2 := fun d => ∃ r : Nat, (r : Int) < 3 ∧ d = .p (.int (r : Int))) ed_int.s (ev_take h0 hm (by decide) (by decide)).s fun x y e1 ⟨r, hr, e2⟩ => by
      subst e1 e2
      intro M H u v k r1 r2 Q q
      exact od_add M H u v k r1 r2 Q fun z H' d f j r' e => q z H' d f j r' ⟨1 + r, by rw [e]; exact congrArg (fun z => DV.p (.int z)) (by omega), by omega, by omega⟩).s
  -- the names
  refine run_seq (run_asgN (P := fun d => ∃ n : Nat, (1 ≤ n ∧ n ≤ 3) ∧ d = .p (.list ((six.take n).map .str))) ((en_slLP (ds := six.map .str) (PL := (· = none)) (PH := fun o => ∃ i : Int, o = some i ∧ ∃ n : Nat, i = (n : Int) ∧ 1 ≤ n ∧ n ≤ 3) (En.e (en_lst (ea_cons ed_str (ea_cons ed_str (ea_cons ed_str (ea_cons ed_str (ea_cons ed_str (ea_cons ed_str ea_nil)))))))).s eo_none (eo_someP (PI := fun i => ∃ n : Nat, i = (n : Int) ∧ 1 ≤ n ∧ n ≤ 3) ((plus (m := 0) rfl (ed_var rfl)).imp fun d ⟨n, e, hn⟩ => ⟨(n : Int), e, n, rfl, hn⟩))).imp fun d ⟨lo, hi, e1, ⟨i, e2, n, e3, hn⟩, e⟩ => ⟨n, hn, by
      subst e1 e2 e3
      rw [e, cut_to, List.map_take]⟩) (lq rfl) fun d ⟨nv, ⟨hv1, hv3⟩, e⟩ => ?_)
  subst e
  refine run_freeze (i := 4) rfl ?_
  have hnl : (six.take nv).length = nv := by rw [List.length_take]; show min nv 6 = nv; omega
  refine run_seq (run_asgN (evn_lstX eva_nil) (lq rfl) fun d e => ?_)
  subst e
  let S : List Atom → Rho := fun as => [.fz (.at_ D), .fz (.p (dCat C)), .fz (.p (.int 3)), .fz (.p (.int 3)), .fz (.p (.list ((six.take nv).map .str))), .ow (.l (as.map nAtom)), .no, .no, .no, .no, .no, .no, .no]
  refine run_seq (run_forRP (PN := fun k => 1 ≤ k ∧ k ≤ 3) [6, 7, 8] (fun k i ρ' => ∃ as : List Atom, ρ' = S as ∧ as.length = i ∧ ∀ a ∈ as, drAtom C (six.take nv) a) ((plus (m := 0) rfl (ed_var rfl)).imp fun d ⟨n, e, hn⟩ => ⟨n, e, hn, by omega⟩) (fun k _ => ⟨[], rfl, rfl, fun a h => nomatch h⟩) (fun k i ρ' ⟨hk1, hk3⟩ hi ⟨as, e, hl, ha⟩ => ?_) fun k ρ' ⟨hk1, hk3⟩ ⟨as, e, hl, ha⟩ => ?_)
  · subst e
    refine ⟨_, _, bd_name (lq rfl), ?_⟩
    refine run_seq (run_asg (P := fun d => ∃ t, t ∈ C ∧ d = .p (dTab t)) (ev_op (P1 := (· = .p (dCat C))) (P2 := fun d => ∃ r : Nat, (r : Int) < (C.length : Int) ∧ d = .p (.int (r : Int))) (es_var rfl) (ev_take rfl (ed_cb1 (es_var rfl) cb_lenTE) (by omega) (by omega)).s fun x y e1 ⟨r, hr, e2⟩ => ?_) (lq rfl) fun d ⟨t, ht, e⟩ => ?_)
    · subst e1 e2
      have hx := List.getElem?_eq_getElem (show r < C.length by omega)
      intro M H u v k r1 r2 Q q
      exact od_ixT (atE hx) M H u v k r1 r2 Q fun z H' d f j r' e => q z H' d f j r' ⟨_, List.mem_of_getElem? hx, e⟩
    subst e
    have h4 := (g.tabs t ht).c4
    -- the variables
    have hvs : Ev c (GD D L0) (tCB (rTupN c.K) (tCons (tLc (iRng1 (tCons (tOp (rIx c.K) (tVar 7) (tC (.int 1))) (tNil))) (gName 8) (tYes) (tOp (rIx c.K) (tVar 4) (tCall (spG c R__law_take) [] C8.E0 (tCons (tVar 0) (tCons (tCB (rLen c.K) (tCons (tVar 4) (tNil))) (tNil))))) [8]) (tNil))) [.fz (.at_ D), .fz (.p (dCat C)), .fz (.p (.int 3)), .fz (.p (.int 3)), .fz (.p (.list ((six.take nv).map .str))), .ow (.l (as.map nAtom)), .fz (.p (.int (i : Int))), .fz (.p (dTab t)), .no, .no, .no, .no, .no] (fun d => ∃ vs : List Str, (vs.length = t.2.1 ∧ ∀ v ∈ vs, v ∈ six.take nv) ∧ d = .tN vs) := by
      have h1 := evn_lcp (c := c) (G := GD D L0) (ρ := [.fz (.at_ D), .fz (.p (dCat C)), .fz (.p (.int 3)), .fz (.p (.int 3)), .fz (.p (.list ((six.take nv).map .str))), .ow (.l (as.map nAtom)), .fz (.p (.int (i : Int))), .fz (.p (dTab t)), .no, .no, .no, .no, .no]) (wi := iRng1 (tCons (tOp (rIx c.K) (tVar 7) (tC (.int 1))) tNil)) (g := gName 8) (tt := tYes) (te := (tOp (rIx c.K) (tVar 4) (tCall (spG c R__law_take) [] C8.E0 (tCons (tVar 0) (tCons (tCB (rLen c.K) (tCons (tVar 4) (tNil))) (tNil)))))) (vs := [8]) (PB := fun _ b => b = true) (PE := fun _ d => ∃ v, v ∈ six.take nv ∧ d = .p (.str v)) (src_range (n := t.2.1) (ed_op (es_var rfl) ed_int.s (od_ixT rfl)).s (by omega)) (by rw [List.length_map, List.length_range]; omega) (fun k d hd => by
        rw [List.getElem?_map] at hd
        cases hx : (List.range t.2.1)[k]? with
        | none => rw [hx] at hd; cases hd
        | some x =>
          rw [hx] at hd
          cases hd
          refine ⟨[8], _, fun _ h => h, bd_name (lq rfl), et_yes, fun _ => ev_op (P1 := (· = .p (.list ((six.take nv).map .str)))) (P2 := fun d => ∃ r : Nat, (r : Int) < ((six.take nv).length : Int) ∧ d = .p (.int (r : Int))) (es_var rfl) (ev_take rfl (ed_cb1 (es_var rfl) cb_lenLE) (by rw [hnl]; omega) (by rw [hnl]; omega)).s fun a b e1 ⟨r, hr, e2⟩ => ?_⟩
          subst e1 e2
          have hx := List.getElem?_eq_getElem (show r < (six.take nv).length by omega)
          intro M H u v k r1 r2 Q q
          exact od_ixL (atE hx) M H u v k r1 r2 Q fun z H' d f j r' e => q z H' d f j r' ⟨_, List.mem_of_getElem? hx, e⟩) fun _ d ⟨r, _, e⟩ => ⟨_, e⟩
      have h2 : EvN c (GD D L0) _ _ (fun d => ∃ vs : List Str, (vs.length = t.2.1 ∧ ∀ v ∈ vs, v ∈ six.take nv) ∧ d = .p (.list (vs.map .str))) := h1.imp fun d ⟨out, lr, ed⟩ => by
        rw [List.length_map, List.length_range] at lr
        obtain ⟨q1, q2⟩ := lcr_all lr
        rw [List.length_map] at q1
        have key : ∀ o : List PyData, (∀ d ∈ o.map DV.p, ∃ i : Nat, ∃ v, v ∈ six.take nv ∧ d = .p (.str v)) → ∃ vs : List Str, o = vs.map .str ∧ ∀ v ∈ vs, v ∈ six.take nv := by
          intro o
          induction o with
          | nil => intro _; exact ⟨[], rfl, fun x h => nomatch h⟩
          | cons d o ih =>
            intro hh
            obtain ⟨r, e1, e2⟩ := ih fun d hd => hh d (List.mem_cons_of_mem _ hd)
            obtain ⟨_, x, hx, ex⟩ := hh (.p d) (List.mem_cons_self ..)
            cases ex
            refine ⟨x :: r, by rw [e1]; rfl, fun y hy => ?_⟩
            rcases List.mem_cons.mp hy with z | z
            · rw [z]; exact hx
            · exact e2 y z
        obtain ⟨vs, e1, e2⟩ := key out q2
        refine ⟨vs, ⟨by rw [← q1, e1, List.length_map], e2⟩, by rw [ed, e1]⟩
      refine ev_cb1 h2.s fun d ⟨vs, hvs, e⟩ => ?_
      subst e
      intro M H u k ru Q q
      exact cb_tupN M H u k ru Q fun z H' d f j r' e => q z H' d f j r' ⟨vs, hvs, e⟩
    refine run_appL (P := fun d => ∃ a, drAtom C (six.take nv) a ∧ d = nAtom a) rfl ?_ (by rw [List.length_map, sizeLine_eq]; omega) fun d ⟨a, had, e⟩ => ?_
    · refine ev_tupXP (eva_cons (P := (· = .p (.str t.1))) (ed_op (x := .p (dTab t)) (y := .p (.int 0)) (es_var rfl) ed_int.s (od_ixT rfl)) (eva_cons hvs eva_nil)) fun l ⟨d1, l1, e1, p1, d2, l2, e2, ⟨vs, hvs, p2⟩, p3⟩ => ?_
      subst e1 e2 p1 p2 p3
      exact ⟨sl3 (by show 2 ≤ 100; decide), (t.1, vs), ⟨⟨t, ht, rfl, hvs.1.symm⟩, hvs.2⟩, rfl⟩
    · subst e
      refine ⟨as ++ [a], ?_, by rw [List.length_append, hl]; rfl, fun q hq => ?_⟩
      · refine congrArg (fun z => ([.fz (.at_ D), .fz (.p (dCat C)), .fz (.p (.int 3)), .fz (.p (.int 3)), .fz (.p (.list ((six.take nv).map .str))), .ow (.l z), .no, .no, .no, .no, .no, .no, .no] : Rho)) ?_
        rw [List.map_append]; rfl
      · rcases List.mem_append.mp hq with z | z
        · exact ha q z
        · rw [List.mem_singleton.mp z]; exact had
  subst e
  have as1 : 1 ≤ as.length := by omega
  have as3 : as.length ≤ 3 := by omega
  have hg0 : GPat C ([], as) := gpat_of hv3 ha as1 as3 List.nodup_nil fun v h => nomatch h
  have hvar : ∀ hd, varsOf (hd, as) = varsOf (([] : List Str), as) := fun _ => rfl
  have hvl : (varsOf (([] : List Str), as)).length ≤ 3 := hg0.few
  refine run_seq (run_asg (P := (· = nPat ([], as))) (ev_tupX (ds := [.p (dVars []), .tp (as.map nAtom)]) (ea_p (ed_tup ea_nil) (ea_p (ev_tupLX (evs_own rfl)) eva_nil))) (lq rfl) fun d e => ?_)
  subst e
  refine run_seq (run_asg (P := (· = .p (dVars (varsOf (([] : List Str), as))))) ((ev_call (P := (· = .tN (varsOf (([] : List Str), as)))) (PA := (· = [.p (dPat ([], as))])) (ea_p ((ev_var (d := nPat ([], as)) rfl).conv fun _ _ r => rv_nPat r) eva_nil) fun ds e => by subst e; exact ⟨(C, ([], as)), ⟨g, hg0⟩, rfl, fun _ e => e⟩).conv fun _ _ r => rva_tN r) (lq rfl) fun d e => ?_)
  subst e
  refine run_seq (run_own (en_lst ea_nil) (lq rfl) ?_)
  let vr := varsOf (([] : List Str), as)
  let S2 : Slot → Slot → List Str → Rho := fun a b hd => [.fz (.at_ D), .fz (.p (dCat C)), .fz (.p (.int 3)), .fz (.p (.int 3)), .fz (.p (.list ((six.take nv).map .str))), .ow (.l (as.map nAtom)), .no, .no, .no, .fz (nPat ([], as)), .fz (.p (dVars vr)), .ow (.p (.list (hd.map .str))), .no]
  refine run_forget 6 ?_
  refine run_seq (run_forR (n := vr.length) [6, 12] (fun i ρ' => ∃ hd : List Str, ρ' = S2 .no .no hd ∧ hd.length ≤ i ∧ hd.Nodup ∧ ∀ v ∈ hd, v ∈ vr) (ed_cb1 (es_var rfl) cb_lenTE).s (by show (varsOf (([] : List Str), as)).length < _; omega) ⟨[], rfl, Nat.le_refl _, List.nodup_nil, fun v h => nomatch h⟩ (fun i ρ' hi ⟨hd, e, hl, hnd, hs⟩ => ?_) fun ρ' ⟨hd, e, hl, hnd, hs⟩ => ?_)
  · subst e
    have hv3' : vr.length ≤ 3 := hvl
    refine ⟨_, _, bd_name (lq rfl), ?_⟩
    refine run_seq (run_asg (P := fun d => ∃ v, v ∈ vr ∧ d = .p (.str v)) (ev_op (P1 := (· = .p (dVars vr))) (P2 := fun d => ∃ r : Nat, (r : Int) < (vr.length : Int) ∧ d = .p (.int (r : Int))) (es_var rfl) (ev_take rfl (ed_cb1 (es_var rfl) cb_lenTE) (by omega) (by omega)).s fun x y e1 ⟨r, hr, e2⟩ => ?_) (lq rfl) fun d ⟨v, hv, e⟩ => ?_)
    · subst e1 e2
      have hx := List.getElem?_eq_getElem (show r < vr.length by omega)
      intro M H u v k r1 r2 Q q
      exact od_ixT (atE hx) M H u v k r1 r2 Q fun z H' d f j r' e => q z H' d f j r' ⟨_, List.mem_of_getElem? hx, e⟩
    subst e
    refine run_ifP (PB := fun b => b = true → v ∉ hd) ?_ (fun hb => ?_) fun _ => run_next ⟨hd, rfl, by omega, hnd, hs⟩
    · intro m0 M H σ E Q q
      refine evt_and (PA := fun b => b = !decide (v ∈ hd)) (PB := fun _ => True) (Et.is (et_test (ed_op (es_var rfl) (evs_own rfl) (od_niL (ds := hd.map .str) (str_fine _) (enc_str.pls _))).s) (by rw [enc_str.any])) (fun _ => evt_test ((ev_op (P1 := fun d => ∃ r : Nat, (r : Int) < 3 ∧ d = .p (.int (r : Int))) (P2 := (· = .p (.int 0))) (P := fun d => ∃ b, d = .p (.bool b) ∧ True) (ev_take rfl ed_int (by decide) (by decide)).s ed_int.s fun x y ⟨r, hr, e1⟩ e2 => by
        subst e1 e2
        intro M H u v k r1 r2 Q q
        exact od_gt M H u v k r1 r2 Q fun z H' d f j r' e => q z H' d f j r' ⟨_, e, trivial⟩)).s) m0 M H σ E Q fun b H' f j hb => q b H' f j fun hbt => ?_
      rcases hb with ⟨h1, _⟩ | ⟨h1, h2⟩
      · have h1 := h1.symm
        simpa using h1
      · rw [h2] at hbt; cases hbt
    · have hb := hb rfl
      refine run_app rfl (ed_var rfl) (by rw [List.length_map, sizeLine_eq]; omega) ⟨hd ++ [v], ?_, by rw [List.length_append]; show hd.length + 1 ≤ _; omega, ?_, fun q hq => ?_⟩
      · show _ = S2 .no .no (hd ++ [v])
        refine congrArg (fun z => ([.fz (.at_ D), .fz (.p (dCat C)), .fz (.p (.int 3)), .fz (.p (.int 3)), .fz (.p (.list ((six.take nv).map .str))), .ow (.l (as.map nAtom)), .no, .no, .no, .fz (nPat ([], as)), .fz (.p (dVars vr)), .ow (.p (.list z)), .no] : Rho)) ?_
        rw [List.map_append]; rfl
      · exact List.nodup_append.mpr ⟨hnd, List.pairwise_singleton .., fun a ha b hb' => by rw [List.mem_singleton.mp hb']; exact fun e => hb (e ▸ ha)⟩
      · rcases List.mem_append.mp hq with z | z
        · exact hs q z
        · rw [List.mem_singleton.mp z]; exact hv
  · subst e
    refine run_ret (P := (· = nPat (hd, as))) (ev_tupX (ds := [.p (dVars hd), .tp (as.map nAtom)]) (ea_p ((ev_tupN (xs := hd) (evs_own rfl)).conv fun _ _ r => rva_tN r) (ea_p (ev_tupLX (evs_own rfl)) eva_nil))) fun d e => ⟨(hd, as), gpat_of hv3 ha as1 as3 hnd hs, by rw [e]⟩
end JQ

-- part Rs
set_option Elab.async false
set_option linter.all false
set_option maxRecDepth 100000
set_option maxHeartbeats 4000000
/-! The common numbers of ascending rows: the plain part. -/
namespace JQ
open PySem PySem.Spec PyProof.Rows L2
/-- k is the first place from s on whose number isn't below n -/
def PF (row : List Int) (s : Nat) (n : Int) (k : Nat) : Prop := s ≤ k ∧ k ≤ row.length ∧ (∀ i y, s ≤ i → i < k → row[i]? = some y → y < n) ∧ ∀ i y, k ≤ i → row[i]? = some y → n ≤ y
def upw (row : List Int) : Prop := row.Pairwise (· < ·)
theorem upw_le {row : List Int} (h : upw row) {i j : Nat} {x y : Int} (hi : row[i]? = some x) (hj : row[j]? = some y) (hij : i ≤ j) : x ≤ y := by
  obtain ⟨l1, e1⟩ := List.getElem?_eq_some_iff.mp hi
  obtain ⟨l2, e2⟩ := List.getElem?_eq_some_iff.mp hj
  rcases Nat.lt_or_ge i j with z | z
  · have := List.pairwise_iff_getElem.mp h i j l1 l2 z
    omega
  · have : i = j := by omega
    subst this
    omega
def rowAt (rows : List (List Int)) (j : Nat) : List Int := rows.getD j []
theorem rowAt_mem {rows : List (List Int)} {j : Nat} (h : j < rows.length) : rowAt rows j ∈ rows := by
  unfold rowAt
  rw [List.getD_eq_getElem?_getD, List.getElem?_eq_getElem h]
  exact List.getElem_mem h
theorem rowAt_get {rows : List (List Int)} {j : Nat} (h : j < rows.length) : rows[j]? = some (rowAt rows j) := by
  unfold rowAt
  rw [List.getD_eq_getElem?_getD, List.getElem?_eq_getElem h]; rfl
def Com (rows : List (List Int)) (x : Int) : Prop := ∀ r ∈ rows, x ∈ r
abbrev pAt (pl : List Nat) (j : Nat) : Nat := pl.getD j 0
theorem pAt_set {pl : List Nat} {k n j : Nat} (hk : k < pl.length) : pAt (pl.set k n) j = if j = k then n else pAt pl j := by
  unfold pAt
  rw [List.getD_eq_getElem?_getD, List.getD_eq_getElem?_getD]
  by_cases e : j = k
  · subst e; rw [List.getElem?_set_self hk, if_pos rfl]; rfl
  · rw [List.getElem?_set_ne (Ne.symm e), if_neg e]
structure CI (rows : List (List Int)) (pl : List Nat) (fs : List Int) (k a : Nat) : Prop where
  ln : pl.length = rows.length
  kk : k < rows.length
  aa : a < rows.length
  le : ∀ j, j < rows.length → pAt pl j ≤ (rowAt rows j).length
  com : ∀ x ∈ fs, Com rows x
  rest : ∀ x, Com rows x → x ∈ fs ∨ ∀ j, j < rows.length → ∃ i, pAt pl j ≤ i ∧ (rowAt rows j)[i]? = some x
  agr : ∀ t g, 1 ≤ t → t ≤ a → (rowAt rows k)[pAt pl k]? = some g → (rowAt rows ((k + rows.length - t) % rows.length))[pAt pl ((k + rows.length - t) % rows.length)]? = some g
  low : fs = [] ∨ ∃ j0, j0 < rows.length ∧ ∀ x ∈ fs, ∀ i y, pAt pl j0 ≤ i → (rowAt rows j0)[i]? = some y → x < y
  asc : fs.Pairwise (· < ·)
theorem CI.start {rows : List (List Int)} (h : 0 < rows.length) : CI rows (List.replicate rows.length 0) [] 0 0 where
  ln := List.length_replicate ..
  kk := h
  aa := h
  le := fun j hj => by
    unfold pAt
    rw [List.getD_eq_getElem?_getD, List.getElem?_replicate, if_pos hj]; exact Nat.zero_le _
  com := fun x h => nomatch h
  rest := fun x hx => .inr fun j hj => by
    obtain ⟨i, hi⟩ := List.getElem?_of_mem (hx _ (rowAt_mem hj))
    refine ⟨i, ?_, hi⟩
    unfold pAt
    rw [List.getD_eq_getElem?_getD, List.getElem?_replicate, if_pos hj]; exact Nat.zero_le _
  agr := fun t g h1 h2 => by omega
  low := .inl rfl
  asc := .nil
section
variable {rows : List (List Int)} {pl : List Nat} {fs : List Int} {k a : Nat} (I : CI rows pl fs k a) (hup : ∀ r ∈ rows, upw r) {g : Int} (hg : (rowAt rows k)[pAt pl k]? = some g)
include I hup hg
theorem CI.ge {x : Int} (hx : ∀ j, j < rows.length → ∃ i, pAt pl j ≤ i ∧ (rowAt rows j)[i]? = some x) : g ≤ x := by
  obtain ⟨i, h1, h2⟩ := hx k I.kk
  exact upw_le (hup _ (rowAt_mem I.kk)) hg h2 h1
theorem CI.found (ha : a + 1 = rows.length) {n : Nat} (hn : PF (rowAt rows k) (pAt pl k) (g + 1) n) : CI rows (pl.set k n) (fs ++ [g]) k 0 := by
  have kl : k < pl.length := by rw [I.ln]; exact I.kk
  obtain ⟨n1, n2, n3, n4⟩ := hn
  -- every row stands at g
  have all : ∀ j, j < rows.length → (rowAt rows j)[pAt pl j]? = some g := fun j hj => by
    by_cases e : j = k
    · subst e; exact hg
    · have hk := I.kk
      have : ∃ t, 1 ≤ t ∧ t ≤ a ∧ (k + rows.length - t) % rows.length = j := by
        rcases Nat.lt_or_ge j k with z | z
        · refine ⟨k - j, by omega, by omega, ?_⟩
          have : k + rows.length - (k - j) = j + rows.length := by omega
          rw [this, Nat.add_mod_right, Nat.mod_eq_of_lt hj]
        · refine ⟨k + rows.length - j, by omega, by omega, ?_⟩
          have : k + rows.length - (k + rows.length - j) = j := by omega
          rw [this, Nat.mod_eq_of_lt hj]
      obtain ⟨t, t1, t2, e2⟩ := this
      have := I.agr t g t1 t2 hg
      rw [e2] at this
      exact this
  have less : ∀ x ∈ fs, x < g := fun x hx => by
    rcases I.low with e | ⟨j0, hj, hl⟩
    · rw [e] at hx; cases hx
    · exact hl x hx _ g (Nat.le_refl _) (all j0 hj)
  refine ⟨by rw [List.length_set]; exact I.ln, I.kk, by have := I.kk; omega, fun j hj => ?_, fun x hx => ?_, fun x hx => ?_, fun t g h1 h2 => by omega, .inr ⟨k, I.kk, fun x hx i y hi hy => ?_⟩, ?_⟩
  · rw [pAt_set kl]
    by_cases e : j = k
    · subst e; rw [if_pos rfl]; exact n2
    · rw [if_neg e]; exact I.le j hj
  · rcases List.mem_append.mp hx with z | z
    · exact I.com x z
    · rw [List.mem_singleton.mp z]
      intro r hr
      obtain ⟨j, hj⟩ := List.getElem?_of_mem hr
      have jl := (List.getElem?_eq_some_iff.mp hj).1
      have := all j jl
      rw [rowAt_get jl] at hj
      cases hj
      exact List.mem_of_getElem? this
  · rcases I.rest x hx with z | z
    · exact .inl (List.mem_append_left _ z)
    · by_cases e : x = g
      · subst e; exact .inl (List.mem_append_right _ (List.mem_singleton.mpr rfl))
      · have ge := I.ge hup hg z
        refine .inr fun j hj => ?_
        obtain ⟨i, h1, h2⟩ := z j hj
        rw [pAt_set kl]
        by_cases ej : j = k
        · subst ej
          rw [if_pos rfl]
          refine ⟨i, ?_, h2⟩
          rcases Nat.lt_or_ge i n with w | w
          · have := n3 i x h1 w h2; omega
          · exact w
        · rw [if_neg ej]; exact ⟨i, h1, h2⟩
  · rw [pAt_set kl, if_pos rfl] at hi
    have := n4 i y hi hy
    rcases List.mem_append.mp hx with z | z
    · have := less x z; omega
    · rw [List.mem_singleton.mp z]; omega
  · exact List.pairwise_append.mpr ⟨I.asc, List.pairwise_singleton .., fun x hx y hy => by rw [List.mem_singleton.mp hy]; exact less x hx⟩
theorem CI.next (ha : a + 1 < rows.length) {k' n : Nat} (hk' : k' = (k + 1) % rows.length) (hn : PF (rowAt rows k') (pAt pl k') g n) {a' : Nat} (ha' : a' = 0 ∨ (a' = a + 1 ∧ ((rowAt rows k')[n]? = none ∨ (rowAt rows k')[n]? = some g))) : CI rows (pl.set k' n) fs k' a' := by
  have hk := I.kk
  have kr : k' < rows.length := by rw [hk']; exact Nat.mod_lt _ (by omega)
  have kl : k' < pl.length := by rw [I.ln]; exact kr
  obtain ⟨n1, n2, n3, n4⟩ := hn
  refine ⟨by rw [List.length_set]; exact I.ln, kr, by omega, fun j hj => ?_, I.com, fun x hx => ?_, fun t g' h1 h2 h3 => ?_, ?_, I.asc⟩
  · rw [pAt_set kl]
    by_cases e : j = k'
    · subst e; rw [if_pos rfl]; exact n2
    · rw [if_neg e]; exact I.le j hj
  · rcases I.rest x hx with z | z
    · exact .inl z
    · have ge := I.ge hup hg z
      refine .inr fun j hj => ?_
      obtain ⟨i, h1, h2⟩ := z j hj
      rw [pAt_set kl]
      by_cases ej : j = k'
      · subst ej
        rw [if_pos rfl]
        refine ⟨i, ?_, h2⟩
        rcases Nat.lt_or_ge i n with w | w
        · have := n3 i x h1 w h2; omega
        · exact w
      · rw [if_neg ej]; exact ⟨i, h1, h2⟩
  · rcases ha' with e | ⟨e, hv⟩
    · omega
    · rw [pAt_set kl, if_pos rfl] at h3
      have eg : g' = g := by
        rcases hv with z | z
        · rw [z] at h3; cases h3
        · rw [z] at h3; exact (Option.some.inj h3).symm
      subst eg
      -- the row t places before k' is the row t - 1 places before k
      have ej : (k' + rows.length - t) % rows.length = (k + rows.length - (t - 1)) % rows.length := by
        rcases Nat.lt_or_ge (k + 1) rows.length with z | z
        · rw [hk', Nat.mod_eq_of_lt z]
          congr 1; omega
        · have : k + 1 = rows.length := by omega
          rw [hk', this, Nat.mod_self]
          have e1 : k + rows.length - (t - 1) = rows.length - t + rows.length := by omega
          rw [e1, Nat.add_mod_right]
          congr 1; omega
      have hne : (k' + rows.length - t) % rows.length ≠ k' := fun z => by
        rcases Nat.lt_or_ge k' t with w | w
        · have : k' + rows.length - t < rows.length := by omega
          rw [Nat.mod_eq_of_lt this] at z; omega
        · have : k' + rows.length - t = (k' - t) + rows.length := by omega
          rw [this, Nat.add_mod_right, Nat.mod_eq_of_lt (by omega)] at z; omega
      rw [pAt_set kl, if_neg hne, ej]
      rcases Nat.lt_or_ge 1 t with w | w
      · exact I.agr (t - 1) g' (by omega) (by omega) hg
      · have : t = 1 := by omega
        subst this
        rw [Nat.sub_self, Nat.sub_zero, Nat.add_mod_right, Nat.mod_eq_of_lt hk]; exact hg
  · rcases I.low with e | ⟨j0, hj, hl⟩
    · exact .inl e
    · refine .inr ⟨j0, hj, fun x hx i y hi hy => hl x hx i y ?_ hy⟩
      rw [pAt_set kl] at hi
      by_cases e : j0 = k'
      · subst e; rw [if_pos rfl] at hi; omega
      · rw [if_neg e] at hi; exact hi
end
/-- numbers of the rows above g -/
def cnt (rows : List (List Int)) (g : Int) : Nat := (rows.flatten.filter fun x => decide (g < x)).length
theorem cnt_lt {rows : List (List Int)} {g g' : Int} {r : List Int} (hr : r ∈ rows) (hg : g' ∈ r) (h : g < g') : cnt rows g' + 1 ≤ cnt rows g := by
  have hm : g' ∈ rows.flatten := List.mem_flatten.mpr ⟨r, hr, hg⟩
  unfold cnt
  generalize rows.flatten = L at hm
  induction L with
  | nil => cases hm
  | cons x L ih =>
    have sub : ∀ L : List Int, (L.filter fun x => decide (g' < x)).length ≤ (L.filter fun x => decide (g < x)).length := by
      intro L
      induction L with
      | nil => exact Nat.le_refl _
      | cons y L ih =>
        rw [List.filter_cons, List.filter_cons]
        by_cases e : g' < y
        · rw [if_pos (by simpa using e), if_pos (by simp; omega), List.length_cons, List.length_cons]; omega
        · rw [if_neg (by simpa using e)]
          split
          · rw [List.length_cons]; omega
          · exact ih
    rw [List.filter_cons, List.filter_cons]
    rcases List.mem_cons.mp hm with e | hm
    · subst e
      rw [if_neg (by simp), if_pos (by simpa using h), List.length_cons]
      have := sub L
      omega
    · have := ih hm
      by_cases e : g' < x
      · rw [if_pos (by simpa using e), if_pos (by simp; omega), List.length_cons, List.length_cons]; omega
      · rw [if_neg (by simpa using e)]
        split
        · rw [List.length_cons]; omega
        · exact this
def mu (rows : List (List Int)) (pl : List Nat) (k a : Nat) : Nat := match (rowAt rows k)[pAt pl k]? with
  | some g => 1 + (rows.length + 1) * cnt rows g + (rows.length - a)
  | none => 0
end JQ

-- part Rt
set_option Elab.async false
set_option linter.all false
set_option maxRecDepth 100000
set_option maxHeartbeats 4000000
/-! The common numbers of ascending rows: the walk. -/
namespace JQ
open PySem PySem.Spec PyProof.Rows L2
def R_place_from : List DV → (DV → Prop) → Prop := mkR (fun x : List Int × Nat × Int => upw x.1 ∧ x.2.1 ≤ x.1.length ∧ x.1.length < 1000000) (fun x => [.p (dRow x.1), .p (.int (x.2.1 : Int)), .p (.int x.2.2)]) fun x d => ∃ k, PF x.1 x.2.1 x.2.2 k ∧ d = .p (.int (k : Int))
theorem rn_place_from {c : Cf} {G : Gx} {row : List Int} {s : Nat} {n : Int} (h : upw row) (hs : s ≤ row.length) (hl : row.length < 1000000) : Run c G (t_place_from c) (args 6 [.p (dRow row), .p (.int (s : Int)), .p (.int n)]) (fun o => ∃ k, PF row s n k ∧ o = .rt (.p (.int (k : Int)))) := by
  let S : Nat → Nat → Rho := fun lo hi => [.fz (.p (dRow row)), .fz (.p (.int (s : Int))), .fz (.p (.int n)), .fz (.p (.int (lo : Int))), .fz (.p (.int (hi : Int))), .no]
  refine run_seq (run_set (ed_var rfl) (lq rfl) ?_)
  refine run_seq (run_set (ed_cb1 (es_var rfl) cb_lenTE) (lq rfl) ?_)
  refine run_seq (run_while [5] (fun m ρ' => ∃ lo hi, ρ' = S lo hi ∧ s ≤ lo ∧ lo ≤ hi ∧ hi ≤ row.length ∧ m = hi - lo ∧ (∀ i y, s ≤ i → i < lo → row[i]? = some y → y < n) ∧ ∀ i y, hi ≤ i → row[i]? = some y → n ≤ y) (row.length - s) ⟨s, row.length, rfl, Nat.le_refl _, hs, Nat.le_refl _, rfl, fun i y h1 h2 => by omega, fun i y h1 h2 => by rw [List.getElem?_eq_none h1] at h2; cases h2⟩ fun m ρ' ⟨lo, hi, e, h1, h2, h3, hm, h4, h5⟩ => ?_)
  · subst e
    refine ⟨decide ((lo : Int) < (hi : Int)), et_test (ed_op (es_var rfl) (es_var rfl) od_lt).s, fun hb => ?_, fun hb => ?_⟩
    · have hlt : lo < hi := by have := of_decide_eq_true hb; omega
      have em : ((lo : Int) + (hi : Int)).fdiv 2 = (((lo + hi) / 2 : Nat) : Int) := by
        have : ((lo : Int) + (hi : Int)) = ((lo + hi : Nat) : Int) := by omega
        rw [this]; exact (Int.ofNat_fdiv (lo + hi) 2).symm
      have hmid : (lo + hi) / 2 < row.length := by omega
      have hx := List.getElem?_eq_getElem hmid
      generalize row[(lo + hi) / 2] = y at hx
      refine run_seq (run_set (Ed.is (ed_op (ed_op (es_var rfl) (es_var rfl) od_add).s ed_int.s (od_div ⟨by decide, by decide⟩)) (congrArg PyData.int em)) (lq rfl) ?_)
      refine run_if (b := decide (y < n)) (et_test (ed_op (ed_op (es_var rfl) (es_var rfl) (od_ixT (atE hx))).s (es_var rfl) od_lt).s) (fun hc => ?_) fun hc => ?_
      · have hc := of_decide_eq_true hc
        have e1 : ((((lo + hi) / 2 : Nat) : Int) + 1) = (((lo + hi) / 2 + 1 : Nat) : Int) := by omega
        refine run_set (Ed.is (ed_op (es_var rfl) ed_int.s od_add) (congrArg PyData.int e1)) (lq rfl) ⟨hi - ((lo + hi) / 2 + 1), by omega, (lo + hi) / 2 + 1, hi, rfl, by omega, by omega, h3, rfl, fun i z g1 g2 g3 => ?_, h5⟩
        have := upw_le h g3 hx (by omega)
        omega
      · have hc := of_decide_eq_false hc
        refine run_set (ed_var rfl) (lq rfl) ⟨(lo + hi) / 2 - lo, by omega, lo, (lo + hi) / 2, rfl, h1, by omega, by omega, rfl, h4, fun i z g1 g2 => ?_⟩
        have := upw_le h hx g2 g1
        omega
    · have hlt : lo = hi := by have := of_decide_eq_false hb; omega
      subst hlt
      exact run_retD (ed_var rfl) ⟨lo, ⟨h1, h3, h4, h5⟩, rfl⟩
theorem en_rep {c : Cf} {G : Gx} {ta tb : TE} {ρ : Rho} {d : PyData} {n : Nat} (ha : En c G ta ρ (.list [d])) (hb : Ed c G tb ρ (.int (n : Int))) (hn : n ≤ 1000) : En c G (tOp rRep ta tb) ρ (.list (List.replicate n d)) := fun m0 M H σ E Q q =>
  ha m0 M H σ E _ fun p H1 d1 np f1 j1 o e1 => by
    subst e1
    have E1 := E.grow np f1 j1 o
    refine hb m0 (ins p M) H1 σ E1 _ fun u H2 d2 f2 j2 r2 e2 => ?_
    subst e2
    have hg : G.g p = false := by
      cases e : G.g p with
      | false => rfl
      | true => obtain ⟨w, z⟩ := E.k.al p (E.k.gm p e); rw [np] at z; cases z
    obtain ⟨vs, g1, g2⟩ := o
    have k2 := E1.k.fx f2 j2
    have g3 := f2 p _ hg g1
    have g4 := dpa_mono (E1.k.hidS f2) g2
    have hv := dpa_len g4
    have r2 := rv_p r2
    cases r2
    refine ⟨p, (n : Int), vs, rfl, rfl, g3, by omega, by omega, ?_, fun p2 n2 => ?_⟩
    · rw [hv, sizeLine_eq]
      show 1 * ((n : Int)).toNat ≤ _
      omega
    · have en : ((n : Int)).toNat = n := Int.toNat_natCast n
      rw [en]
      have n1 : H1 p2 = none := free_of E1.k f2 n2 j2
      have n0 : H p2 = none := free_of E.k f1 n1 j1
      have kM := (E.k.fx f1 j1).fx f2 j2
      have g5 := flat_rep (dpa_mono (hid_less (M' := M) ins_less) g4) n
      rw [flat_one] at g5
      exact q p2 _ _ n0 ((f1.trans f2).trans (Fx.of (same_new n2))) (kM.jnew n2) (ow_newL kM n2 g5) rfl
theorem run_setLP {c : Cf} {G : Gx} {te ti : TE} {ρ : Rho} {Φ : Out → Prop} {i j : Nat} {ds : List PyData} {q : PyData → Prop} (h : ρ[i]? = some (.ow (.p (.list ds)))) (he : Ev c G te ρ (fun d => ∃ x, q x ∧ d = .p x)) (hj : Es c G ti ρ (.int (j : Int))) (hl : j < ds.length) (k : ∀ x, q x → Φ (.nx (ρ.set i (.ow (.p (.list (ds.set j x))))))) :
    Run c G (tAsg te (gSub (tVar i) ti rSetL)) ρ Φ := fun m0 H0 M H σ D E B L => by
  refine he m0 M H σ E _ fun v H1 d' f1 j1 r1 ⟨x, hx, e⟩ => ?_
  subst e
  have E1 := E.fx f1 j1
  obtain ⟨a, h1, h2, h3, vs, h4, h5⟩ := E1.ow i _ h
  refine ⟨.ref a, h1, hj m0 M H1 σ E1 _ fun u H2 d2 f2 j2 r2 e2 => ?_⟩
  subst e2
  have E2 := E1.fx f2 j2
  obtain ⟨a', q1, q2, q3, ws, q4, q5⟩ := E2.ow i _ h
  have ea : a' = a := by rw [h1] at q1; injection q1 with q1; injection q1 with q1; injection q1 with q1; exact q1.symm
  subst ea
  have hw : j < ws.length := by rw [dpa_len q5]; exact hl
  refine ⟨a', ws, (j : Int), j, rfl, r2.int, q4, ?_, L.nx _ _ ⟨M, _, E2.setW (d' := .p (.list (ds.set j x))) h h1 (by rw [q4]; intro _ z; cases z) ⟨ws.set j v, upd_same, ?_⟩, ((B.fxx f1).fxx f2).upd q2 q3, k x hx⟩⟩
  · unfold ixN
    rw [if_pos (by omega), if_pos (by omega)]
    simp
  have hs : Same (hid M H2) (hid M (upd H2 a' (.lst (ws.set j v)))) := fun b u q => by
    obtain ⟨z1, z2⟩ := hid_some q
    rw [hid_get z1, upd_ne (fun z => by subst z; rw [h2] at z1; cases z1)]; exact z2
  exact dpa_set (dp_mono hs (dp_mono (E1.k.hidS f2) (rv_p r1))) _ (dpa_mono hs q5)
structure okRows (rows : List (List Int)) : Prop where
  ne : 0 < rows.length
  few : rows.length ≤ 100
  up : ∀ r ∈ rows, upw r
  low : ∀ r ∈ rows, ∀ x ∈ r, 0 ≤ x ∧ x < 10
theorem okRows.len {rows : List (List Int)} (h : okRows rows) {r : List Int} (hr : r ∈ rows) : r.length ≤ 10 := lt_ten (h.up r hr) (h.low r hr)
def R_common : List DV → (DV → Prop) → Prop := mkR okRows (fun rows => [.p (.list (rows.map dRow))]) fun rows d => ∃ cs : List Int, cs.length ≤ 10 ∧ (∀ x, x ∈ cs ↔ Com rows x) ∧ d = .p (dRow cs)
def dPl (pl : List Nat) : PyData := .list (pl.map fun n : Nat => .int (n : Int))
theorem rn_common {c : Cf} {G : Gx} {rows : List (List Int)} (h : okRows rows) : Run c G (t_common c R_place_from) (args 7 [.p (.list (rows.map dRow))]) (fun o => ∃ cs : List Int, cs.length ≤ 10 ∧ (∀ x, x ∈ cs ↔ Com rows x) ∧ o = .rt (.p (dRow cs))) := by
  have hne := h.ne
  have hf := h.few
  let S : List Nat → List Int → Nat → Nat → Slot → Rho := fun pl fs k a g => [.fz (.p (.list (rows.map dRow))), .ow (.p (dPl pl)), .ow (.p (.list (fs.map .int))), .fz (.p (.int (k : Int))), .fz (.p (.int (a : Int))), .no, g]
  have fsl : ∀ {pl : List Nat} {fs : List Int} {k a : Nat}, CI rows pl fs k a → fs.length ≤ 10 := fun I => lt_ten I.asc fun x hx => by
    have hr := rowAt_mem hne
    exact h.low _ hr x (I.com x hx _ hr)
  refine run_seq (run_if (b := false) (Et.is (et_test (ed_op (ed_cb1 (es_var rfl) cb_lenLE).s ed_int.s (od_eq (int_fine _) rfl)).s) (by rw [enc_int.eqB]; exact decide_eq_false (by omega))) (fun h => nomatch h) fun _ => run_next ?_)
  refine run_seq (run_own (En.is (en_rep (en_lst (ea_cons ed_int ea_nil)) (ed_cb1 (es_var rfl) cb_lenLE) (by omega)) (show _ = dPl (List.replicate rows.length 0) by unfold dPl; rw [List.map_replicate]; rfl)) (lq rfl) ?_)
  refine run_seq (run_own (en_lst ea_nil) (lq rfl) ?_)
  refine run_seq (run_set ed_int (lq rfl) ?_)
  refine run_seq (run_set ed_int (lq rfl) ?_)
  refine run_seq (run_while [5, 6] (fun m ρ' => ∃ pl fs k a, ρ' = S pl fs k a .no ∧ CI rows pl fs k a ∧ mu rows pl k a = m) (mu rows (List.replicate rows.length 0) 0 0) ⟨_, [], 0, 0, rfl, CI.start hne, rfl⟩ fun m ρ' ⟨pl, fs, k, a, e, I, hm⟩ => ?_)
  · subst e
    have hkr := I.kk
    have hpl : pl.length = rows.length := I.ln
    have plx : ∀ j, j < rows.length → pl[j]? = some (pAt pl j) := fun j hj => by
      unfold pAt
      rw [List.getD_eq_getElem?_getD, List.getElem?_eq_getElem (by omega)]; rfl
    have ipl : ∀ {ρ : Rho} {tj : TE} (j : Nat), j < rows.length → ρ[1]? = some (.ow (.p (dPl pl))) → Es c G tj ρ (.int (j : Int)) → Ed c G (tOp (rIx c.K) (tVar 1) tj) ρ (.int (pAt pl j : Nat)) := fun j hj h1 h2 => ed_op (evs_own h1) h2 (od_ixL (at_nat (by rw [List.getElem?_map, plx j hj]; rfl)))
    have irow : ∀ {ρ : Rho} {tj : TE} (j : Nat), j < rows.length → ρ[0]? = some (.fz (.p (.list (rows.map dRow)))) → Es c G tj ρ (.int (j : Int)) → Ed c G (tOp (rIx c.K) (tVar 0) tj) ρ (dRow (rowAt rows j)) := fun j hj h1 h2 => ed_op (es_var h1) h2 (od_ixL (atE (rowAt_get hj)))
    refine ⟨(List.range rows.length).all fun j => decide ((pAt pl j : Int) < (rowAt rows j).length), et_B (ed_cb1 (en_lc1 (List.range rows.length) (fun j => .p (.int (j : Int))) (fun j => .bool (decide ((pAt pl j : Int) < (rowAt rows j).length))) (src_range (ed_cb1 (es_var rfl) cb_lenLE).s (by omega)) (by rw [List.length_range]; omega) fun j hj => ⟨_, _, fun _ h => h, bd_name (lq rfl), ed_op (ipl j (List.mem_range.mp hj) rfl (es_var rfl)).s (ed_cb1 (irow j (List.mem_range.mp hj) rfl (es_var rfl)).s cb_lenTE).s od_lt⟩).s cb_allF).s, fun hb => ?_, fun hb => ?_⟩
    · have hall : ∀ j, j < rows.length → pAt pl j < (rowAt rows j).length := fun j hj => by
        have := List.all_eq_true.mp hb j (List.mem_range.mpr hj)
        have := of_decide_eq_true this
        omega
      have hgl := hall k hkr
      have hg := List.getElem?_eq_getElem hgl
      generalize (rowAt rows k)[pAt pl k] = g at hg
      have hmu : mu rows pl k a = 1 + (rows.length + 1) * cnt rows g + (rows.length - a) := by unfold mu; rw [hg]
      have hupk := h.up _ (rowAt_mem hkr)
      have hlk := h.len (rowAt_mem hkr)
      have hfs := fsl I
      refine run_seq (run_set (ed_op (irow k hkr rfl (es_var rfl)).s (ipl k hkr rfl (es_var rfl)).s (od_ixT (atE hg))) (lq rfl) ?_)
      have e1 : ((a : Int) + 1) = ((a + 1 : Nat) : Int) := by omega
      refine run_seq (run_set (Ed.is (ed_op (es_var rfl) ed_int.s od_add) (congrArg PyData.int e1)) (lq rfl) ?_)
      refine run_if (b := decide (((a + 1 : Nat) : Int) = (rows.length : Int))) (Et.is (et_test (ed_op (es_var rfl) (ed_cb1 (es_var rfl) cb_lenLE).s (od_eq (int_fine _) rfl)).s) (enc_int.eqB _ _)) (fun hc => ?_) fun hc => ?_
      · have hc : a + 1 = rows.length := by have := of_decide_eq_true hc; omega
        refine run_seq (run_app (d := .int g) rfl (ed_var rfl) (by rw [List.length_map, sizeLine_eq]; omega) ?_)
        refine run_seq (run_set (ed_op (es_var rfl) ed_int.s od_add) (lq rfl) ?_)
        refine run_seq (run_set ed_int (lq rfl) ?_)
        refine run_setLP (q := fun x => ∃ n, PF (rowAt rows k) (pAt pl k) (g + 1) n ∧ x = .int (n : Int)) (ds := pl.map fun n : Nat => .int (n : Int)) rfl (ev_call (ea_cons (irow k hkr rfl (es_var rfl)) (ea_cons (ipl k hkr rfl (es_var rfl)) (ea_cons (ed_var rfl) ea_nil))) fun ds e => by subst e; exact ⟨(rowAt rows k, pAt pl k, g + 1), ⟨hupk, I.le k hkr, by show (rowAt rows k).length < _; omega⟩, rfl, fun d ⟨n, h1, h2⟩ => ⟨_, ⟨n, h1, rfl⟩, h2⟩⟩) (es_var rfl) (by rw [List.length_map]; omega) fun x ⟨n, hn, e⟩ => ?_
        subst e
        have I2 := I.found h.up hg hc hn
        refine ⟨mu rows (pl.set k n) k 0, ?_, pl.set k n, fs ++ [g], k, 0, ?_, I2, rfl⟩
        · rw [← hm, hmu]
          unfold mu
          rw [pAt_set (by omega), if_pos rfl]
          cases hz : (rowAt rows k)[n]? with
          | none => show 0 < _; omega
          | some g' =>
            have := hn.2.2.2 n g' (Nat.le_refl _) hz
            have hc2 := cnt_lt (rowAt_mem hkr) (List.mem_of_getElem? hz) (show g < g' by omega)
            show 1 + (rows.length + 1) * cnt rows g' + (rows.length - 0) < _
            have : (rows.length + 1) * (cnt rows g' + 1) ≤ (rows.length + 1) * cnt rows g := Nat.mul_le_mul_left _ hc2
            rw [Nat.mul_add] at this
            omega
        · have e3 : (pl.map fun n : Nat => PyData.int (n : Int)).set k (.int (n : Int)) = (pl.set k n).map fun n : Nat => .int (n : Int) := by rw [List.map_set]
          have e4 : fs.map PyData.int ++ [.int g] = (fs ++ [g]).map .int := by rw [List.map_append]; rfl
          let F : List PyData → List PyData → Rho := fun x y => [.fz (.p (.list (rows.map dRow))), .ow (.p (.list x)), .ow (.p (.list y)), .fz (.p (.int (k : Int))), .fz (.p (.int 0)), .no, .no]
          exact (congrArg (fun x => F x _) e3).trans (congrArg (F _) e4)
      · have hc : a + 1 ≠ rows.length := by have := of_decide_eq_false hc; omega
        have hlt : a + 1 < rows.length := by have := I.aa; omega
        have kr : (k + 1) % rows.length < rows.length := Nat.mod_lt _ hne
        have e2 : (((k : Int) + 1).fmod (rows.length : Int)) = (((k + 1) % rows.length : Nat) : Int) := by
          have : ((k : Int) + 1) = ((k + 1 : Nat) : Int) := by omega
          rw [this]; exact (Int.ofNat_fmod (k + 1) rows.length).symm
        refine run_seq (run_set (Ed.is (ed_op (ed_op (es_var rfl) ed_int.s od_add).s (ed_cb1 (es_var rfl) cb_lenLE).s (od_mod (by omega))) (congrArg PyData.int e2)) (lq rfl) ?_)
        generalize hk' : (k + 1) % rows.length = k' at kr
        have hupk' := h.up _ (rowAt_mem kr)
        have hlk' := h.len (rowAt_mem kr)
        refine run_seq (run_setLP (q := fun x => ∃ n, PF (rowAt rows k') (pAt pl k') g n ∧ x = .int (n : Int)) (ds := pl.map fun n : Nat => .int (n : Int)) rfl (ev_call (ea_cons (irow k' kr rfl (es_var rfl)) (ea_cons (ipl k' kr rfl (es_var rfl)) (ea_cons (ed_var rfl) ea_nil))) fun ds e => by subst e; exact ⟨(rowAt rows k', pAt pl k', g), ⟨hupk', I.le k' kr, by show (rowAt rows k').length < _; omega⟩, rfl, fun d ⟨n, h1, h2⟩ => ⟨_, ⟨n, h1, rfl⟩, h2⟩⟩) (es_var rfl) (by rw [List.length_map]; omega) fun x ⟨n, hn, e⟩ => ?_)
        subst e
        have hpn : pAt (pl.set k' n) k' = n := by rw [pAt_set (by omega), if_pos rfl]
        have ems : (pl.map fun n : Nat => PyData.int (n : Int)).set k' (.int (n : Int)) = (pl.set k' n).map fun n : Nat => .int (n : Int) := by rw [List.map_set]
        refine nx_eq (ρ' := [.fz (.p (.list (rows.map dRow))), .ow (.p (dPl (pl.set k' n))), .ow (.p (.list (fs.map .int))), .fz (.p (.int (k' : Int))), .fz (.p (.int ((a + 1 : Nat) : Int))), .no, .fz (.p (.int g))]) (congrArg (fun x => ([.fz (.p (.list (rows.map dRow))), .ow (.p (.list x)), .ow (.p (.list (fs.map .int))), .fz (.p (.int (k' : Int))), .fz (.p (.int ((a + 1 : Nat) : Int))), .no, .fz (.p (.int g))] : Rho)) ems) ?_
        have hplx : (pl.set k' n)[k']? = some n := List.getElem?_set_self (by omega)
        have ipl2 : ∀ {ρ : Rho}, ρ[1]? = some (.ow (.p (dPl (pl.set k' n)))) → Es c G (tVar 3) ρ (.int (k' : Int)) → Ed c G (tOp (rIx c.K) (tVar 1) (tVar 3)) ρ (.int (n : Int)) := fun h1 h2 => ed_op (evs_own h1) h2 (od_ixL (at_nat (by rw [List.getElem?_map, hplx]; rfl)))
        let bad : Bool := match (rowAt rows k')[n]? with | some y => !decide (y = g) | none => false
        have hbad : Et c G (tAnd (tTest (tOp rLtI (tOp (rIx c.K) (tVar 1) (tVar 3)) (tCB (rLen c.K) (tCons (tOp (rIx c.K) (tVar 0) (tVar 3)) (tNil))))) (tTest (tOp (rNeP c.K) (tOp (rIx c.K) (tOp (rIx c.K) (tVar 0) (tVar 3)) (tOp (rIx c.K) (tVar 1) (tVar 3))) (tVar 6)))) [.fz (.p (.list (rows.map dRow))), .ow (.p (dPl (pl.set k' n))), .ow (.p (.list (fs.map .int))), .fz (.p (.int (k' : Int))), .fz (.p (.int ((a + 1 : Nat) : Int))), .no, .fz (.p (.int g))] bad := by
          have t1 := et_test (ed_op (ipl2 (ρ := [.fz (.p (.list (rows.map dRow))), .ow (.p (dPl (pl.set k' n))), .ow (.p (.list (fs.map .int))), .fz (.p (.int (k' : Int))), .fz (.p (.int ((a + 1 : Nat) : Int))), .no, .fz (.p (.int g))]) rfl (es_var (i := 3) rfl)).s (ed_cb1 (irow k' kr rfl (es_var (i := 3) rfl)).s cb_lenTE).s od_lt).s
          cases hz : (rowAt rows k')[n]? with
          | none =>
            have hz' := List.getElem?_eq_none_iff.mp hz
            have eb : bad = false := by simp only [bad, hz]
            rw [eb]
            exact Et.is (et_and (b := false) (Et.is t1 (decide_eq_false (by omega))) fun z => nomatch z) rfl
          | some y =>
            have hz' := (List.getElem?_eq_some_iff.mp hz).1
            have eb : bad = !decide (y = g) := by simp only [bad, hz]
            rw [eb]
            exact Et.is (et_and (Et.is t1 (decide_eq_true (by omega))) fun _ => Et.is (et_test (ed_op (ed_op (irow k' kr rfl (es_var rfl)).s (ipl2 rfl (es_var rfl)).s (od_ixT (atE hz))).s (es_var rfl) (od_ne (int_fine _) rfl)).s) (by rw [enc_int.eqB])) (Bool.true_and _)
        refine run_if hbad (fun hb2 => ?_) fun hb2 => run_next ?_
        · have I2 := I.next h.up hg hlt hk'.symm hn (a' := 0) (.inl rfl)
          refine run_set ed_int (lq rfl) ⟨mu rows (pl.set k' n) k' 0, ?_, pl.set k' n, fs, k', 0, rfl, I2, rfl⟩
          rw [← hm, hmu]
          unfold mu
          rw [hpn]
          cases hz : (rowAt rows k')[n]? with
          | none => show 0 < _; omega
          | some g' =>
            simp only [bad, hz] at hb2
            have hne' : g' ≠ g := by simpa using hb2
            have := hn.2.2.2 n g' (Nat.le_refl _) hz
            have hc2 := cnt_lt (rowAt_mem kr) (List.mem_of_getElem? hz) (show g < g' by omega)
            show 1 + (rows.length + 1) * cnt rows g' + (rows.length - 0) < _
            have : (rows.length + 1) * (cnt rows g' + 1) ≤ (rows.length + 1) * cnt rows g := Nat.mul_le_mul_left _ hc2
            rw [Nat.mul_add] at this
            omega
        · have hv : (rowAt rows k')[n]? = none ∨ (rowAt rows k')[n]? = some g := by
            cases hz : (rowAt rows k')[n]? with
            | none => exact .inl rfl
            | some y =>
              simp only [bad, hz] at hb2
              have : y = g := by simpa using hb2
              rw [this]; exact .inr rfl
          have I2 := I.next h.up hg hlt hk'.symm hn (a' := a + 1) (.inr ⟨rfl, hv⟩)
          refine ⟨mu rows (pl.set k' n) k' (a + 1), ?_, pl.set k' n, fs, k', a + 1, rfl, I2, rfl⟩
          rw [← hm, hmu]
          unfold mu
          rw [hpn]
          rcases hv with hz | hz
          · rw [hz]; show 0 < _; omega
          · rw [hz]
            show 1 + (rows.length + 1) * cnt rows g + (rows.length - (a + 1)) < _
            omega
    · -- the end
      have hex : ∃ j, j < rows.length ∧ (rowAt rows j).length ≤ pAt pl j := by
        have hb := List.all_eq_false.mp hb
        obtain ⟨j, hj, hx⟩ := hb
        have : ¬ ((pAt pl j : Int) < (rowAt rows j).length) := fun z => hx (decide_eq_true z)
        exact ⟨j, List.mem_range.mp hj, by omega⟩
      obtain ⟨j, hj, hl⟩ := hex
      refine run_ret (P := (· = .p (dRow fs))) (ed_cb1 (evs_own rfl) cb_tupL) fun d e => ⟨fs, fsl I, fun x => ⟨I.com x, fun hx => ?_⟩, by rw [e]⟩
      rcases I.rest x hx with z | z
      · exact z
      · obtain ⟨i, h1, h2⟩ := z j hj
        have := (List.getElem?_eq_some_iff.mp h2).1
        omega
end JQ

-- part Ru
set_option Elab.async false
set_option linter.all false
set_option maxRecDepth 100000
set_option maxHeartbeats 4000000
/-! Nested dicts from ints. -/
namespace JQ
open PySem PySem.Spec PyProof.Rows L2
theorem zip_at : ∀ {ks : List Int} {bs : List Addr} {i : Nat} {x : Int} {b : Addr}, ks.Nodup → ks[i]? = some x → bs[i]? = some b → (ks.zip (bs.map V.ref)).lookup x = some (.ref b)
  | k :: ks, b' :: bs, 0, x, b, _, h1, h2 => by
    simp at h1 h2
    subst h1 h2
    simp
  | k :: ks, b' :: bs, i + 1, x, b, nd, h1, h2 => by
    simp at h1 h2
    have hx : x ∈ ks := List.mem_of_getElem? h1
    have hne : x ≠ k := fun e => (List.nodup_cons.mp nd).1 (e ▸ hx)
    rw [List.map_cons, List.zip_cons_cons, List.lookup_cons]
    have : (x == k) = false := beq_eq_false_iff_ne.mpr hne
    simp only [this]
    exact zip_at (List.nodup_cons.mp nd).2 h1 h2
  | [], _, _, _, _, _, h, _ => by simp at h
  | _ :: _, [], _, _, _, _, _, h => by simp at h
/-- what a node holds -/
theorem flat_val {H : Hp} {A : List Int → Option Addr} (F : FlatT H A) {q : List Int} {b : Addr} (hb : A q = some b) : ∃ kvs : List (Key × V), H b = some (.dK kvs) ∧ (∀ x : Int, valV kvs (Sum.inl x) = (A (q ++ [x])).map V.ref) ∧ kvs.length ≤ 10 := by
  obtain ⟨ks, bs, h1, h2, h3, h4, h5, h6⟩ := F q b hb
  refine ⟨_, h4, fun x => ?_, ?_⟩
  · rw [val_nd]
    by_cases hx : x ∈ ks
    · obtain ⟨i, hi⟩ := List.getElem?_of_mem hx
      have il := (List.getElem?_eq_some_iff.mp hi).1
      have hbi := List.getElem?_eq_getElem (show i < bs.length by omega)
      rw [zip_at h1 hi hbi, h6 i x _ hi hbi]; rfl
    · have e1 : (A (q ++ [x])).isSome = false := Bool.eq_false_iff.mpr fun z => hx ((h5 x).mpr z)
      have e2 : A (q ++ [x]) = none := by cases z : A (q ++ [x]) with
        | none => rfl
        | some w => rw [z] at e1; cases e1
      rw [e2]
      have := look_some (i := x) (ks := ks) (vs := bs.map V.ref) (by rw [List.length_map]; exact h3)
      rw [decide_eq_false hx] at this
      cases z : (ks.zip (bs.map V.ref)).lookup x with
      | none => rfl
      | some w => rw [z] at this; cases this
  · rw [List.length_zip, List.length_map, List.length_map]
    have nd := h1.length_le_of_subset (l₂ := (List.range 10).map fun i : Nat => (i : Int)) fun x hx => by
      have := h2 x hx
      exact List.mem_map.mpr ⟨x.toNat, List.mem_range.mpr (by omega), by omega⟩
    rw [List.length_map, List.length_range] at nd
    omega
section
variable {c : Cf} {G : Gx} {td ty : TE} {ρ : Rho} {A : List Int → Option Addr} {q : List Int}
theorem ed_trni {x : Int} (hy : Es c G ty ρ (.int x)) (hd : EvS c G td ρ (· = .tri A q)) : Ed c G (tDNotIn ty td) ρ (.bool (!(A (q ++ [x])).isSome)) := fun m0 M H σ E Q qq =>
  hy m0 M H σ E _ fun v H1 d1 f1 j1 r1 e1 => hd m0 M H1 σ (E.fx f1 j1) _ fun u H2 d2 f2 j2 r2 e2 => by
    subst e1 e2
    obtain ⟨a, ea, F, hA⟩ := r2.tri
    obtain ⟨kvs, h1, h2, _⟩ := flat_val F hA
    have g := DGet.k (k := Sum.inl x) (hid_same _ _ h1)
    rw [h2] at g
    rw [r1.int]
    exact ⟨a, _, ea, g, by rw [Option.isSome_map]; exact qq _ H2 _ (f1.trans f2) j2 (.p (.bl _)) rfl⟩
theorem ev_trget {x : Int} (hd : EvS c G td ρ (· = .tri A q)) (hy : Es c G ty ρ (.int x)) (hx : (A (q ++ [x])).isSome = true) : Ev c G (tDGet td ty) ρ (· = .tri A (q ++ [x])) := fun m0 M H σ E Q qq =>
  hd m0 M H σ E _ fun v H1 d1 f1 j1 r1 e1 => hy m0 M H1 σ (E.fx f1 j1) _ fun u H2 d2 f2 j2 r2 e2 => by
    subst e1 e2
    obtain ⟨a, ea, F, hA⟩ := (r1.fx (E.k.fx f1 j1) f2).tri
    obtain ⟨kvs, h1, h2, _⟩ := flat_val F hA
    obtain ⟨b, hb⟩ := Option.isSome_iff_exists.mp hx
    have g := DGet.k (k := Sum.inl x) (hid_same _ _ h1)
    rw [h2, hb] at g
    rw [r2.int]
    exact ⟨a, .ref b, ea, g, qq _ H2 _ (f1.trans f2) j2 (.tri F hb) rfl⟩
theorem evn_sortTr (hd : EvS c G td ρ (· = .tri A q)) : EvN c G (tCB rSortNd (tCons td tNil)) ρ (fun d => ∃ ys : List Int, upw ys ∧ (∀ x ∈ ys, 0 ≤ x ∧ x < 10) ∧ (∀ x, x ∈ ys ↔ (A (q ++ [x])).isSome = true) ∧ d = .p (.list (ys.map .int))) := fun m0 M H σ E Q qq =>
  hd m0 M H σ E _ fun v H1 d1 f j r e => by
    subst e
    obtain ⟨a, ea, F, hA⟩ := r.tri
    obtain ⟨ks, bs, h1, h2, h3, h4, h5, h6⟩ := F q a hA
    have k := E.k.fx f j
    have nd := h1.length_le_of_subset (l₂ := (List.range 10).map fun i : Nat => (i : Int)) fun x hx => by
      have := h2 x hx
      exact List.mem_map.mpr ⟨x.toNat, List.mem_range.mpr (by omega), by omega⟩
    rw [List.length_map, List.length_range] at nd
    refine ⟨a, _, ks, by rw [ea], hid_same _ _ h4, ?_, by omega, fun ys p pm ps n => qq p _ _ (free_of E.k f n j) (f.trans (Fx.of (same_new n))) (k.jnew n) (ow_newL k n (ints_dpa ys)) ⟨ys, ?_, fun x hx => h2 x (pm.mem_iff.mp hx), fun x => by rw [pm.mem_iff]; exact h5 x, rfl⟩⟩
    · rw [List.map_fst_zip (by rw [List.length_map, List.length_map]; exact Nat.le_of_eq h3)]
    · have nd2 : ys.Nodup := pm.nodup_iff.mpr h1
      exact List.Pairwise.imp₂ (fun {x y} (a : x ≤ y) (b : x ≠ y) => by omega) ps nd2
end
/-- each path's beginning is there -/
def Clo (A : List Int → Option Addr) : Prop := ∀ q x, (A (q ++ [x])).isSome = true → (A q).isSome = true
theorem Clo.pre {A : List Int → Option Addr} (h : Clo A) : ∀ (r q : List Int), (A (q ++ r)).isSome = true → (A q).isSome = true
  | [], q, e => by rw [List.append_nil] at e; exact e
  | x :: r, q, e => h q x (Clo.pre h r (q ++ [x]) (by rw [List.append_assoc]; exact e))
def oTrie (C : Addr) (A : List Int → Option Addr) (n dd : Int) : DV := .obj C ["top", "size", "depth"] [.tri A [], .p (.int n), .p (.int dd)]
structure TrK (K : PySem.W.Frag) (C : Addr) : Prop where
  cl : Cls K C
  top : NoAttr K C "top"
  size : NoAttr K C "size"
  depth : NoAttr K C "depth"
abbrev TrX := (List Int → Option Addr) × Int × Int
def R_Trie_node_at (C : Addr) : List DV → (DV → Prop) → Prop := mkR (fun x : TrX × List Int => Clo x.1.1 ∧ (x.1.1 []).isSome = true ∧ x.2.length < 1000000) (fun x => [oTrie C x.1.1 x.1.2.1 x.1.2.2, .p (dRow x.2)]) fun x d => ((x.1.1 x.2).isSome = true ∧ d = .tri x.1.1 x.2) ∨ (x.1.1 x.2 = none ∧ d = .p .none)
theorem rn_Trie_node_at {c : Cf} {G : Gx} {C : Addr} {A : List Int → Option Addr} {n dd : Int} {q : List Int} (T : TrK c.K C) (hc : Clo A) (h0 : (A []).isSome = true) (hq : q.length < 1000000) : Run c G (t_Trie_node_at c) (args 4 [oTrie C A n dd, .p (dRow q)]) (fun o => ∃ d, (((A q).isSome = true ∧ d = .tri A q) ∨ (A q = none ∧ d = .p .none)) ∧ o = .rt d) := by
  refine run_seq (run_asg (P := (· = .tri A [])) (ev_fld (ev_var rfl).s T.cl T.top rfl) (lq rfl) fun d e => ?_)
  subst e
  refine run_seq (run_forTE (l := q) (e := .int) [3] (fun i ρ' => ρ' = [.fz (oTrie C A n dd), .fz (.p (dRow q)), .fz (.tri A (q.take i)), .no] ∧ (A (q.take i)).isSome = true) (ed_var rfl) ⟨rfl, h0⟩ (fun i x ρ' hi ⟨e, ha⟩ => ?_) fun ρ' ⟨e, ha⟩ => ?_)
  · subst e
    refine ⟨_, _, bd_name (lq rfl), run_seq (run_if (b := !(A (q.take i ++ [x])).isSome) (et_B (ed_trni (es_var rfl) (ev_var rfl).s).s) (fun hb => run_retD ed_none ⟨_, .inr ⟨?_, rfl⟩, rfl⟩) fun hb => run_next ?_)⟩
    · cases z : A q with
      | none => rfl
      | some b =>
        have h1 : q = (q.take i ++ [x]) ++ q.drop (i + 1) := by rw [← take_snoc hi, List.take_append_drop]
        have := hc.pre (q.drop (i + 1)) (q.take i ++ [x]) (by rw [← h1, z]; rfl)
        rw [this] at hb; cases hb
    · have hb : (A (q.take i ++ [x])).isSome = true := by simpa using hb
      refine run_asg (P := (· = .tri A (q.take i ++ [x]))) (ev_trget (ev_var rfl).s (es_var rfl) hb) (lq rfl) fun d e => ?_
      subst e
      refine ⟨?_, by rw [take_snoc hi]; exact hb⟩
      rw [take_snoc hi]; rfl
  · subst e
    rw [List.take_length] at ha ⊢
    exact run_ret (ev_var rfl) fun d e => ⟨d, .inl ⟨ha, e⟩, rfl⟩
def R_Trie_children (C : Addr) : List DV → (DV → Prop) → Prop := mkR (fun x : TrX × List Int => Clo x.1.1 ∧ (x.1.1 []).isSome = true ∧ x.2.length < 1000000) (fun x => [oTrie C x.1.1 x.1.2.1 x.1.2.2, .p (dRow x.2)]) fun x d => ∃ ys : List Int, upw ys ∧ (∀ y ∈ ys, 0 ≤ y ∧ y < 10) ∧ (∀ y, y ∈ ys ↔ (x.1.1 (x.2 ++ [y])).isSome = true) ∧ d = .p (dRow ys)
theorem rn_Trie_children {c : Cf} {G : Gx} {C : Addr} {A : List Int → Option Addr} {n dd : Int} {q : List Int} (T : TrK c.K C) (hc : Clo A) (h0 : (A []).isSome = true) (hq : q.length < 1000000) : Run c G (t_Trie_children c C (spR c (R_Trie_node_at C))) (args 3 [oTrie C A n dd, .p (dRow q)]) (fun o => ∃ d, (∃ ys : List Int, upw ys ∧ (∀ y ∈ ys, 0 ≤ y ∧ y < 10) ∧ (∀ y, y ∈ ys ↔ (A (q ++ [y])).isSome = true) ∧ d = .p (dRow ys)) ∧ o = .rt d) := by
  refine run_seq (run_asg (P := fun d => ((A q).isSome = true ∧ d = .tri A q) ∨ (A q = none ∧ d = .p .none)) (ev_meth (ev_var rfl) (by decide) (ea_cons (ed_var rfl) ea_nil) fun as e => by subst e; exact ⟨((A, n, dd), q), ⟨hc, h0, hq⟩, rfl, fun _ e => e⟩) (lq rfl) fun d hd => ?_)
  rcases hd with ⟨ha, e⟩ | ⟨ha, e⟩
  · subst e
    refine run_seq (run_if (b := false) (et_test (ev_op (ev_var rfl).s ed_none.s fun _ _ e1 e2 => by subst e1 e2; exact od_isN).s) (fun h => nomatch h) fun _ => run_next ?_)
    refine run_ret (P := fun d => ∃ ys : List Int, upw ys ∧ (∀ y ∈ ys, 0 ≤ y ∧ y < 10) ∧ (∀ y, y ∈ ys ↔ (A (q ++ [y])).isSome = true) ∧ d = .p (dRow ys)) (ev_cb1 (evn_sortTr (ev_var rfl).s).s fun d ⟨ys, h1, h2, h3, e⟩ => ?_) fun d hd => ⟨d, hd, rfl⟩
    subst e
    intro M H u k ru Q qq
    exact cb_tupL M H u k ru Q fun z H' d f j r e => qq z H' d f j r ⟨ys, h1, h2, h3, e⟩
  · subst e
    refine run_seq (run_if (b := true) (et_test (ev_op (ev_var rfl).s ed_none.s fun _ _ e1 e2 => by subst e1 e2; exact od_isN).s) (fun _ => run_retD (ed_tup ea_nil) ⟨_, ⟨[], .nil, fun y h => (nomatch h), fun y => ⟨fun h => (nomatch h), fun h => ?_⟩, rfl⟩, rfl⟩) fun h => nomatch h)
    have := hc q y h
    rw [ha] at this; cases this
end JQ

-- part Sv
set_option Elab.async false
set_option linter.all false
set_option maxRecDepth 100000
set_option maxHeartbeats 4000000
/-! Nested dicts from ints: a path is put. -/
namespace JQ
open PySem PySem.Spec PyProof.Rows L2
def Inj (A : List Int → Option Addr) : Prop := ∀ q r b, A q = some b → A r = some b → q = r
def insA (A : List Int → Option Addr) (q : List Int) (p : Addr) : List Int → Option Addr := fun z => if z = q then some p else A z
theorem insA_iff {A : List Int → Option Addr} {q : List Int} {p : Addr} (z : List Int) : (insA A q p z).isSome = true ↔ z = q ∨ (A z).isSome = true := by
  unfold insA
  by_cases e : z = q
  · rw [if_pos e]; simp [e]
  · rw [if_neg e]; simp [e]
/-- a new node x below the node b of q -/
theorem flat_ins {H : Hp} {A : List Int → Option Addr} {q : List Int} {b p : Addr} {x : Int} {kvs : List (Key × V)} (F : FlatT H A) (hi : Inj A) (hc : Clo A) (hb : A q = some b) (hk : H b = some (.dK kvs)) (hx : A (q ++ [x]) = none) (hp : H p = none) (h0 : 0 ≤ x ∧ x < 10) :
    FlatT (upd (upd H p (.dK [])) b (.dK (kvs ++ [((Sum.inl x : Key), V.ref p)]))) (insA A (q ++ [x]) p) := by
  have hpb : p ≠ b := fun e => by subst e; rw [hp] at hk; cases hk
  intro r d hr
  unfold insA at hr
  by_cases e : r = q ++ [x]
  · rw [if_pos e] at hr
    cases hr
    refine ⟨[], [], List.nodup_nil, (fun y h => nomatch h), rfl, by rw [upd_ne hpb, upd_same]; rfl, fun y => ⟨fun h => (nomatch h), fun h => ?_⟩, fun i y b' h => by simp at h⟩
    rw [insA_iff] at h
    rcases h with z | z
    · rw [e] at z
      have := congrArg List.length z
      simp at this
    · rw [e] at z
      have := hc _ _ z
      rw [hx] at this; cases this
  · rw [if_neg e] at hr
    obtain ⟨ks, bs, h1, h2, h3, h4, h5, h6⟩ := F r d hr
    by_cases eq : r = q
    · subst eq
      rw [hb] at hr
      cases hr
      rw [hk] at h4
      injection h4 with h4
      injection h4 with h4
      have hn : x ∉ ks := fun z => by have := (h5 x).mp z; rw [hx] at this; cases this
      refine ⟨ks ++ [x], bs ++ [p], List.nodup_append.mpr ⟨h1, List.pairwise_singleton .., fun a ha b hb' => by rw [List.mem_singleton.mp hb']; exact fun e => hn (e ▸ ha)⟩, fun y hy => ?_, by rw [List.length_append, List.length_append, h3]; rfl, ?_, fun y => ?_, fun i y b' hy hb' => ?_⟩
      · rcases List.mem_append.mp hy with z | z
        · exact h2 y z
        · rw [List.mem_singleton.mp z]; exact h0
      · rw [upd_same, h4, List.map_append, List.map_append, List.zip_append (by rw [List.length_map, List.length_map]; exact h3)]; rfl
      · rw [insA_iff, List.mem_append, List.mem_singleton, h5]
        constructor
        · rintro (z | z)
          · exact .inr z
          · exact .inl (by rw [z])
        · rintro (z | z)
          · exact .inr (by simpa using z)
          · exact .inl z
      · unfold insA
        rcases Nat.lt_or_ge i ks.length with z | z
        · rw [List.getElem?_append_left z] at hy
          rw [List.getElem?_append_left (by omega)] at hb'
          have : ¬ (r ++ [y] = r ++ [x]) := fun w => by
            have w : y = x := by simpa using w
            subst w
            exact hn (List.mem_of_getElem? hy)
          rw [if_neg this]; exact h6 i y b' hy hb'
        · rw [List.getElem?_append_right z] at hy
          rw [List.getElem?_append_right (by omega)] at hb'
          have : i - ks.length = 0 := by
            cases w : i - ks.length with
            | zero => rfl
            | succ j => rw [w] at hy; simp at hy
          rw [this] at hy
          rw [← h3, this] at hb'
          simp at hy hb'
          rw [hy, if_pos rfl, hb']
    · have hdb : d ≠ b := fun z => eq (hi r q d hr (z ▸ hb))
      have hdp : d ≠ p := fun z => by subst z; rw [hp] at h4; cases h4
      refine ⟨ks, bs, h1, h2, h3, by rw [upd_ne hdb, upd_ne hdp]; exact h4, fun y => ?_, fun i y b' hy hb' => ?_⟩
      · rw [insA_iff, h5]
        refine ⟨.inr, fun z => z.elim (fun w => ?_) id⟩
        exact absurd (List.append_inj_left w (by have := congrArg List.length w; simpa using this)) eq
      · unfold insA
        have : ¬ (r ++ [y] = q ++ [x]) := fun w => eq (List.append_inj_left w (by have := congrArg List.length w; simpa using this))
        rw [if_neg this]; exact h6 i y b' hy hb'
theorem inj_ins {H : Hp} {A : List Int → Option Addr} {q : List Int} {p : Addr} (F : FlatT H A) (hi : Inj A) (hp : H p = none) : Inj (insA A q p) := fun r s b hr hs => by
  unfold insA at hr hs
  have nop : ∀ z, A z ≠ some p := fun z h => by
    obtain ⟨_, _, _, _, _, h4, _⟩ := F z p h
    rw [hp] at h4; cases h4
  by_cases e1 : r = q
  · by_cases e2 : s = q
    · rw [e1, e2]
    · rw [if_pos e1] at hr; rw [if_neg e2] at hs; cases hr; exact absurd hs (nop s)
  · by_cases e2 : s = q
    · rw [if_neg e1] at hr; rw [if_pos e2] at hs; cases hs; exact absurd hr (nop r)
    · rw [if_neg e1] at hr; rw [if_neg e2] at hs; exact hi r s b hr hs
theorem clo_ins {A : List Int → Option Addr} {q : List Int} {p : Addr} {x : Int} (hc : Clo A) (hq : (A q).isSome = true) : Clo (insA A (q ++ [x]) p) := fun r y h => by
  rw [insA_iff] at h ⊢
  rcases h with z | z
  · have : r = q := List.append_inj_left z (by have := congrArg List.length z; simpa using this)
    rw [this]; exact .inr hq
  · exact .inr (hc r y z)
theorem raw_forR {D : Ends} {ta : TE} {g : TG} {tb : TS} {σ : L2.St} {H : Hp} {n : Nat} (I : Nat → L2.St → Hp → Prop) (h : Det ta σ H (.int (n : Int))) (hn : n < 1000000) (h0 : I 0 σ H)
    (hs : ∀ (i : Nat) σ' H', i < n → I i σ' H' → g (.int (i : Int)) σ' H' fun σ2 H2 => tb { D with nx := I (i + 1), ct := I (i + 1), bk := D.nx } σ2 H2) (hd : ∀ σ' H', I n σ' H' → D.nx σ' H') : tFor (iRng1 (tCons ta tNil)) g tb D σ H :=
  h _ (by
    refine ⟨(n : Int), rfl, by omega, by omega, ?_⟩
    have q := for_range (lo := 0) (n := n) (g := g) (tb := tb) (D := D) I h0 (fun i σ' H' hi p => by rw [Int.zero_add]; exact hs i σ' H' hi p) hd
    simpa using q)
abbrev tf (root : Addr) (n dd : Int) : List (Str × V) := [("top", .ref root), ("size", .int n), ("depth", .int dd)]
/-- the trie of the instance at x -/
structure TrAt (C x : Addr) (H : Hp) (A : List Int → Option Addr) : Prop where
  obj : ∃ dx root n dd, H x = some (.ins C dx (tf root n dd)) ∧ A [] = some root
  flat : FlatT H A
  inj : Inj A
  clo : Clo A
/-- put: the path es is there -/
def spPut (C : Addr) : Sp := fun vs H Q _ => ∃ x l A es, vs = [.ref x, .ref l] ∧ H l = some (.lst (es.map V.int)) ∧ es.length < 1000 ∧ (∀ y ∈ es, 0 ≤ y ∧ y < 10) ∧ TrAt C x H A ∧
  ∀ H' A', TrAt C x H' A' → (∀ q, (A' q).isSome = true ↔ (A q).isSome = true ∨ q <+: es) → (∀ b o, b ≠ x → (∀ q, A q ≠ some b) → H b = some o → H' b = some o) → (∀ q b, A' q = some b → A q = some b ∨ H b = none) → (∀ q b, A q = some b → A' q = some b) → Q .non H'
theorem put_run {c : Cf} {C : Addr} (T : TrK c.K C) (vs : List V) (H : Hp) (Q : VK) (E : XK) (hsp : spPut C vs H Q E) : t_Trie_put c { nx := fun _ H' => Q .non H', rt := Q } (L2.start N_Trie_put vs) H := by
  obtain ⟨x, l, A, es, rfl, hl, hlen, hb, tr, q⟩ := hsp
  obtain ⟨⟨dx, root, n, dd, hx, h0⟩, F, hi, hc⟩ := tr
  refine raw_set (v := .ref root) (fun Q' q' => ⟨_, rfl, x, C, dx, _, .ref root, rfl, hx, T.cl, T.top, rfl, q'⟩) ?_
  show tFor (iRng1 (tCons (tCB (rLen c.K) (tCons (tVar 1) tNil)) tNil)) (gName 3) _ _ _ _
  -- the loop: the beginning of k entries is there, and its node is held
  refine raw_forR (n := es.length) (fun k σ' H' => ∃ (A' : List Int → Option Addr) (n' : Int) (node : Addr), σ'.length = 4 ∧ σ'[0]? = some (some (.ref x)) ∧ σ'[1]? = some (some (.ref l)) ∧ σ'[2]? = some (some (.ref node)) ∧ H' x = some (.ins C dx (tf root n' dd)) ∧ H' l = some (.lst (es.map V.int)) ∧ A' [] = some root ∧ FlatT H' A' ∧ Inj A' ∧ Clo A' ∧
      A' (es.take k) = some node ∧ (∀ z, (A' z).isSome = true ↔ (A z).isSome = true ∨ z <+: es.take k) ∧ (∀ b o, b ≠ x → (∀ z, A z ≠ some b) → H b = some o → H' b = some o) ∧ (∀ z b, A' z = some b → A z = some b ∨ H b = none) ∧ ∀ z b, A z = some b → A' z = some b) ?_ (by omega) ?_ ?_ ?_
  · have := det_len (K := c.K) (σ := L2.start N_Trie_put [.ref x, .ref l] |>.set 2 (some (.ref root))) (H := H) (ta := tVar 1) (det_var rfl) hl
    rw [List.length_map] at this; exact this
  · refine ⟨A, n, root, rfl, rfl, rfl, rfl, hx, hl, h0, F, hi, hc, by rw [List.take_zero]; exact h0, fun z => ⟨.inl, fun w => w.elim id fun w => ?_⟩, fun b o _ _ h => h, fun z b h => .inl h, fun z b h => h⟩
    rw [List.take_zero, List.prefix_nil] at w
    rw [w, h0]; rfl
  · rintro k σ' H' hk ⟨A', n', node, s4, s0, s1, s2, hx', hl', h0', F', hi', hc', hn', hdom, hkeep, hnew, hext⟩
    have hek := List.getElem?_eq_getElem hk
    have e1 : es.take (k + 1) = es.take k ++ [es[k]] := take_snoc hek
    have hyb := hb _ (List.mem_of_getElem? hek)
    generalize es[k] = y at hek e1 hyb
    have dom1 : ∀ A2 : List Int → Option Addr, (∀ z, (A2 z).isSome = true ↔ z = es.take (k + 1) ∨ (A' z).isSome = true) → ∀ z, (A2 z).isSome = true ↔ (A z).isSome = true ∨ z <+: es.take (k + 1) := fun A2 h z => by
      rw [h, hdom, e1]
      constructor
      · rintro (w | w | w)
        · exact .inr (w ▸ List.prefix_refl _)
        · exact .inl w
        · exact .inr (w.trans (List.prefix_append _ _))
      · rintro (w | w)
        · exact .inr (.inl w)
        · rcases List.prefix_concat_iff.mp w with v | v
          · exact .inl v
          · exact .inr (.inr v)
    let σ2 := σ'.set 3 (some (V.int (k : Int)))
    have t0 : σ2[0]? = some (some (.ref x)) := by rw [List.getElem?_set_ne (by decide)]; exact s0
    have t1 : σ2[1]? = some (some (.ref l)) := by rw [List.getElem?_set_ne (by decide)]; exact s1
    have t2 : σ2[2]? = some (some (.ref node)) := by rw [List.getElem?_set_ne (by decide)]; exact s2
    have t3 : σ2[3]? = some (some (.int (k : Int))) := List.getElem?_set_self (by rw [s4]; decide)
    have t4 : σ2.length = 4 := by rw [List.length_set]; exact s4
    have hat : atI (es.map V.int) (k : Int) = some (.int y) := at_nat (by rw [List.getElem?_map, hek]; rfl)
    have entry : ∀ {H2 : Hp}, H2 l = some (.lst (es.map V.int)) → Det (tOp (rIx c.K) (tVar 1) (tVar 3)) σ2 H2 (.int y) := fun h => det_ix (det_var t1) (det_var t3) h hat
    obtain ⟨kvs, k1, k2, k3⟩ := flat_val F' hn'
    have hnx : node ≠ x := fun z => by rw [z, hx'] at k1; cases k1
    have hnl : node ≠ l := fun z => by rw [z, hl'] at k1; cases k1
    -- the end of a turn
    have fin : ∀ (H2 : Hp) (A2 : List Int → Option Addr) (n2 : Int) (D : Ends), H2 x = some (.ins C dx (tf root n2 dd)) → H2 l = some (.lst (es.map V.int)) → A2 [] = some root → FlatT H2 A2 → Inj A2 → Clo A2 → A2 (es.take k) = some node → (A2 (es.take (k + 1))).isSome = true → (∀ z, (A2 z).isSome = true ↔ (A z).isSome = true ∨ z <+: es.take (k + 1)) → (∀ b o, b ≠ x → (∀ z, A z ≠ some b) → H b = some o → H2 b = some o) → (∀ z b, A2 z = some b → A z = some b ∨ H b = none) → (∀ z b, A z = some b → A2 z = some b) →
        (∀ σ3, (∃ (A' : List Int → Option Addr) (n' : Int) (node : Addr), σ3.length = 4 ∧ σ3[0]? = some (some (.ref x)) ∧ σ3[1]? = some (some (.ref l)) ∧ σ3[2]? = some (some (.ref node)) ∧ H2 x = some (.ins C dx (tf root n' dd)) ∧ H2 l = some (.lst (es.map V.int)) ∧ A' [] = some root ∧ FlatT H2 A' ∧ Inj A' ∧ Clo A' ∧
          A' (es.take (k + 1)) = some node ∧ (∀ z, (A' z).isSome = true ↔ (A z).isSome = true ∨ z <+: es.take (k + 1)) ∧ (∀ b o, b ≠ x → (∀ z, A z ≠ some b) → H b = some o → H2 b = some o) ∧ (∀ z b, A' z = some b → A z = some b ∨ H b = none) ∧ ∀ z b, A z = some b → A' z = some b) → D.nx σ3 H2) →
        tAsg (tDGet (tVar 2) (tOp (rIx c.K) (tVar 1) (tVar 3))) (gName 2) D σ2 H2 := fun H2 A2 n2 D g1 g2 g3 g4 g5 g6 g7 g8 g9 g10 g11 g12 gD => by
      obtain ⟨kv2, m1, m2, _⟩ := flat_val g4 g7
      rw [e1] at g8
      obtain ⟨b, hb2⟩ := Option.isSome_iff_exists.mp g8
      have dg := DGet.k (k := Sum.inl y) m1
      rw [m2, hb2] at dg
      refine raw_set (v := .ref b) (fun Q' q' => ⟨_, t2, entry g2 _ ⟨node, .ref b, rfl, dg, q'⟩⟩) (gD _ ⟨A2, n2, b, by rw [List.length_set]; exact t4, by rw [List.getElem?_set_ne (by decide)]; exact t0, by rw [List.getElem?_set_ne (by decide)]; exact t1, List.getElem?_set_self (by rw [t4]; decide), g1, g2, g3, g4, g5, g6, by rw [e1]; exact hb2, g9, g10, g11, g12⟩)
    have dg := DGet.k (k := Sum.inl y) k1
    rw [k2] at dg
    refine raw_if (b := !((A' (es.take k ++ [y])).map V.ref).isSome) (fun Q' q' => entry hl' _ ⟨_, t2, node, _, rfl, dg, _, rfl, q'⟩) (fun hab => ?_) fun hpr => ?_
    · -- a new node
      have hab : A' (es.take k ++ [y]) = none := by
        cases z : A' (es.take k ++ [y]) with
        | none => rfl
        | some b => rw [z] at hab; cases hab
      show tSeq (sDPut _ _ _) _ _ _ _
      intro p hp
      have hpn : p ≠ node := fun z => by rw [z, k1] at hp; cases hp
      have hpx : p ≠ x := fun z => by rw [z, hx'] at hp; cases hp
      have hpl : p ≠ l := fun z => by rw [z, hl'] at hp; cases hp
      have k1' : (upd H' p (.dK [])) node = some (.dK kvs) := by rw [upd_ne (Ne.symm hpn)]; exact k1
      have hl2 : (upd H' p (.dK [])) l = some (.lst (es.map V.int)) := by rw [upd_ne (Ne.symm hpl)]; exact hl'
      have pk : putK kvs (Sum.inl y : Key) (V.ref p) = kvs ++ [((Sum.inl y : Key), V.ref p)] := by
        unfold putK
        have := valV_any (Sum.inl y : Key) kvs
        rw [k2, hab] at this
        rw [this]; rfl
      have dp := DPut.k (k := Sum.inl y) (v := V.ref p) k1' (by rw [sizeLine_eq]; omega)
      rw [pk] at dp
      refine ⟨_, t2, entry hl2 _ ⟨node, _, rfl, dp, ?_⟩⟩
      have F2 := flat_ins F' hi' hc' hn' k1 hab hp hyb
      have I2 : Inj (insA A' (es.take k ++ [y]) p) := inj_ins F' hi' hp
      have C2 : Clo (insA A' (es.take k ++ [y]) p) := clo_ins hc' (by rw [hn']; rfl)
      have hx2 : (upd (upd H' p (.dK [])) node (.dK (kvs ++ [((Sum.inl y : Key), V.ref p)]))) x = some (.ins C dx (tf root n' dd)) := by rw [upd_ne (Ne.symm hnx), upd_ne (Ne.symm hpx)]; exact hx'
      have hl3 : (upd (upd H' p (.dK [])) node (.dK (kvs ++ [((Sum.inl y : Key), V.ref p)]))) l = some (.lst (es.map V.int)) := by rw [upd_ne (Ne.symm hnl)]; exact hl2
      have h02 : (insA A' (es.take k ++ [y]) p) [] = some root := by unfold insA; rw [if_neg (by simp)]; exact h0'
      have hn2 : (insA A' (es.take k ++ [y]) p) (es.take k) = some node := by
        unfold insA
        rw [if_neg (fun z => by have := congrArg List.length z; simp at this)]; exact hn'
      have hs2 : (insA A' (es.take k ++ [y]) p (es.take (k + 1))).isSome = true := by rw [e1, insA_iff]; exact .inl rfl
      have hd2 := dom1 (insA A' (es.take k ++ [y]) p) (fun z => by rw [insA_iff, e1])
      have hp0 : H p = none := by
        cases z : H p with
        | none => rfl
        | some o =>
          by_cases w : ∃ r, A r = some p
          · obtain ⟨r, hr⟩ := w
            obtain ⟨_, _, _, _, _, w4, _⟩ := F' r p (hext r p hr)
            rw [hp] at w4; cases w4
          · have := hkeep p o hpx (fun r hr => w ⟨r, hr⟩) z
            rw [hp] at this; cases this
      have hk2 : ∀ b o, b ≠ x → (∀ z, A z ≠ some b) → H b = some o → (upd (upd H' p (.dK [])) node (.dK (kvs ++ [((Sum.inl y : Key), V.ref p)]))) b = some o := fun b o h1 h2 h3 => by
        have hbn : b ≠ node := fun z => by
          rcases hnew _ _ hn' with w | w
          · exact h2 _ (z ▸ w)
          · rw [z, w] at h3; cases h3
        have hbp : b ≠ p := fun z => by rw [z, hp0] at h3; cases h3
        rw [upd_ne hbn, upd_ne hbp]; exact hkeep b o h1 h2 h3
      have hw2 : ∀ z b, insA A' (es.take k ++ [y]) p z = some b → A z = some b ∨ H b = none := fun z b h => by
        unfold insA at h
        split at h
        · cases h; exact .inr hp0
        · exact hnew z b h
      have he2 : ∀ z b, A z = some b → insA A' (es.take k ++ [y]) p z = some b := fun z b h => by
        unfold insA
        rw [if_neg (fun w => by have := hext z b h; rw [w, hab] at this; cases this)]
        exact hext z b h
      refine raw_if (b := decide (((k : Int) + 1) = (es.length : Int))) (detT_test (det_eq (det_add (det_var t3) det_c) (by
          have := det_len (K := c.K) (σ := σ2) (ta := tVar 1) (det_var t1) hl3
          rw [List.length_map] at this; exact this))) (fun _ => ?_) fun _ => ?_
      · -- the size
        refine (fun Q' q' => ⟨_, t0, x, C, dx, _, .int n', rfl, hx2, T.cl, T.size, rfl, n', 1, rfl, rfl, q'⟩ : Det (tOp rAddI (tFld c.K (tVar 0) "size") (tC (.int 1))) σ2 _ (.int (n' + 1))) _ ⟨_, t0, x, C, dx, _, rfl, hx2, T.cl, T.size, (Nat.le_of_ble_eq_true rfl : 3 < 1000), ?_⟩
        refine fin _ (insA A' (es.take k ++ [y]) p) (n' + 1) _ upd_same ?_ h02 (fun r b hr => ?_) I2 C2 hn2 hs2 hd2 (fun b o h1 h2 h3 => by rw [upd_ne h1]; exact hk2 b o h1 h2 h3) hw2 he2 fun σ3 h => h
        · rw [upd_ne (fun z => by rw [z, hx'] at hl'; cases hl')]; exact hl3
        · obtain ⟨ks, bs, f1, f2, f3, f4, f5⟩ := F2 r b hr
          exact ⟨ks, bs, f1, f2, f3, by rw [upd_ne (fun z => by rw [z, hx2] at f4; cases f4)]; exact f4, f5⟩
      · exact fin _ (insA A' (es.take k ++ [y]) p) n' _ hx2 hl3 h02 F2 I2 C2 hn2 hs2 hd2 hk2 hw2 he2 fun σ3 h => h
    · have hpr : (A' (es.take (k + 1))).isSome = true := by
        rw [e1]
        cases z : A' (es.take k ++ [y]) with
        | none => rw [z] at hpr; cases hpr
        | some b => rfl
      exact fin H' A' n' _ hx' hl' h0' F' hi' hc' hn' hpr (dom1 A' fun z => ⟨.inr, fun w => w.elim (fun w => w ▸ hpr) id⟩) hkeep hnew hext fun σ3 h => h
  · rintro σ' H' ⟨A', n', node, _, _, _, _, hx', _, h0', F', hi', hc', _, hdom, hkeep, hnew, hext⟩
    rw [List.take_length] at hdom
    exact q H' A' ⟨⟨dx, root, n', dd, hx', h0'⟩, F', hi', hc'⟩ hdom hkeep hnew hext
end JQ

-- part Sw
set_option Elab.async false
set_option linter.all false
set_option maxRecDepth 100000
set_option maxHeartbeats 4000000
/-! A trie is made. -/
namespace JQ
open PySem PySem.Spec PyProof.Rows L2
theorem walk_by {J : It} {n : Nat} {Gw : Hp → Prop} {Y : Nat → Hp → V → Hp → Prop} (w : Walk J n Gw Y) {B : (Hp → Prop) → V → Hp → Prop} {H0 : Hp} {Qd : Hp → Prop} (Pv : Nat → Hp → Prop) (h0 : Pv 0 H0) (hG : ∀ i H, i ≤ n → Pv i H → Gw H)
    (hs : ∀ i x H H', i < n → Pv i H → Y i H x H' → B (Pv (i + 1)) x H') (hd : ∀ H, Pv n H → Qd H) :
    ∃ W : Nat → Nat → Hp → Prop, (∃ m, W 0 m H0) ∧ ∀ i m H, W i m H → (J.stop i H ∧ Qd H) ∨ (J.go i H ∧ ∃ Nx : Hp → Prop, (∀ H', Nx H' → ∃ m', m' < m ∧ W (i + 1) m' H') ∧ ∀ x H', J.yld i H x H' → B Nx x H') := by
  refine ⟨fun i m H => m = n - i ∧ i ≤ n ∧ Pv i H, ⟨n, (Nat.sub_zero n).symm, Nat.zero_le _, h0⟩, fun i m H ⟨em, hi, p⟩ => ?_⟩
  have g := hG i H hi p
  rcases Nat.lt_or_ge i n with z | z
  · exact .inr ⟨w.goes i H z g, Pv (i + 1), fun H' p' => ⟨n - (i + 1), by omega, rfl, z, p'⟩, fun x H' y => hs i x H H' z p (w.yields i H x H' z g y)⟩
  · have : i = n := by omega
    subst this
    exact .inl ⟨w.stops H g, hd H p⟩
/-- the heap but for hidden things; no thing of one's own is held -/
theorem EnvM.raw {c : Cf} {m0 M M' : Addr → Bool} {H H' : Hp} {σ : L2.St} {ρ : Rho} (E : EnvM c G0 m0 M H σ ρ) (hno : ∀ (i : Nat) (d : DV), ρ[i]? ≠ some (.ow d)) (hk : ∀ b o, M b = false → H b = some o → H' b = some o) (hM : ∀ b, M b = true → M' b = true) (hn : ∀ b, M' b = true → M b = true ∨ H b = none) (al : ∀ b, M' b = true → ∃ o, H' b = some o) :
    EnvM c G0 m0 M' H' σ ρ := by
  have hs : Same (hid M H) (hid M' H') := fun b o q => by
    obtain ⟨q1, q2⟩ := hid_some q
    have : M' b = false := by
      cases z : M' b with
      | false => rfl
      | true => rcases hn b z with w | w
                · rw [q1] at w; cases w
                · rw [q2] at w; cases w
    rw [hid_get this]; exact hk b o q1 q2
  exact ⟨⟨trivial, al, fun _ h => (nomatch h)⟩, fun _ h => (nomatch h), fun b h => hM b (E.sub b h), E.len, fun i d h => by
    obtain ⟨v, h1, h2⟩ := E.fz i d h
    exact ⟨v, h1, rv_mono hs h2⟩, fun i d h => absurd h (hno i d), fun i j d e a h => absurd h (hno i d)⟩
def pathOf (ps : List Nat) (r : Row) : List Int := ps.map fun k => r.getD k 0
/-- what a trie of these paths has -/
structure TrieOf (A : List Int → Option Addr) (paths : List (List Int)) : Prop where
  clo : Clo A
  root : (A []).isSome = true
  dom : ∀ q, (A q).isSome = true ↔ q = [] ∨ ∃ p ∈ paths, q <+: p
structure okTr (rows : List Row) (ps : List Nat) : Prop where
  rl : rows.length ≤ 5
  pl : ps.length ≤ 4
  p1 : 1 ≤ ps.length
  nd : ps.Nodup
  ok : ∀ r ∈ rows, ∀ k ∈ ps, k < r.length
  low : ∀ r ∈ rows, ∀ x ∈ r, 0 ≤ x ∧ x < 10
def dPos (ps : List Nat) : PyData := dRow (ps.map fun k : Nat => (k : Int))
def R_Trie (C : Addr) : List DV → (DV → Prop) → Prop := mkR (fun x : List Row × List Nat => okTr x.1 x.2) (fun x => [.p (.list (x.1.map dRow)), .p (dPos x.2)]) fun x d => ∃ A n dd, TrieOf A (x.1.map (pathOf x.2)) ∧ d = oTrie C A n dd
theorem yes_then {σ : L2.St} {H : Hp} {a b : Hp → Prop} (h : a H) : tYes σ H fun k H' => if k = true then a H' else b H' := by
  show (if true = true then a H else b H)
  rw [if_pos rfl]; exact h
/-- the double comprehension of tests, none of them true -/
theorem lc2_bad {c : Cf} {σ : L2.St} {H : Hp} {ra pa : Addr} {vs : List V} {rows : List Row} {ps : List Nat} {Q : VK} (hσ : σ.length = 6) (h1 : σ[1]? = some (some (.ref ra))) (h2 : σ[2]? = some (some (.ref pa))) (hr : SqL c.K H ra vs) (hp : SqT c.K H pa (ps.map fun k : Nat => V.int (k : Int)))
    (hv : ∀ (i : Nat) v, vs[i]? = some v → ∃ l r, v = .ref l ∧ r ∈ rows ∧ SqT c.K H l (r.map V.int)) (ok : okTr rows ps) (hl : vs.length ≤ 5) (q : ∀ D (bs : List Bool), H D = none → (∀ b ∈ bs, b = false) → Q (.ref D) (upd H D (.lst (bs.map V.bl)))) :
    tLc2 (iList c.K (tVar 1)) (gName 5) tYes (iTup c.K (tVar 2)) (gName 4) tYes (tOrV (tOp rLtI (tVar 4) (tC (.int 0))) (tOp rGeI (tVar 4) (tCB (rLen c.K) (tCons (tVar 5) tNil)))) [5, 4] [4] σ H Q := by
  refine ⟨.ref ra, h1, ra, rfl, ⟨vs, hr⟩, fun D hD => ?_⟩
  have old : ∀ bs : List Bool, Same H (upd H D (.lst (bs.map V.bl))) := fun bs => same_new hD
  refine walk_by (walk_list (K := c.K) (a := ra) (xs := vs)) (fun i H' => ∃ bs : List Bool, (∀ b ∈ bs, b = false) ∧ bs.length ≤ 4 * i ∧ H' = upd H D (.lst (bs.map V.bl))) ⟨[], (fun b h => nomatch h), Nat.le_refl _, rfl⟩ (fun i H' _ ⟨bs, _, _, e⟩ => by subst e; exact same_l (old bs) hr) (fun i x H' H2 hi ⟨bs, hb, hlen, e⟩ y => ?_) fun H' ⟨bs, hb, _, e⟩ => by subst e; exact q D bs hD hb
  obtain ⟨y1, y2⟩ := y
  subst y1
  subst e
  obtain ⟨l, r, rfl, hrm, hT⟩ := hv i x y2
  -- the slots
  let τ := (L2.wipe σ [5, 4]).set 5 (some (V.ref l))
  have len0 : (L2.wipe σ [5, 4]).length = 6 := by rw [wipe_length]; exact hσ
  have e5 : τ[5]? = some (some (.ref l)) := List.getElem?_set_self (by rw [len0]; decide)
  have e2 : τ[2]? = some (some (.ref pa)) := by
    rw [List.getElem?_set_ne (by decide), wipe_out [5, 4] σ 2 (by decide)]; exact h2
  have ew : L2.wipe τ [5, 4] = L2.wipe σ [5, 4] := wipe_agr (ks := [5]) Agr.set (by decide)
  refine ⟨ew, ?_⟩
  refine yes_then ?_
  refine ⟨.ref pa, e2, pa, rfl, ⟨_, same_t (old bs) hp⟩, ?_⟩
  refine walk_by (walk_tup (K := c.K) (a := pa) (xs := ps.map fun k : Nat => V.int (k : Int))) (fun j H' => ∃ bs2 : List Bool, (∀ b ∈ bs2, b = false) ∧ bs2.length ≤ 4 * i + j ∧ H' = upd H D (.lst (bs2.map V.bl))) ⟨bs, hb, by omega, rfl⟩ (fun j H' _ ⟨bs2, _, _, e⟩ => by subst e; exact same_t (old bs2) hp) (fun j x2 H' H3 hj ⟨bs2, hb2, hl2, e⟩ y => ?_) fun H' ⟨bs2, hb2, hl2, e⟩ => ⟨bs2, hb2, by
    have := ok.pl
    rw [List.length_map] at hl2
    omega, e⟩
  obtain ⟨y1, y3⟩ := y
  subst y1
  subst e
  rw [List.getElem?_map] at y3
  cases hk : ps[j]? with
  | none => rw [hk] at y3; cases y3
  | some k =>
    rw [hk] at y3
    cases y3
    have hkm := List.mem_of_getElem? hk
    have hkr := ok.ok r hrm k hkm
    let υ := (L2.wipe τ [4]).set 4 (some (V.int (k : Int)))
    have len1 : (L2.wipe τ [4]).length = 6 := by rw [wipe_length, List.length_set]; exact len0
    have f4 : υ[4]? = some (some (.int (k : Int))) := List.getElem?_set_self (by rw [len1]; decide)
    have f5 : υ[5]? = some (some (.ref l)) := by
      rw [List.getElem?_set_ne (by decide), wipe_out [4] τ 5 (by decide)]; exact e5
    refine ⟨wipe_agr (ks := [4]) Agr.set (by decide), ?_⟩
    refine yes_then ?_
    refine ⟨_, f4, _, _, rfl, rfl, false, congrArg V.bl (decide_eq_false (by omega)), ?_⟩
    rw [if_neg Bool.false_ne_true]
    refine ⟨_, f4, _, f5, _, r.length, rfl, .inr ⟨_, same_t (old bs2) hT, (List.length_map ..).symm⟩, (k : Int), (r.length : Int), rfl, rfl, ?_⟩
    refine ⟨bs2.map V.bl, upd_same, ?_, bs2 ++ [false], fun b hb' => ?_, by rw [List.length_append]; show bs2.length + 1 ≤ _; omega, ?_⟩
    · rw [List.length_map, sizeLine_eq]
      rw [List.length_map] at hj
      have := ok.pl
      omega
    · rcases List.mem_append.mp hb' with z | z
      · exact hb2 b z
      · exact List.mem_singleton.mp z
    · rw [upd_upd, List.map_append]
      show upd H D (.lst (bs2.map V.bl ++ [V.bl (decide ((r.length : Int) ≤ (k : Int)))])) = _
      rw [decide_eq_false (by omega)]; rfl
end JQ

-- part Sx
set_option Elab.async false
set_option linter.all false
set_option maxRecDepth 100000
set_option maxHeartbeats 4000000
/-! A trie is made: the walk. -/
namespace JQ
open PySem PySem.Spec PyProof.Rows L2
theorem raw_forL {c : Cf} {D : Ends} {tl : TE} {g : TG} {tb : TS} {σ : L2.St} {H : Hp} {a : Addr} {xs : List V} (I : Nat → L2.St → Hp → Prop) (h : Det tl σ H (.ref a)) (ha : SqL c.K H a xs) (hst : ∀ i σ' H', I i σ' H' → SqL c.K H' a xs) (h0 : I 0 σ H)
    (hs : ∀ (i : Nat) x σ' H', xs[i]? = some x → I i σ' H' → g x σ' H' fun σ2 H2 => tb { D with nx := I (i + 1), ct := I (i + 1), bk := D.nx } σ2 H2) (hd : ∀ σ' H', I xs.length σ' H' → D.nx σ' H') : tFor (iList c.K tl) g tb D σ H :=
  h _ ⟨a, rfl, ⟨xs, ha⟩, for_list (xs := xs) I h0 (fun i σ' H' _ p => hst i σ' H' p) (fun i x σ' H' hx p => hs i x σ' H' hx p) fun σ' H' p => hd σ' H' p⟩
theorem init_Trie {c : Cf} {C : Addr} (T : TrK c.K C) (vs : List V) (H : Hp) (Q : VK) (E : XK) (hsp : spI c C (R_Trie C) vs H Q E) : t_Trie_init c C (spPut C) { nx := fun _ H' => Q .non H', rt := Q } (L2.start N_Trie_init vs) H := by
  obtain ⟨m, x, dx, us, ds, P, rfl, mx, al, hx, rv, ⟨⟨rows, ps⟩, ok, e, hP⟩, q⟩ := hsp
  subst e
  cases rv with
  | @cons u1 us _ _ r1 rv => cases rv with
    | @cons u2 us _ _ r2 rv =>
      cases rv
      have hrl : rows.length ≤ 5 := ok.rl
      have hpl : ps.length ≤ 4 := ok.pl
      have hp1 : 1 ≤ ps.length := ok.p1
      let pI := ps.map fun k : Nat => (k : Int)
      have hpI : pI.length = ps.length := List.length_map ..
      have hnd : pI.Nodup := by
        refine List.pairwise_map.mpr (ok.nd.imp fun {a b} hab e => hab ?_)
        omega
      let ρ0 : Rho := [.fz (.at_ x), .fz (.p (.list (rows.map dRow))), .fz (.p (dRow pI)), .no, .no, .no]
      have E0 : EnvM c G0 m m H (L2.start N_Trie_init [.ref x, u1, u2]) ρ0 := by
        refine ⟨⟨trivial, al, fun _ h => (nomatch h)⟩, fun _ h => (nomatch h), fun _ h => h, rfl, fun i d h => ?_, fun i d h => ?_, fun i j d e a h => ?_⟩
        · match i, h with
          | 0, h => cases h; exact ⟨.ref x, rfl, .at_⟩
          | 1, h => cases h; exact ⟨u1, rfl, r1⟩
          | 2, h => cases h; exact ⟨u2, rfl, r2⟩
          | 3, h => cases h
          | 4, h => cases h
          | 5, h => cases h
          | i + 6, h => simp [ρ0] at h
        · match i, h with
          | 0, h => cases h
          | 1, h => cases h
          | 2, h => cases h
          | 3, h => cases h
          | 4, h => cases h
          | 5, h => cases h
          | i + 6, h => simp [ρ0] at h
        · match i, h with
          | 0, h => cases h
          | 1, h => cases h
          | 2, h => cases h
          | 3, h => cases h
          | 4, h => cases h
          | 5, h => cases h
          | i + 6, h => simp [ρ0] at h
      -- the positions are good
      have good : Ed c G0 (tAndV (tOp rGtI (tCB (rLen c.K) (tCons (tVar 2) tNil)) (tC (.int 0))) (tNotV (tCB (rAny c.K) (tCons (tLc (iRng1 (tCons (tCB (rLen c.K) (tCons (tVar 2) tNil)) tNil)) (gName 4) tYes (tOp (rInX c.K) (tOp (rIx c.K) (tVar 2) (tVar 4)) (L2.tSl (rSlA c.K) (tVar 2) tNoPart (tPart (tVar 4)))) [4]) tNil)))) ρ0 (.bool true) := by
        refine Ed.is (ed_andV (ed_op (ed_cb1 (es_var rfl) cb_lenTE).s ed_int.s od_gt).s fun _ => ed_notV (ed_cb1 (en_lc1 (List.range pI.length) (fun k => .p (.int (k : Int))) (fun k => .bool (decide (pI.getD k 0 ∈ pI.take k))) (src_range (ed_cb1 (es_var rfl) cb_lenTE).s (by omega)) (by rw [List.length_range]; omega) fun k hk => ⟨_, _, fun _ h => h, bd_name (lq rfl), ?_⟩).s (cb_anyF (f := fun k => decide (pI.getD k 0 ∈ pI.take k)))).s) ?_
        · have hk := List.mem_range.mp hk
          have e1 : pI[k]? = some (pI.getD k 0) := by rw [List.getD_eq_getElem?_getD, List.getElem?_eq_getElem hk]; rfl
          have e2 : cutD (pI.map PyData.int) none (some (k : Int)) = (pI.take k).map .int := by rw [cut_to, List.map_take]
          exact Ed.is (ed_op (ed_op (es_var rfl) (es_var rfl) (od_ixT (ds := pI.map .int) (atE e1))).s (Ed.is (ed_slT (es_var rfl) eo_none (eo_some (es_var rfl))) (congrArg PyData.tuple e2)).s (od_inT (ds := (pI.take k).map .int) (int_fine _) (enc_int.pls _))) (by rw [enc_int.any])
        · have : (List.range pI.length).any (fun k => decide (pI.getD k 0 ∈ pI.take k)) = false := Bool.eq_false_iff.mpr fun z => by
            obtain ⟨k, hk, z⟩ := List.any_eq_true.mp z
            have hk := List.mem_range.mp hk
            have e1 : pI[k]? = some (pI.getD k 0) := by rw [List.getD_eq_getElem?_getD, List.getElem?_eq_getElem hk]; rfl
            exact mem_take_lt hnd e1 (of_decide_eq_true z)
          rw [this, decide_eq_true (by omega)]; rfl
      refine good m m H _ E0 _ fun v1 H1 d1 f1 j1 r3 e1 => ?_
      subst e1
      have E1 := (E0.fx f1 j1).setF (i := 3) (lq rfl) r3
      -- no row is too short
      have bad : ∀ ρ : Rho, ρ.length = 6 → ρ[1]? = some (.fz (.p (.list (rows.map dRow)))) → ρ[2]? = some (.fz (.p (dRow pI))) → Ed c G0 (tCB (rAny c.K) (tCons (tLc2 (iList c.K (tVar 1)) (gName 5) tYes (iTup c.K (tVar 2)) (gName 4) tYes (tOrV (tOp rLtI (tVar 4) (tC (.int 0))) (tOp rGeI (tVar 4) (tCB (rLen c.K) (tCons (tVar 5) tNil)))) [5, 4] [4]) tNil)) ρ (.bool false) := fun ρ hl h1 h2 m0 M H2 σ2 E2 Q2 q2 => by
        obtain ⟨v, s1, g1⟩ := E2.fz 1 _ h1
        obtain ⟨w, s2, g2⟩ := E2.fz 2 _ h2
        have g1 := rv_p g1
        have g2 := rv_p g2
        cases g1 with
        | @lst ra ws _ a1 a2 => cases g2 with
          | @tup pa zs _ b1 b2 =>
            have b3 := dpa_ints b2
            subst b3
            show tLc2 _ _ _ _ _ _ _ _ _ σ2 H2 fun v H' => rAny c.K [v] H' Q2
            refine lc2_bad (rows := rows) (ps := ps) (by rw [E2.len, hl]) s1 s2 (same_l hid_same a1) (by
              have := same_t hid_same b1
              simp only [pI, List.map_map] at this
              exact this) (fun i z hz => ?_) ok (by rw [dpa_len a2, List.length_map]; exact hrl) fun D bs hD hb => ?_
            · obtain ⟨d, g3, g4⟩ := dpa_get' a2 hz
              rw [List.getElem?_map] at g3
              cases hr : rows[i]? with
              | none => rw [hr] at g3; cases g3
              | some r =>
                rw [hr] at g3
                cases g3
                cases g4 with
                | @tup l ts _ c1 c2 =>
                  have c3 := dpa_ints c2
                  subst c3
                  exact ⟨l, r, rfl, List.mem_of_getElem? hr, same_t hid_same c1⟩
            · have ea : bs.any id = false := Bool.eq_false_iff.mpr fun z => by
                obtain ⟨b, hb1, hb2⟩ := List.any_eq_true.mp z
                have := hb b hb1
                rw [this] at hb2; cases hb2
              exact ⟨D, bs, rfl, SqL.of upd_same, by rw [ea]; exact q2 _ _ _ (Fx.of (same_new hD)) trivial (.p (.bl false)) rfl⟩
      have cond : Et c G0 _ (ρ0.set 3 (.fz (.p (.bool true)))) (!true || false) := et_or (et_not (et_B (es_var (i := 3) rfl))) fun _ => et_B (bad (ρ0.set 3 (.fz (.p (.bool true)))) rfl rfl rfl).s
      refine cond m m H1 _ E1 _ fun b2 H2 f2 j2 e2 => ?_
      subst e2
      show tNext _ _ _
      have E2 := E1.fx f2 j2
      have hx2 : H2 x = some (.ins C dx []) := f2 x _ rfl (f1 x _ rfl hx)
      have s0 : ∀ {τ : L2.St}, τ = (L2.start N_Trie_init [.ref x, u1, u2]).set 3 (some v1) → τ[0]? = some (some (.ref x)) := fun e => by subst e; rfl
      generalize hτ : (L2.start N_Trie_init [.ref x, u1, u2]).set 3 (some v1) = τ at E2
      have t0 := s0 hτ.symm
      -- top
      intro p hp
      have hpx : p ≠ x := fun z => by rw [z, hx2] at hp; cases hp
      refine ⟨_, t0, x, C, dx, [], rfl, by rw [upd_ne (Ne.symm hpx)]; exact hx2, T.cl, T.top, (Nat.le_of_ble_eq_true rfl : 0 < 1000), ?_⟩
      -- size
      refine ⟨_, t0, x, C, dx, _, rfl, upd_same, T.cl, T.size, (Nat.le_of_ble_eq_true rfl : 1 < 1000), ?_⟩
      rw [upd_upd]
      -- what is hidden: the instance and its nodes
      let H3 : Hp := upd (upd H2 p (.dK [])) x (.ins C dx [("top", .ref p), ("size", .int 0)])
      have hp0 : H p = none := by
        cases z : H p with
        | none => rfl
        | some o => rw [f2 p o rfl (f1 p o rfl z)] at hp; cases hp
      have E3 : EnvM c G0 m (ins p m) H3 τ _ := E2.raw (M' := ins p m) (H' := H3) (fun i d h => ?_) (fun b o hb ho => ?_) (fun b hb => ins_of hb) (fun b hb => ?_) fun b hb => ?_
      rotate_left
      · match i, h with
        | 0, h => cases h
        | 1, h => cases h
        | 2, h => cases h
        | 3, h => cases h
        | 4, h => cases h
        | 5, h => cases h
        | i + 6, h => simp [ρ0] at h
      · have h1 : b ≠ x := fun z => by rw [z, mx] at hb; cases hb
        show (upd (upd H2 p (.dK [])) x _) b = some o
        rw [upd_ne h1, upd_ne (fun z => by rw [z, hp] at ho; cases ho)]; exact ho
      · by_cases z : b = p
        · exact .inr (z ▸ hp)
        · rw [ins_ne z] at hb; exact .inl hb
      · by_cases z : b = x
        · subst z; exact ⟨_, upd_same⟩
        · show ∃ o, (upd (upd H2 p (.dK [])) x _) b = some o
          rw [upd_ne z]
          by_cases w : b = p
          · subst w; exact ⟨_, upd_same⟩
          · rw [ins_ne w] at hb
            rw [upd_ne w]
            exact (E2.k).al b hb
      -- depth
      refine (ed_cb1 (c := c) (G := G0) (es_var (i := 2) rfl) cb_lenTE : Ed c G0 (tCB (rLen c.K) (tCons (tVar 2) tNil)) (ρ0.set 3 (.fz (.p (.bool true)))) (.int (pI.length : Int))) m _ H3 τ E3 _ fun v4 H4 d4 f4 j4 r4 e4 => ?_
      have h4x : H4 x = some (.ins C dx [("top", .ref p), ("size", .int 0)]) := f4 x _ rfl upd_same
      have h4p : H4 p = some (.dK []) := f4 p _ rfl (by show (upd (upd H2 p (.dK [])) x _) p = _; rw [upd_ne hpx, upd_same])
      subst e4
      have e4 : v4 = .int (pI.length : Int) := by
        have g := rv_p r4
        cases g; rfl
      subst e4
      refine ⟨_, t0, x, C, dx, _, rfl, h4x, T.cl, T.depth, (Nat.le_of_ble_eq_true rfl : 2 < 1000), ?_⟩
      let H5 : Hp := upd H4 x (.ins C dx (tf p 0 (pI.length : Int)))
      have ey : ∀ b : Addr, b ≠ x → H5 b = H4 b := fun b h => upd_ne h
      have k5 : ∀ b o, b ≠ x → H b = some o → H5 b = some o := fun b o h1 h2 => by
        rw [ey b h1]
        refine f4 b o rfl ?_
        show (upd (upd H2 p (.dK [])) x _) b = some o
        have h3 := f2 b o rfl (f1 b o rfl h2)
        rw [upd_ne h1, upd_ne (fun z => by rw [z, hp] at h3; cases h3)]; exact h3
      have hHp : H p = none := hp0
      have mxp : ∀ b, ins p m b = true → b = p ∨ m b = true := fun b hb => by
        by_cases z : b = p
        · exact .inl z
        · rw [ins_ne z] at hb; exact .inr hb
      have E5 : EnvM c G0 m (ins p m) H5 τ (ρ0.set 3 (.fz (.p (.bool true)))) := (E3.fx f4 j4).raw (M' := ins p m) (H' := H5) (fun i d h => ?_) (fun b o hb ho => ?_) (fun b hb => hb) (fun b hb => .inl hb) fun b hb => ?_
      rotate_left
      · match i, h with
        | 0, h => cases h
        | 1, h => cases h
        | 2, h => cases h
        | 3, h => cases h
        | 4, h => cases h
        | 5, h => cases h
        | i + 6, h => simp [ρ0] at h
      · rw [ey b (fun z => by rw [z, ins_of mx] at hb; cases hb)]; exact ho
      · by_cases z : b = x
        · subst z; exact ⟨_, upd_same⟩
        · rw [ey b z]; exact ((E3.fx f4 j4).k).al b hb
      have T5 : TrAt C x H5 (fun q => if q = [] then some p else none) := by
        refine ⟨⟨dx, p, 0, _, upd_same, rfl⟩, fun q b hq => ?_, fun q r b hq hr => ?_, fun q y h => ?_⟩
        · by_cases z : q = []
          · rw [if_pos z] at hq
            cases hq
            refine ⟨[], [], List.nodup_nil, (fun y h => nomatch h), rfl, by rw [ey p hpx, h4p]; rfl, fun y => ⟨fun h => (nomatch h), fun h => ?_⟩, fun i y b' h => by simp at h⟩
            rw [z] at h
            simp at h
          · rw [if_neg z] at hq; cases hq
        · by_cases z : q = []
          · by_cases w : r = []
            · rw [z, w]
            · rw [if_neg w] at hr; cases hr
          · rw [if_neg z] at hq; cases hq
        · simp at h
      -- the rows
      have u1e : ∀ {τ' : L2.St}, τ' = (L2.start N_Trie_init [.ref x, u1, u2]).set 3 (some v1) → τ'[1]? = some (some u1) := fun e => by subst e; rfl
      have t1 := u1e hτ.symm
      have g1 := rv_p r1
      cases g1 with
      | @lst ra xs _ a1 a2 =>
        have xl : xs.length = rows.length := by rw [dpa_len a2, List.length_map]
        have kp : ∀ H' : Hp, (∀ b o, b ≠ x → H b = some o → H' b = some o) → Same (hid m H) H' := fun H' k b o h => by
          obtain ⟨h1, h2⟩ := hid_some h
          exact k b o (fun z => by rw [z, mx] at h1; cases h1) h2
        refine raw_forL (c := c) (a := ra) (xs := xs) (fun i σ' H' => ∃ (M : Addr → Bool) (A : List Int → Option Addr) (ρ' : Rho), EnvM c G0 m M H' σ' ρ' ∧ ρ'.length = 6 ∧ ρ'[0]? = some (.fz (.at_ x)) ∧ ρ'[2]? = some (.fz (.p (dRow pI))) ∧ (∀ (j : Nat) d, ρ'[j]? ≠ some (.ow d)) ∧ TrAt C x H' A ∧ (∀ q, (A q).isSome = true ↔ q = [] ∨ ∃ r ∈ rows.take i, q <+: pathOf ps r) ∧
          (∀ b o, b ≠ x → H b = some o → H' b = some o) ∧ (∀ q b, A q = some b → M b = true ∧ H b = none) ∧ ∀ b, M b = true → m b = true ∨ H b = none) (det_var t1) (same_l (kp H5 k5) a1) (fun i σ' H' ⟨_, _, _, _, _, _, _, _, _, _, k, _⟩ => same_l (kp H' k) a1) ?_ ?_ ?_
        · refine ⟨_, _, _, E5, rfl, rfl, rfl, fun j d h => ?_, T5, fun q => ?_, k5, fun q b h => ?_, fun b hb => (mxp b hb).elim (fun z => .inr (z ▸ hHp)) .inl⟩
          · match j, h with
            | 0, h => cases h
            | 1, h => cases h
            | 2, h => cases h
            | 3, h => cases h
            | 4, h => cases h
            | 5, h => cases h
            | j + 6, h => simp [ρ0] at h
          · rw [List.take_zero]
            by_cases z : q = []
            · simp [z]
            · simp [z]
          · by_cases z : q = []
            · rw [if_pos z] at h; cases h; exact ⟨ins_self, hHp⟩
            · rw [if_neg z] at h; cases h
        · rintro i v σ' H' hv ⟨M, A, ρ', E, l6, p0, p2, no, tr, dom, keep, nodes, Mb⟩
          obtain ⟨d, g3, g4⟩ := dpa_get' a2 hv
          rw [List.getElem?_map] at g3
          cases hr : rows[i]? with
          | none => rw [hr] at g3; cases g3
          | some r =>
            rw [hr] at g3
            cases g3
            have hrm := List.mem_of_getElem? hr
            have sm : Same (hid m H) (hid M H') := fun b o h => by
              obtain ⟨h1, h2⟩ := hid_some h
              have : M b = false := by
                cases z : M b with
                | false => rfl
                | true => rcases Mb b z with w | w
                          · rw [h1] at w; cases w
                          · rw [h2] at w; cases w
              rw [hid_get this]
              exact keep b o (fun z => by rw [z, mx] at h1; cases h1) h2
            refine bd_name (i := 5) (d := .p (dRow r)) (by rw [l6]; decide) m M H' σ' v E (.p (dp_mono sm g4)) _ fun σ2 E2 _ => ?_
            have x2 : σ2[0]? = some (some (.ref x)) := by
              obtain ⟨v0, h1, h2⟩ := E2.fz 0 _ (by rw [List.getElem?_set_ne (by decide)]; exact p0)
              cases h2; exact h1
            obtain ⟨dx', root, n', dd', hx', h0'⟩ := tr.obj
            refine ⟨.ref x, x2, x, dx', _, rfl, hx', rfl, ?_⟩
            have lst : En c G0 (tLc (iTup c.K (tVar 2)) (gName 4) tYes (tOp (rIx c.K) (tVar 5) (tVar 4)) [4]) (ρ'.set 5 (.fz (.p (dRow r)))) (.list (ps.map fun k => .int (r.getD k 0))) := by
              refine en_lc1 ps (fun k => .p (.int (k : Int))) (fun k => .int (r.getD k 0)) (src_tupE ps (fun k : Nat => .int (k : Int)) ?_) (by omega) fun k hk => ?_
              · exact Ed.is (ed_var (i := 2) (by rw [List.getElem?_set_ne (by decide)]; exact p2)) (congrArg PyData.tuple (by simp only [pI, List.map_map]; rfl))
              · have hkr := ok.ok r hrm k hk
                have l6' : (clrW [4] (ρ'.set 5 (.fz (.p (dRow r))))).length = 6 := by
                  show ((ρ'.set 5 (.fz (.p (dRow r)))).set 4 .no).length = 6
                  rw [List.length_set, List.length_set]; exact l6
                refine ⟨_, _, fun _ h => h, bd_name (by rw [l6']; decide), ?_⟩
                refine Ed.is (ed_op (es_var (i := 5) ?_) (es_var (i := 4) (List.getElem?_set_self (by rw [l6']; decide))) (od_ixT (ds := r.map .int) (atE (l := r) (i := k) (x := r.getD k 0) ?_))) rfl
                · show (((ρ'.set 5 (.fz (.p (dRow r)))).set 4 .no).set 4 _)[5]? = _
                  rw [List.getElem?_set_ne (by decide), List.getElem?_set_ne (by decide), List.getElem?_set_self (by rw [l6]; decide)]; rfl
                · rw [List.getD_eq_getElem?_getD, List.getElem?_eq_getElem hkr]; rfl
            refine lst m M H' σ2 E2 _ fun l6' H6 d6 n6 f6 j6 ow6 e6 => ?_
            subst e6
            obtain ⟨ws, w1, w2⟩ := ow6
            have w3 : ws = (pathOf ps r).map V.int := dpa_ints (by unfold pathOf; rw [List.map_map]; exact w2)
            subst w3
            have hxM : M x = true := E.sub x mx
            refine ⟨x, l6', A, pathOf ps r, rfl, w1, by unfold pathOf; rw [List.length_map]; omega, fun y hy => ?_, ⟨⟨dx', root, n', dd', f6 x _ rfl hx', h0'⟩, tr.flat.mono fun b o h => f6 b o rfl h, tr.inj, tr.clo⟩, fun H7 A7 tr7 dom7 keep7 new7 ext7 => ?_⟩
            · obtain ⟨k, hk, e⟩ := List.mem_map.mp hy
              have hkr := ok.ok r hrm k hk
              have : r.getD k 0 ∈ r := by rw [List.getD_eq_getElem?_getD, List.getElem?_eq_getElem hkr]; exact List.getElem_mem hkr
              exact ok.low r hrm y (e ▸ this)
            · classical
              let M7 : Addr → Bool := fun b => M b || decide (∃ q, A7 q = some b)
              have m7 : ∀ b, M7 b = true ↔ M b = true ∨ ∃ q, A7 q = some b := fun b => by simp [M7]
              have h6n : ∀ b, H6 b = none → H b = none := fun b h => by
                cases z : H b with
                | none => rfl
                | some o =>
                  by_cases w : b = x
                  · subst w; rw [f6 b _ rfl hx'] at h; cases h
                  · rw [f6 b o rfl (keep b o w z)] at h; cases h
              have hno : ∀ (j : Nat) d, (ρ'.set 5 (.fz (.p (dRow r))))[j]? ≠ some (.ow d) := fun j d h => by
                by_cases z : j = 5
                · subst z; rw [List.getElem?_set_self (by rw [l6]; decide)] at h; cases h
                · rw [List.getElem?_set_ne (Ne.symm z)] at h; exact no j d h
              refine ⟨M7, A7, _, (E2.fx f6 j6).raw (M' := M7) (H' := H7) hno (fun b o hb ho => keep7 b o (fun z => by rw [z, hxM] at hb; cases hb) (fun q hq => by rw [(nodes q b hq).1] at hb; cases hb) ho) (fun b hb => (m7 b).mpr (.inl hb)) (fun b hb => ?_) (fun b hb => ?_), by rw [List.length_set]; exact l6, by rw [List.getElem?_set_ne (by decide)]; exact p0, by rw [List.getElem?_set_ne (by decide)]; exact p2, hno, tr7, fun q => ?_, fun b o h1 h2 => keep7 b o h1 (fun q hq => by rw [(nodes q b hq).2] at h2; cases h2) (f6 b o rfl (keep b o h1 h2)), fun q b hq => ⟨(m7 b).mpr (.inr ⟨q, hq⟩), ?_⟩, fun b hb => ?_⟩
              · rcases (m7 b).mp hb with z | ⟨q, hq⟩
                · exact .inl z
                · exact (new7 q b hq).elim (fun z => .inl (nodes q b z).1) .inr
              · by_cases z : ∃ q, A7 q = some b
                · obtain ⟨q, hq⟩ := z
                  obtain ⟨_, _, _, _, _, z4, _⟩ := tr7.flat q b hq
                  exact ⟨_, z4⟩
                · by_cases w : b = x
                  · obtain ⟨_, _, _, _, z1, _⟩ := tr7.obj
                    exact ⟨_, w ▸ z1⟩
                  · have hM : M b = true := ((m7 b).mp hb).elim id fun y => absurd y z
                    obtain ⟨o, ho⟩ := ((E2.fx f6 j6).k).al b hM
                    exact ⟨o, keep7 b o w (fun q hq => z ⟨q, ext7 q b hq⟩) ho⟩
              · rw [dom7, dom, take_snoc hr]
                constructor
                · rintro ((z | ⟨r', h1, h2⟩) | z)
                  · exact .inl z
                  · exact .inr ⟨r', List.mem_append.mpr (.inl h1), h2⟩
                  · exact .inr ⟨r, List.mem_append.mpr (.inr (List.mem_singleton.mpr rfl)), z⟩
                · rintro (z | ⟨r', h1, h2⟩)
                  · exact .inl (.inl z)
                  · rcases List.mem_append.mp h1 with w | w
                    · exact .inl (.inr ⟨r', w, h2⟩)
                    · exact .inr (List.mem_singleton.mp w ▸ h2)
              · exact (new7 q b hq).elim (fun z => (nodes q b z).2) (h6n b)
              · rcases (m7 b).mp hb with z | ⟨q, hq⟩
                · exact Mb b z
                · exact .inr ((new7 q b hq).elim (fun z => (nodes q b z).2) (h6n b))
        · rintro σ' H' ⟨M, A, ρ', E, l6, p0, p2, no, tr, dom, keep, nodes, Mb⟩
          rw [xl, List.take_length] at dom
          obtain ⟨dx', root, n', dd', hx', h0'⟩ := tr.obj
          refine q H' (oTrie C A n' dd') keep ?_ (hP _ ⟨A, n', dd', ⟨tr.clo, by rw [h0']; rfl, fun q => ?_⟩, rfl⟩)
          · have oxx : out x m x = false := out_self
            have om : ∀ b, m b = false → out x m b = false := fun b h => by
              cases z : out x m b with
              | false => rfl
              | true => rw [out_of z] at h; cases h
            have F : FlatT (hid (out x m) H') A := fun q b hq => by
              obtain ⟨ks, bs, f1, f2, f3, f4, f5⟩ := tr.flat q b hq
              refine ⟨ks, bs, f1, f2, f3, ?_, f5⟩
              rw [hid_get (om b ?_)]; exact f4
              cases z : m b with
              | false => rfl
              | true => obtain ⟨o, ho⟩ := al b z; rw [(nodes q b hq).2] at ho; cases ho
            exact .obj (ns := ["top", "size", "depth"]) (vs := [.ref root, .int n', .int dd']) (dx := dx') (by rw [hid_get oxx]; exact hx') rfl (.cons (.tri F h0') (.cons (.p (.int _)) (.cons (.p (.int _)) .nil)))
          · rw [dom]
            constructor
            · rintro (z | ⟨r, h1, h2⟩)
              · exact .inl z
              · exact .inr ⟨_, List.mem_map_of_mem h1, h2⟩
            · rintro (z | ⟨_, h1, h2⟩)
              · exact .inl z
              · obtain ⟨r, h3, rfl⟩ := List.mem_map.mp h1
                exact .inr ⟨r, h3, h2⟩
end JQ

-- part Sy
set_option Elab.async false
set_option linter.all false
set_option maxRecDepth 100000
set_option maxHeartbeats 2000000
/-! Branches. -/
namespace JQ
open PySem PySem.Spec PyProof.Rows L2
/-- the first place of a variable -/
def fstAt (vs : List Str) (v : Str) : Nat := vs.idxOf v
theorem fst_lt {vs : List Str} {v : Str} (h : v ∈ vs) : fstAt vs v < vs.length := List.idxOf_lt_length_iff.mpr h
theorem fst_get {vs : List Str} {v : Str} (h : v ∈ vs) : vs[fstAt vs v]? = some v := by
  rw [List.getElem?_eq_getElem (fst_lt h)]
  exact congrArg some (List.getElem_idxOf (fst_lt h))
theorem fst_no {vs : List Str} {v : Str} : ∀ m, m < fstAt vs v → vs[m]? ≠ some v := by
  induction vs with
  | nil => intro m hm; simp [fstAt] at hm
  | cons w vs ih =>
    intro m hm
    unfold fstAt at hm
    rw [List.idxOf_cons] at hm
    by_cases e : w = v
    · simp [e] at hm
    · have : (w == v) = false := beq_eq_false_iff_ne.mpr e
      rw [this] at hm
      cases m with
      | zero => simp [e]
      | succ m => exact ih m (by unfold fstAt; simp at hm; omega)
def agV (vs : List Str) (r : Row) : Bool := (List.range vs.length).all fun k => decide (r.getD k 0 = r.getD (fstAt vs (vs.getD k default)) 0)
theorem atD {α : Type} {l : List α} {k : Nat} {d : α} (h : k < l.length) : l[k]? = some (l.getD k d) := by rw [List.getD_eq_getElem?_getD, List.getElem?_eq_getElem h]; rfl
theorem memD {α : Type} {l : List α} {k : Nat} {d : α} (h : k < l.length) : l.getD k d ∈ l := List.mem_of_getElem? (atD h)
section
variable {c : Cf} {G : Gx} {ρ : Rho}
theorem ed_tN {te : TE} {xs : List Str} (h : Ev c G te ρ (· = .tN xs)) : Ed c G te ρ (.tuple (xs.map .str)) := h.conv fun _ _ r => rva_tN r
end
def R_Branch_agrees : List DV → (DV → Prop) → Prop := mkR (fun x : (DV × List Str) × Row => x.2.length = x.1.2.length ∧ x.2.length < 1000000) (fun x => [x.1.1, .tN x.1.2, .p (dRow x.2)]) fun x d => d = .p (.bool (agV x.1.2 x.2))
theorem rn_Branch_agrees {c : Cf} {G : Gx} {me : DV} {vs : List Str} {r : Row} (hl : r.length = vs.length) (hn : r.length < 1000000) : Run c G (t_Branch_agrees c) (args 4 [me, .tN vs, .p (dRow r)]) (fun o => o = .rt (.p (.bool (agV vs r)))) := by
  refine run_ret (P := (· = .p (.bool (agV vs r)))) (ed_cb1 (en_lc1 (List.range vs.length) (fun k => .p (.int (k : Int))) (fun k => .bool (decide (r.getD k 0 = r.getD (fstAt vs (vs.getD k default)) 0))) (src_range (ed_cb1 (ed_tN (ev_var rfl)).s cb_lenTE).s (by omega)) (by rw [List.length_range]; omega) fun k hk => ⟨_, _, fun _ h => h, bd_name (lq rfl), ?_⟩).s cb_allF) fun d e => by rw [e]
  have hk := List.mem_range.mp hk
  have hv := memD (d := default) hk
  have hi := fst_lt hv
  refine Ed.is (ed_op (ed_op (es_var rfl) (es_var rfl) (od_ixT (ds := r.map .int) (atE (atD (d := 0) (by omega))))).s (ed_op (es_var rfl) (ed_idx (y := vs.getD k default) (ev_var rfl) (ed_op (ed_tN (ev_var rfl)).s (es_var rfl) (od_ixT (ds := vs.map .str) (atE (atD hk)))).s (fst_get hv) fst_no).s (od_ixT (ds := r.map .int) (atE (atD (d := 0) (by omega))))).s (od_eq (int_fine _) rfl)) ?_
  rw [enc_int.eqB]
end JQ

-- part Sz
set_option Elab.async false
set_option linter.all false
set_option maxRecDepth 100000
set_option maxHeartbeats 2000000
/-! A branch is made. -/
namespace JQ
open PySem PySem.Spec PyProof.Rows L2
theorem rva_snoc {c : Cf} {H : Hp} {d : DV} : ∀ {vs : List V} {ds : List DV}, RvAll c H vs (ds ++ [d]) → ∃ vs' u, vs = vs' ++ [u] ∧ RvAll c H vs' ds ∧ Rv c H u d
  | _, [], .cons h .nil => ⟨[], _, rfl, .nil, h⟩
  | _, _ :: ds, .cons h r => by
    obtain ⟨vs', u, e, h1, h2⟩ := rva_snoc (ds := ds) r
    exact ⟨_ :: vs', u, by rw [e]; rfl, .cons h h1, h2⟩
theorem put_lastV {f : Str} {v w : V} : ∀ {ns : List Str} {vs : List V}, f ∉ ns → ns.length = vs.length → putF f v ((ns ++ [f]).zip (vs ++ [w])) = (ns ++ [f]).zip (vs ++ [v])
  | [], [], _, _ => by show (if f = f then _ else _) = _; rw [if_pos rfl]; rfl
  | [], _ :: _, _, h => by cases h
  | _ :: _, [], _, h => by cases h
  | n :: ns, u :: vs, h, hl => by
    rw [List.mem_cons, not_or] at h
    show (if n = f then _ else _) = _
    rw [if_neg (Ne.symm h.1)]
    exact congrArg ((n, u) :: ·) (put_lastV h.2 (Nat.succ.inj hl))
/-- the last field gets another value -/
theorem run_fldU {c : Cf} {G : Gx} {ρ : Rho} {tx : TE} {P : DV → Prop} {i : Nat} {x C : Addr} {ns : List Str} {ds : List DV} {d0 : DV} {f : Str} {Φ : Out → Prop} (h : ρ[i]? = some (.ow (.me x C (ns ++ [f]) (ds ++ [d0])))) (hv : Ev c G tx ρ P) (hc : Cls c.K C) (hn : NoAttr c.K C f) (hf : f ∉ ns) (hl : ns.length < 999)
    (kk : ∀ d, P d → Φ (.nx (ρ.set i (.ow (.me x C (ns ++ [f]) (ds ++ [d])))))) : Run c G (sFld c.K (tVar i) tx f) ρ Φ := fun m0 H0 M H σ D E B L =>
  hv m0 M H σ E _ fun u H1 d f1 j1 r1 p1 => by
    have E1 := E.fx f1 j1
    obtain ⟨a, h1, h2, h3, rfl, dx, vs0, h4, h5, h6⟩ := E1.ow i _ h
    obtain ⟨vs, w, rfl, h7, _⟩ := rva_snoc h6
    have hlen : ns.length = vs.length := by rw [List.length_append, List.length_append] at h5; exact Nat.add_right_cancel h5
    have hs : Same (hid M H1) (hid M (upd H1 a (.ins C dx ((ns ++ [f]).zip (vs ++ [u]))))) := fun z w q => by
      obtain ⟨z1, z2⟩ := hid_some q
      rw [hid_get z1, upd_ne (fun z => by subst z; rw [h2] at z1; cases z1)]; exact z2
    refine ⟨.ref a, h1, a, C, dx, _, rfl, h4, hc, hn, by rw [List.length_zip, List.length_append]; simp; omega, ?_⟩
    rw [put_lastV hf hlen]
    refine L.nx _ _ ⟨M, _, E1.setW (d' := .me a C (ns ++ [f]) (ds ++ [d])) h h1 (by rw [h4]; intro _ z; cases z) ⟨rfl, dx, vs ++ [u], upd_same, by rw [List.length_append, List.length_append, hlen]; rfl, ?_⟩, (B.fxx f1).upd h2 h3, kk d p1⟩
    exact rva_app (rva_mono hs h7) (.cons (rv_mono hs r1) .nil)
structure BrK (K : PySem.W.Frag) (C : Addr) : Prop where
  cl : Cls K C
  places : NoAttr K C "places"
  empty : NoAttr K C "empty"
  trie : NoAttr K C "trie"
def rowsOf (C : Cat) (a : Atom) : List Row := (tbl C a.1).filter (agV a.2)
def placesOf (a : Atom) (vs : List Str) : List Nat := (List.range vs.length).filter fun k => decide (vs.getD k default ∈ a.2)
def posOf (a : Atom) (vs : List Str) : List Nat := (placesOf a vs).map fun k => fstAt a.2 (vs.getD k default)
def oBranch (CB CT : Addr) (ps : List Nat) (e : Bool) (A : List Int → Option Addr) (n dd : Int) : DV := .obj CB ["places", "empty", "trie"] [.p (.list (ps.map fun k : Nat => .int (k : Int))), .p (.bool e), oTrie CT A n dd]
structure okBr (C : Cat) (a : Atom) (vs : List Str) : Prop where
  g : GCat C
  tab : ∃ t ∈ C, t.1 = a.1 ∧ t.2.1 = a.2.length
  nd : vs.Nodup
  sub : ∀ v ∈ a.2, v ∈ vs
  few : vs.length ≤ 3
def R_Branch (CB CT : Addr) : List DV → (DV → Prop) → Prop := mkR (fun x : (Cat × Atom) × List Str => okBr x.1.1 x.1.2 x.2) (fun x => [.p (dCat x.1.1), nAtom x.1.2, .tN x.2])
  fun x d => ∃ A n dd, TrieOf A ((rowsOf x.1.1 x.1.2).map (pathOf (posOf x.1.2 x.2))) ∧ d = oBranch CB CT (placesOf x.1.2 x.2) (decide (((rowsOf x.1.1 x.1.2).length : Int) = 0)) A n dd
theorem okBr.tr {C : Cat} {a : Atom} {vs : List Str} (h : okBr C a vs) : okTr (rowsOf C a) (posOf a vs) := by
  obtain ⟨t, ht, e1, e2⟩ := h.tab
  have gt := h.g.tabs t ht
  have htb : tbl C a.1 = t.2.2 := by rw [← e1, tbl_of h.g ht]
  have rr : ∀ r ∈ rowsOf C a, okRow t.2.1 r := fun r hr => gt.rows r (htb ▸ (List.mem_filter.mp hr).1)
  have hmem : ∀ k ∈ placesOf a vs, k < vs.length ∧ vs.getD k default ∈ a.2 := fun k hk => ⟨List.mem_range.mp (List.mem_filter.mp hk).1, of_decide_eq_true (List.mem_filter.mp hk).2⟩
  refine ⟨?_, ?_, ?_, ?_, fun r hr k hk => ?_, fun r hr x hx => ?_⟩
  · exact Nat.le_trans (List.length_filter_le _ _) (by rw [htb]; exact gt.few)
  · unfold posOf
    rw [List.length_map]
    exact Nat.le_trans (List.length_filter_le _ _) (by rw [List.length_range]; exact Nat.le_trans h.few (by decide))
  · have c1 : 1 ≤ a.2.length := e2 ▸ gt.c1
    have hv := List.getElem_mem (show 0 < a.2.length by omega)
    obtain ⟨k, hk⟩ := List.getElem?_of_mem (h.sub _ hv)
    have hkl := (List.getElem?_eq_some_iff.mp hk).1
    have : k ∈ placesOf a vs := List.mem_filter.mpr ⟨List.mem_range.mpr hkl, decide_eq_true (by
      rw [List.getD_eq_getElem?_getD, hk]; exact hv)⟩
    unfold posOf
    rw [List.length_map]
    exact List.length_pos_of_mem this
  · unfold posOf
    refine List.pairwise_map.mpr ?_
    refine List.Pairwise.imp_of_mem ?_ (List.nodup_range.filter _)
    intro i j hi hj hij e
    have h1 := hmem i hi
    have h2 := hmem j hj
    have g1 := fst_get h1.2
    have g2 := fst_get h2.2
    rw [e, g2] at g1
    have hd := Option.some.inj g1
    have q1 := atD (d := default) h1.1
    have q2 := atD (d := default) h2.1
    rw [← hd] at q1
    exact hij ((List.getElem?_inj h1.1 h.nd).mp (q1.trans q2.symm))
  · obtain ⟨j, hj, e⟩ := List.mem_map.mp hk
    rw [← e, (rr r hr).1, e2]
    exact fst_lt (hmem j hj).2
  · exact (rr r hr).2 x hx
theorem Ed_dPos {c : Cf} {G : Gx} (a : Atom) (os : List Str) : CbD c G (rTupOf c.K) (.p (.list ((placesOf a os).map fun k => .int ((fstAt a.2 (os.getD k default) : Nat) : Int)))) (· = .p (dPos (posOf a os))) := by
  have h := cb_tupL (c := c) (G := G) (ds := (placesOf a os).map fun k => .int ((fstAt a.2 (os.getD k default) : Nat) : Int))
  have e : dPos (posOf a os) = .tuple ((placesOf a os).map fun k => .int ((fstAt a.2 (os.getD k default) : Nat) : Int)) := by
    unfold dPos posOf dRow
    rw [List.map_map, List.map_map]; rfl
  rw [e]; exact h
theorem init_Branch {c : Cf} {CB CT : Addr} (B : BrK c.K CB) (vs : List V) (H : Hp) (Q : VK) (E : XK) (hsp : spI c CB (R_Branch CB CT) vs H Q E) : t_Branch_init c R_table_at CB (spR c R_Branch_agrees) CT (spI c CT (R_Trie CT)) { nx := fun _ H' => Q .non H', rt := Q } (L2.start N_Branch_init vs) H := by
  refine init_of (N := N_Branch_init) (fun ds P h => ?_) (fun x ds P h => ?_) vs H Q E hsp
  · obtain ⟨_, _, e, _⟩ := h
    subst e; exact (Nat.le_of_ble_eq_true rfl : 3 + 1 ≤ 9)
  · obtain ⟨⟨⟨C, a⟩, os⟩, ok, e, hP⟩ := h
    subst e
    have ok : okBr C a os := ok
    obtain ⟨t, ht, e1, e2⟩ := ok.tab
    have gt := ok.g.tabs t ht
    have htb : tbl C a.1 = t.2.2 := by rw [← e1, tbl_of ok.g ht]
    have a4 : a.2.length ≤ 4 := e2 ▸ gt.c4
    have a1 : 1 ≤ a.2.length := e2 ▸ gt.c1
    have hfew := ok.few
    have rl : ∀ r ∈ tbl C a.1, r.length = a.2.length := fun r hr => by
      rw [htb] at hr
      rw [(gt.rows r hr).1, e2]
    have trl : (rowsOf C a).length ≤ 5 := Nat.le_trans (List.length_filter_le _ _) (by rw [htb]; exact gt.few)
    refine run_seq (run_bind (ev_var rfl) (bd_tupX (bdx_cons (bd_name (lq rfl)) (bdx_cons (bd_name (lq rfl)) bdx_nil)) rfl) ?_)
    refine run_seq (run_set (en_lc (tbl C a.1) (fun r => .p (dRow r)) (agV a.2) dRow (src_tupE _ dRow (ed_op (ed_call (d := dTab t) (ea_cons (ed_var rfl) (ea_cons (ed_var rfl) ea_nil)) ⟨(C, t), ⟨ok.g, ht⟩, by rw [← e1]; rfl, fun _ e => e⟩).s ed_int.s (od_ixT (by rw [htb]; rfl)))) (by rw [htb]; have := gt.few; omega) fun r hr => ⟨_, _, fun _ h => h, bd_name (lq rfl), et_B (ev_methM (evs_own rfl) (by decide) (eva_cons1 (ev_var rfl) (eva_cons1 (ev_var rfl) eva_nil)) fun as e => by subst e; exact ⟨((_, a.2), r), ⟨rl r hr, by show r.length < 1000000; rw [rl r hr]; omega⟩, rfl, fun _ e => e⟩).s, fun _ => ed_var rfl⟩).e (lq rfl) ?_)
    refine run_seq (run_fld (P := (· = .p (.list ((placesOf a os).map fun k : Nat => .int (k : Int))))) rfl ?_ B.cl B.places (by decide) (by decide) fun d e => ?_)
    · refine (en_lc (List.range os.length) (fun k => .p (.int (k : Int))) (fun k => decide (os.getD k default ∈ a.2)) (fun k => .int (k : Int)) (src_range (ed_cb1 (ed_tN (ev_var rfl)).s cb_lenTE).s (by omega)) (by rw [List.length_range]; omega) fun k hk => ⟨_, _, fun _ h => h, bd_name (lq rfl), ?_, fun _ => ed_var rfl⟩).e
      have hk := List.mem_range.mp hk
      exact Et.is (et_test (ed_op (ed_op (ed_tN (ev_var rfl)).s (es_var rfl) (od_ixT (ds := os.map .str) (atE (atD hk)))).s (ed_tN (ev_var rfl)).s (od_inT (str_fine _) (enc_str.pls _))).s) (by rw [enc_str.any])
    subst e
    refine run_seq (run_fld (P := (· = .p (.bool (decide (((rowsOf C a).length : Int) = 0))))) rfl ?_ B.cl B.empty (by decide) (by decide) fun d e => ?_)
    · exact Ed.is (ed_op (ed_cb1 (ed_var rfl).s cb_lenLE).s ed_int.s (od_eq (int_fine _) rfl)) (by rw [enc_int.eqB]; rfl)
    subst e
    refine run_seq (run_fld (P := (· = .p .none)) rfl ed_none B.cl B.trie (by decide) (by decide) fun d e => ?_)
    subst e
    have hpl : (placesOf a os).length ≤ 3 := Nat.le_trans (List.length_filter_le _ _) (by rw [List.length_range]; exact hfew)
    have hp : 0 < (placesOf a os).length := ok.tr.p1 |> fun h => by unfold posOf at h; rw [List.length_map] at h; exact h
    refine run_if (b := true) ?_ (fun _ => ?_) (fun h => nomatch h)
    · exact Et.is (et_test (ed_op (ed_cb1 (ev_fldM (evs_own rfl) B.cl B.places rfl).s cb_lenLE).s ed_int.s od_gt).s) (decide_eq_true (by omega))
    refine run_fldU (ns := ["places", "empty"]) (ds := [_, _]) (P := fun d => ∃ A n dd, TrieOf A ((rowsOf C a).map (pathOf (posOf a os))) ∧ d = oTrie CT A n dd) rfl (ev_make (PA := (· = [.p (.list ((rowsOf C a).map dRow)), .p (dPos (posOf a os))])) ?_ fun as e => by subst e; exact ⟨(rowsOf C a, posOf a os), ok.tr, rfl, fun _ h => h⟩) B.cl B.trie (by decide) (by decide) fun d hd => ?_
    · refine eva_cons1 (ev_var rfl) (eva_cons1 (ed_cb1 (en_lc1 (placesOf a os) (fun k => .p (.int (k : Int))) (fun k => .int ((fstAt a.2 (os.getD k default) : Nat) : Int)) (src_listE (placesOf a os) (fun k : Nat => .int (k : Int)) (ev_fldM (evs_own rfl) B.cl B.places rfl)) (by omega) fun k hk => ⟨_, _, fun _ h => h, bd_name (lq rfl), ?_⟩).s (Ed_dPos a os)) eva_nil)
      have hk := List.mem_filter.mp hk
      have hk1 := List.mem_range.mp hk.1
      have hk2 := of_decide_eq_true hk.2
      exact ed_idx (ev_var rfl) (ed_op (ed_tN (ev_var rfl)).s (es_var rfl) (od_ixT (ds := os.map .str) (atE (atD hk1)))).s (fst_get hk2) fst_no
    · obtain ⟨A, n, dd, h1, h2⟩ := hd
      subst h2
      exact ⟨_, _, _, rfl, hP _ ⟨A, n, dd, h1, rfl⟩⟩
end JQ

-- part Ta
set_option Elab.async false
set_option linter.all false
set_option maxRecDepth 100000
set_option maxHeartbeats 2000000
/-! A search. -/
namespace JQ
open PySem PySem.Spec PyProof.Rows L2
def sel (ps : List Nat) (pre : Row) : List Int := (ps.filter fun k => decide (k < pre.length)).map fun k => pre.getD k 0
/-- the things of a branch -/
structure Br where
  ps : List Nat
  e : Bool
  A : List Int → Option Addr
  n : Int
  dd : Int
def Br.obj (CB CT : Addr) (b : Br) : DV := oBranch CB CT b.ps b.e b.A b.n b.dd
structure okB (b : Br) : Prop where
  clo : Clo b.A
  root : (b.A []).isSome = true
  pl : b.ps.length ≤ 3
def isCh (b : Br) (pre : Row) (ys : List Int) : Prop := upw ys ∧ (∀ y ∈ ys, 0 ≤ y ∧ y < 10) ∧ ∀ y, y ∈ ys ↔ (b.A (sel b.ps pre ++ [y])).isSome = true
def R_Branch_choices (CB CT : Addr) : List DV → (DV → Prop) → Prop := mkR (fun x : Br × Row => okB x.1 ∧ x.2.length ≤ 1000) (fun x => [x.1.obj CB CT, .p (dRow x.2)]) fun x d => ∃ ys : List Int, isCh x.1 x.2 ys ∧ d = .p (dRow ys)
theorem rn_Branch_choices {c : Cf} {G : Gx} {CB CT : Addr} (B : BrK c.K CB) {b : Br} {pre : Row} (h : okB b) (hl : pre.length ≤ 1000) : Run c G (t_Branch_choices c CT (spR c (R_Trie_children CT))) (args 3 [b.obj CB CT, .p (dRow pre)]) (fun o => ∃ d, (∃ ys : List Int, isCh b pre ys ∧ d = .p (dRow ys)) ∧ o = .rt d) := by
  have hpl := h.pl
  refine run_ret (P := fun d => ∃ ys : List Int, isCh b pre ys ∧ d = .p (dRow ys)) (ev_meth (C := CT) (ns := ["top", "size", "depth"]) (ds := [.tri b.A [], .p (.int b.n), .p (.int b.dd)]) (PA := (· = [.p (dRow (sel b.ps pre))])) (ev_fld (ev_var rfl).s B.cl B.trie rfl) (by decide) (eva_cons1 ?_ eva_nil) fun as e => by subst e; exact ⟨((b.A, b.n, b.dd), sel b.ps pre), ⟨h.clo, h.root, by
      unfold sel
      rw [List.length_map]
      have := List.length_filter_le (fun k => decide (k < pre.length)) b.ps
      show _ < 1000000
      omega⟩, rfl, fun d ⟨ys, h1, h2, h3, e⟩ => ⟨ys, ⟨h1, h2, h3⟩, e⟩⟩) fun d h => ⟨d, h, rfl⟩
  have := ed_cb1 (c := c) (G := G) (ρ := args 3 [b.obj CB CT, .p (dRow pre)]) (ta := tLc (iList c.K (tFld c.K (tVar 0) "places")) (gName 2) (tTest (tOp rLtI (tVar 2) (tCB (rLen c.K) (tCons (tVar 1) (tNil))))) (tOp (rIx c.K) (tVar 1) (tVar 2)) [2]) (en_lc b.ps (fun k => .p (.int (k : Int))) (fun k => decide (k < pre.length)) (fun k => .int (pre.getD k 0)) (src_listE b.ps (fun k : Nat => .int (k : Int)) (ev_fld (ev_var rfl).s B.cl B.places rfl)) (by omega) fun k hk => ⟨_, _, fun _ h => h, bd_name (lq rfl), Et.is (et_test (ed_op (es_var rfl) (ed_cb1 (ev_var rfl).s cb_lenTE).s od_lt).s) (decide_eq_decide.mpr Int.ofNat_lt), fun hk => ?_⟩).s cb_tupL
  · refine this.is ?_
    unfold sel dRow
    rw [List.map_map]; rfl
  · exact ed_op (es_var rfl) (es_var rfl) (od_ixT (ds := pre.map .int) (atE (atD (of_decide_eq_true hk))))
end JQ

-- part Tb
set_option Elab.async false
set_option linter.all false
set_option maxRecDepth 100000
set_option maxHeartbeats 2000000
/-! A search is made. -/
namespace JQ
open PySem PySem.Spec PyProof.Rows L2
structure SeK (K : PySem.W.Frag) (C : Addr) : Prop where
  cl : Cls K C
  many : NoAttr K C "many"
  branches : NoAttr K C "branches"
  dead : NoAttr K C "dead"
def isBr (C : Cat) (os : List Str) (a : Atom) (b : Br) : Prop := b.ps = placesOf a os ∧ b.e = decide (((rowsOf C a).length : Int) = 0) ∧ TrieOf b.A ((rowsOf C a).map (pathOf (posOf a os)))
def areBr (C : Cat) (os : List Str) (as : List Atom) (bs : List Br) : Prop := bs.length = as.length ∧ ∀ (i : Nat) a, as[i]? = some a → ∃ b, bs[i]? = some b ∧ isBr C os a b
abbrev sns : List Str := ["many", "branches", "dead"]
def oSearch (CB CT CS : Addr) (n : Nat) (bs : List Br) : DV := .obj CS sns [.p (.int (n : Int)), .l (bs.map (Br.obj CB CT)), .p (.bool (bs.any Br.e))]
structure okSe (C : Cat) (p : Pat) (os : List Str) : Prop where
  good : Good (C, p)
  os : os = varsOf p
def R_Search (CB CT CS : Addr) : List DV → (DV → Prop) → Prop := mkR (fun x : (Cat × Pat) × List Str => okSe x.1.1 x.1.2 x.2) (fun x => [.p (dCat x.1.1), nPat x.1.2, .tN x.2])
  fun x d => ∃ bs, areBr x.1.1 x.2 x.1.2.2 bs ∧ d = oSearch CB CT CS x.2.length bs
theorem br_key {CB CT : Addr} {C : Cat} {os : List Str} {as : List Atom} {n : Nat} {o : List DV} (h : LcR (fun _ b => b = true) (fun i d => ∃ a b, as[i]? = some a ∧ isBr C os a b ∧ d = Br.obj CB CT b) n o) : ∃ bs : List Br, o = bs.map (Br.obj CB CT) ∧ bs.length = n ∧ ∀ i a, i < n → as[i]? = some a → ∃ b, bs[i]? = some b ∧ isBr C os a b := by
  induction h with
  | zero => exact ⟨[], rfl, rfl, fun i a h => absurd h (Nat.not_lt_zero _)⟩
  | no _ pb ih => cases pb
  | @yes j out d _ _ pe ih =>
    obtain ⟨bs, e1, e2, e3⟩ := ih
    obtain ⟨a, b, h1, h2, h3⟩ := pe
    refine ⟨bs ++ [b], by rw [e1, h3, List.map_append]; rfl, by rw [List.length_append, e2]; rfl, fun i a' hi ha => ?_⟩
    rcases Nat.lt_or_ge i j with z | z
    · obtain ⟨b', g1, g2⟩ := e3 i a' z ha
      exact ⟨b', by rw [List.getElem?_append_left (by omega)]; exact g1, g2⟩
    · have : i = j := by omega
      subst this
      rw [h1] at ha
      cases ha
      exact ⟨b, by rw [← e2, List.getElem?_append_right (Nat.le_refl _), Nat.sub_self]; rfl, h2⟩
theorem okSe.br {C : Cat} {p : Pat} {os : List Str} (h : okSe C p os) {a : Atom} (ha : a ∈ p.2) : okBr C a os := by
  obtain ⟨⟨g, hp⟩, e⟩ := h
  have hp : GPat C p := hp
  subst e
  exact ⟨g, hp.at_.tab a ha, nd_dd List.nodup_nil, fun v hv => varsOf_mem.mpr ⟨a, ha, hv⟩, hp.few⟩
theorem init_Search {c : Cf} {CB CT CS : Addr} (S : SeK c.K CS) (B : BrK c.K CB) (vs : List V) (H : Hp) (Q : VK) (E : XK) (hsp : spI c CS (R_Search CB CT CS) vs H Q E) : t_Search_init c CB (spI c CB (R_Branch CB CT)) { nx := fun _ H' => Q .non H', rt := Q } (L2.start N_Search_init vs) H := by
  refine init_of (N := N_Search_init) (fun ds P h => ?_) (fun x ds P h => ?_) vs H Q E hsp
  · obtain ⟨_, _, e, _⟩ := h
    subst e; exact (Nat.le_of_ble_eq_true rfl : 3 + 1 ≤ 6)
  · obtain ⟨⟨⟨C, p⟩, os⟩, ok, e, hP⟩ := h
    subst e
    have ok : okSe C p os := ok
    have h3 : p.2.length ≤ 3 := ok.good.2.at_.few
    refine run_seq (run_fld (P := (· = .p (.int (os.length : Int)))) rfl (Ed.is (ed_cb1 (ed_tN (ev_var rfl)).s cb_lenTE) rfl) S.cl S.many (by decide) (by decide) fun d e => ?_)
    subst e
    refine run_seq (run_fld (P := fun d => ∃ bs, areBr C os p.2 bs ∧ d = .l (bs.map (Br.obj CB CT))) rfl ((evn_lc (PB := fun _ b => b = true) (PE := fun i d => ∃ a b, p.2[i]? = some a ∧ isBr C os a b ∧ d = Br.obj CB CT b) (src_tp (ev_op (P1 := (· = nPat p)) (P2 := (· = .p (.int 1))) (P := (· = .tp (p.2.map nAtom))) (ev_var rfl).s ed_int.s fun _ _ e1 e2 => by subst e1 e2; exact od_ixP rfl)) (by rw [List.length_map]; omega) fun i d hd => ?_).e.imp fun d ⟨out, lr, e⟩ => ?_) S.cl S.branches (by decide) (by decide) fun d hd => ?_)
    · rw [List.getElem?_map] at hd
      cases ha : p.2[i]? with
      | none => rw [ha] at hd; cases hd
      | some a =>
        rw [ha] at hd
        cases hd
        have ham := List.mem_of_getElem? ha
        refine ⟨[4], _, fun _ h => h, bd_name (lq rfl), et_yes, fun _ => ev_make (PA := (· = [.p (dCat C), nAtom a, .tN os])) (eva_cons1 (ev_var rfl) (eva_cons1 (ev_var rfl) (eva_cons1 (ev_var rfl) eva_nil))) fun as e => ?_⟩
        subst e
        exact ⟨((C, a), os), ok.br ham, rfl, fun d ⟨A, n, dd, h1, h2⟩ => ⟨a, ⟨placesOf a os, _, A, n, dd⟩, ha, ⟨rfl, rfl, h1⟩, h2⟩⟩
    · obtain ⟨bs, e1, e2, e3⟩ := br_key lr
      rw [List.length_map] at e2 e3
      exact ⟨bs, ⟨e2, fun i a ha => e3 i a (List.getElem?_eq_some_iff.mp ha).1 ha⟩, by rw [e, e1]⟩
    · obtain ⟨bs, hb, e⟩ := hd
      subst e
      have hbl : bs.length ≤ 3 := hb.1 ▸ h3
      refine run_fld (P := (· = .p (.bool (bs.any Br.e)))) rfl (ed_cb1 (en_lc1 bs (Br.obj CB CT) (fun b => .bool b.e) (src_any (ev_fldM (evs_own rfl) S.cl S.branches rfl)) (by omega) fun b hb => ⟨_, _, fun _ h => h, bd_name (lq rfl), ev_fld (ev_var rfl).s B.cl B.empty rfl⟩).s cb_anyF) S.cl S.dead (by decide) (by decide) fun d e => ?_
      subst e
      exact ⟨_, _, _, rfl, hP _ ⟨bs, hb, rfl⟩⟩
end JQ

-- part Tc
set_option Elab.async false
set_option linter.all false
set_option maxRecDepth 100000
set_option maxHeartbeats 2000000
/-! What the next one can be. -/
namespace JQ
open PySem PySem.Spec PyProof.Rows L2
def Nxt (bs : List Br) (pre : Row) (y : Int) : Prop := ∀ b ∈ bs, pre.length ∈ b.ps → (b.A (sel b.ps pre ++ [y])).isSome = true
structure okBs (bs : List Br) : Prop where
  few : bs.length ≤ 3
  ok : ∀ b ∈ bs, okB b
abbrev NxX := (Nat × List Br) × Row
def R_Search_next_ones (CB CT CS : Addr) : List DV → (DV → Prop) → Prop := mkR (fun x : NxX => okBs x.1.2 ∧ x.2.length ≤ 1000 ∧ ∃ b ∈ x.1.2, x.2.length ∈ b.ps) (fun x => [oSearch CB CT CS x.1.1 x.1.2, .p (dRow x.2)])
  fun x d => ∃ cs : List Int, (cs.length ≤ 10 ∧ ∀ y, y ∈ cs ↔ Nxt x.1.2 x.2 y) ∧ d = .p (dRow cs)
theorem ch_key {bs : List Br} {pre : Row} {n : Nat} {o : List DV} (h : LcR (fun i b => ∃ b' : Br, bs[i]? = some b' ∧ b = decide (pre.length ∈ b'.ps)) (fun i d => ∃ (b' : Br) (ys : List Int), bs[i]? = some b' ∧ isCh b' pre ys ∧ d = .p (dRow ys)) n o) :
    ∃ rows : List (List Int), o = rows.map (fun r => .p (dRow r)) ∧ rows.length ≤ n ∧ (∀ r ∈ rows, upw r ∧ ∀ x ∈ r, 0 ≤ x ∧ x < 10) ∧ (∀ y, Com rows y ↔ ∀ (i : Nat) b, i < n → bs[i]? = some b → pre.length ∈ b.ps → (b.A (sel b.ps pre ++ [y])).isSome = true) ∧ ((∃ (i : Nat) (b : Br), i < n ∧ bs[i]? = some b ∧ pre.length ∈ b.ps) → 0 < rows.length) := by
  induction h with
  | zero => exact ⟨[], rfl, Nat.le_refl _, fun r h => (nomatch h), fun y => ⟨fun _ i b h => absurd h (Nat.not_lt_zero _), fun _ r h => (nomatch h)⟩, fun ⟨i, b, h, _⟩ => absurd h (Nat.not_lt_zero _)⟩
  | @no j out _ pb ih =>
    obtain ⟨rows, e, l, g1, g2, g3⟩ := ih
    obtain ⟨b0, hb0, hd⟩ := pb
    have hd := of_decide_eq_false hd.symm
    refine ⟨rows, e, Nat.le_succ_of_le l, g1, fun y => (g2 y).trans ⟨fun h i b hi hb hm => ?_, fun h i b hi hb hm => h i b (Nat.lt_succ_of_lt hi) hb hm⟩, fun ⟨i, b, hi, hb, hm⟩ => g3 ?_⟩
    · rcases Nat.lt_or_ge i j with z | z
      · exact h i b z hb hm
      · have : i = j := by omega
        subst this
        rw [hb0] at hb; cases hb; exact absurd hm hd
    · rcases Nat.lt_or_ge i j with z | z
      · exact ⟨i, b, z, hb, hm⟩
      · have : i = j := by omega
        subst this
        rw [hb0] at hb; cases hb; exact absurd hm hd
  | @yes j out d _ pb pe ih =>
    obtain ⟨rows, e, l, g1, g2, g3⟩ := ih
    obtain ⟨b0, hb0, hd⟩ := pb
    have hd := of_decide_eq_true hd.symm
    obtain ⟨b1, ys, h1, ⟨h2, h3, h4⟩, h5⟩ := pe
    rw [hb0] at h1
    cases h1
    refine ⟨rows ++ [ys], by rw [e, h5, List.map_append]; rfl, by rw [List.length_append]; exact Nat.succ_le_succ l, fun r hr => ?_, fun y => ?_, fun _ => by rw [List.length_append]; exact Nat.succ_pos _⟩
    · rcases List.mem_append.mp hr with z | z
      · exact g1 r z
      · rw [List.mem_singleton.mp z]; exact ⟨h2, h3⟩
    · have : Com (rows ++ [ys]) y ↔ Com rows y ∧ y ∈ ys := ⟨fun h => ⟨fun r hr => h r (List.mem_append.mpr (.inl hr)), h ys (List.mem_append.mpr (.inr (List.mem_singleton.mpr rfl)))⟩, fun ⟨h, h'⟩ r hr => (List.mem_append.mp hr).elim (h r) fun z => List.mem_singleton.mp z ▸ h'⟩
      rw [this, g2, h4]
      constructor
      · rintro ⟨q1, q2⟩ i b hi hb hm
        rcases Nat.lt_or_ge i j with z | z
        · exact q1 i b z hb hm
        · have : i = j := by omega
          subst this
          rw [hb0] at hb; cases hb; exact q2
      · intro q
        exact ⟨fun i b hi hb hm => q i b (Nat.lt_succ_of_lt hi) hb hm, q j b0 (Nat.lt_succ_self _) hb0 hd⟩
theorem et_inPs {c : Cf} {G : Gx} {ρ : Rho} {tx tl : TE} {k : Nat} {ps : List Nat} (h1 : Es c G tx ρ (.int (k : Int))) (h2 : Es c G tl ρ (.list (ps.map fun k : Nat => .int (k : Int)))) : Et c G (tTest (tOp (rInX c.K) tx tl)) ρ (decide (k ∈ ps)) := by
  have e : (ps.map fun k : Nat => PyData.int (k : Int)) = (ps.map fun k : Nat => (k : Int)).map .int := by rw [List.map_map]; rfl
  rw [e] at h2
  refine Et.is (et_test (ed_op h1 h2 (od_inL (int_fine _) (enc_int.pls _))).s) ?_
  rw [enc_int.any, decide_eq_decide]
  constructor
  · intro h
    obtain ⟨j, hj, e⟩ := List.mem_map.mp h
    have : j = k := by omega
    exact this ▸ hj
  · intro h; exact List.mem_map.mpr ⟨k, h, rfl⟩
theorem rn_Search_next_ones {c : Cf} {G : Gx} {CB CT CS : Addr} (S : SeK c.K CS) (B : BrK c.K CB) {n : Nat} {bs : List Br} {pre : Row} (h : okBs bs) (hl : pre.length ≤ 1000) (hne : ∃ b ∈ bs, pre.length ∈ b.ps) :
    Run c G (t_Search_next_ones c CB (spR c (R_Branch_choices CB CT)) R_common) (args 4 [oSearch CB CT CS n bs, .p (dRow pre)]) (fun o => ∃ d, (∃ cs : List Int, (cs.length ≤ 10 ∧ ∀ y, y ∈ cs ↔ Nxt bs pre y) ∧ d = .p (dRow cs)) ∧ o = .rt d) := by
  have hf := h.few
  refine run_seq (run_set (d := .int (pre.length : Int)) (ed_cb1 (ev_var rfl).s cb_lenTE) (lq rfl) ?_)
  refine run_ret (P := fun d => ∃ cs : List Int, (cs.length ≤ 10 ∧ ∀ y, y ∈ cs ↔ Nxt bs pre y) ∧ d = .p (dRow cs)) (ev_call (eva_cons (evn_lcp (ds := bs.map (Br.obj CB CT)) (PB := fun i b => ∃ b' : Br, bs[i]? = some b' ∧ b = decide (pre.length ∈ b'.ps)) (PE := fun i d => ∃ (b' : Br) (ys : List Int), bs[i]? = some b' ∧ isCh b' pre ys ∧ d = .p (dRow ys)) (src_any (ev_fld (ev_var rfl).s S.cl S.branches rfl)) (by rw [List.length_map]; omega) (fun i d hd => ?_) (fun i d ⟨_, ys, _, _, e⟩ => ⟨_, e⟩)).e eva_nil) fun as ⟨d, ds, e, ⟨out, lr, e2⟩, e3⟩ => ?_) fun d h => ⟨d, h, rfl⟩
  · rw [List.getElem?_map] at hd
    cases hb : bs[i]? with
    | none => rw [hb] at hd; cases hd
    | some b =>
      rw [hb] at hd
      cases hd
      refine ⟨[3], _, fun _ h => h, bd_name (lq rfl), fun m0 M H σ E Q q => ?_, fun hm => ?_⟩
      · exact et_inPs (es_var rfl) (ev_fld (ns := ["places", "empty", "trie"]) (ds := [.p (.list (b.ps.map fun k : Nat => .int (k : Int))), .p (.bool b.e), oTrie CT b.A b.n b.dd]) (ev_var rfl).s B.cl B.places rfl).s m0 M H σ E Q fun v H' f j e => q v H' f j ⟨b, hb, e⟩
      · exact ev_meth (PA := (· = [.p (dRow pre)])) (ev_var rfl) (by decide) (eva_cons1 (ev_var rfl) eva_nil) fun as e => by subst e; exact ⟨(b, pre), ⟨h.ok b (List.mem_of_getElem? hb), hl⟩, rfl, fun d ⟨ys, h1, h2⟩ => ⟨b, ys, hb, h1, h2⟩⟩
  · subst e e2 e3
    rw [List.length_map] at lr
    obtain ⟨rows, e1, l, g1, g2, g3⟩ := ch_key lr
    have e4 : out = rows.map dRow := by
      refine (List.map_inj_right (f := DV.p) fun a b e => by cases e; rfl).mp ?_
      rw [e1, List.map_map]; rfl
    refine ⟨rows, ⟨g3 ?_, by omega, fun r hr => (g1 r hr).1, fun r hr => (g1 r hr).2⟩, by rw [e4], fun d ⟨cs, c1, c2, c3⟩ => ⟨cs, ⟨c1, fun y => ?_⟩, c3⟩⟩
    · obtain ⟨b, hb, hm⟩ := hne
      obtain ⟨i, hi⟩ := List.getElem?_of_mem hb
      exact ⟨i, b, (List.getElem?_eq_some_iff.mp hi).1, hi, hm⟩
    · rw [c2, g2]
      constructor
      · intro q b hb hm
        obtain ⟨i, hi⟩ := List.getElem?_of_mem hb
        exact q i b (List.getElem?_eq_some_iff.mp hi).1 hi hm
      · intro q i b _ hb hm
        exact q b (List.mem_of_getElem? hb) hm
end JQ

-- part Td
set_option Elab.async false
set_option linter.all false
set_option maxRecDepth 100000
set_option maxHeartbeats 2000000
/-! Levels. -/
namespace JQ
open PySem PySem.Spec PyProof.Rows L2
section
variable {c : Cf} {G : Gx} {ρ : Rho} {tl : TE}
theorem run_forTP {g : TG} {tb : TS} {γ : Type} {q : γ → Prop} {l : γ → List PyData} {Φ : Out → Prop} (js : List Nat) (I : γ → Nat → Rho → Prop) (h : Ev c G tl ρ (fun d => ∃ x, q x ∧ d = .p (.tuple (l x)))) (h0 : ∀ x, q x → I x 0 ρ)
    (hs : ∀ x, q x → ∀ i d ρ', (l x)[i]? = some d → I x i ρ' → ∃ ks ρ1, Bd c G ks g (.p d) ρ' ρ1 ∧ Run c G tb ρ1 (turnR js (I x (i + 1)) Φ)) (hd : ∀ x, q x → ∀ ρ', I x (l x).length ρ' → Φ (.nx ρ')) : Run c G (tFor (iTup c.K tl) g tb) ρ Φ := fun m0 H0 M H σ D E B L =>
  h m0 M H σ E _ fun v H1 d f j r ⟨w, hw, e⟩ => by
    subst e
    have E1 := E.fx f j
    have B1 := B.fxx f
    have r := rv_p r
    cases r with
    | @tup a vs _ ha hv =>
      have len := dpa_len hv
      refine ⟨a, rfl, ⟨vs, same_t hid_same ha⟩, for_tup (xs := vs) (fun i σ' H' => endP c G m0 (lb m0 M H1) (I w i) σ' H') ⟨M, ρ, E1, lb_bs, h0 w hw⟩ (fun i σ' H' _ ⟨M2, ρ2, e2, b2, _⟩ => same_t hid_same (same_t (lb_same (c := c) E1.k.gm E1.sub b2) ha)) (fun i x σ' H' hx ⟨M2, ρ2, e2, b2, p⟩ => ?_) fun σ' H' ⟨M2, ρ2, e2, b2, p⟩ => ?_⟩
      · obtain ⟨d, q1, q2⟩ := dpa_get' hv hx
        obtain ⟨_, ρ1, b, k⟩ := hs w hw i d ρ2 q1 p
        exact b m0 M2 H' σ' x e2 (.p (dp_mono (lb_same (c := c) E1.k.gm E1.sub b2) q2)) _ fun σ2 e3 _ => k m0 (lb m0 M H1) M2 H' σ2 _ e3 b2 (le_turn E.gm B1 L fun _ _ z => z)
      · exact L.nx _ _ ⟨M2, ρ2, e2, lb_back E.gm B1 b2, hd w hw _ (by rw [← len]; exact p)⟩
end
theorem rn_Search_first_level {c : Cf} {G : Gx} {CB CT CS : Addr} (S : SeK c.K CS) {n : Nat} {bs : List Br} : Run c G (t_Search_first_level c) (args 1 [oSearch CB CT CS n bs]) (fun o => o = .rt (.p (.list ((if bs.any Br.e = true then [] else [[]] : List Row).map dRow)))) := by
  refine run_ret (P := (· = .p (.list ((if bs.any Br.e = true then [] else [[]] : List Row).map dRow)))) ?_ fun d e => by rw [e]
  refine ev_if (b := bs.any Br.e) (et_B (ev_fld (ev_var rfl).s S.cl S.dead rfl).s) (fun h => ?_) fun h => ?_
  · rw [h, if_pos rfl]; exact (en_lst ea_nil).e
  · rw [h, if_neg Bool.false_ne_true]; exact (en_lst (ea_cons (ed_tup ea_nil) ea_nil)).e
/-- the next level -/
def Deep (bs : List Br) (L L' : List Row) : Prop := L'.length ≤ 10 * L.length ∧ ∀ r, r ∈ L' ↔ ∃ pre y, pre ∈ L ∧ Nxt bs pre y ∧ r = pre ++ [y]
abbrev DeX := (Nat × List Br) × (Nat × List Row)
def R_Search_deeper (CB CT CS : Addr) : List DV → (DV → Prop) → Prop := mkR (fun x : DeX => okBs x.1.2 ∧ (∃ b ∈ x.1.2, x.2.1 ∈ b.ps) ∧ x.2.1 ≤ 1000 ∧ (∀ r ∈ x.2.2, r.length = x.2.1) ∧ x.2.2.length ≤ 10000) (fun x => [oSearch CB CT CS x.1.1 x.1.2, .p (.list (x.2.2.map dRow))])
  fun x d => ∃ L' : List Row, Deep x.1.2 x.2.2 L' ∧ d = .p (.list (L'.map dRow))
theorem rn_Search_deeper {c : Cf} {G : Gx} {CB CT CS : Addr} {n k : Nat} {bs : List Br} {L : List Row} (h : okBs bs) (hk : ∃ b ∈ bs, k ∈ b.ps) (k1 : k ≤ 1000) (hL : ∀ r ∈ L, r.length = k) (hl : L.length ≤ 10000) :
    Run c G (t_Search_deeper c CS (spR c (R_Search_next_ones CB CT CS))) (args 5 [oSearch CB CT CS n bs, .p (.list (L.map dRow))]) (fun o => ∃ d, (∃ L' : List Row, Deep bs L L' ∧ d = .p (.list (L'.map dRow))) ∧ o = .rt d) := by
  let B : Slot → Slot → Slot → Rho := fun s2 s3 s4 => [.fz (oSearch CB CT CS n bs), .fz (.p (.list (L.map dRow))), s2, s3, s4]
  refine run_seq (run_own (en_lst ea_nil) (lq rfl) ?_)
  refine run_seq (run_forLE (l := L) (e := dRow) [3, 4] (fun i ρ' => ∃ N : List Row, Deep bs (L.take i) N ∧ ρ' = B (.ow (.p (.list (N.map dRow)))) .no .no) (ed_var rfl) ⟨[], ⟨Nat.zero_le _, fun r => ⟨fun h => (nomatch h), fun ⟨_, _, h, _⟩ => by simp at h⟩⟩, rfl⟩ (fun i pre ρ' hi ⟨N, hN, e⟩ => ?_) fun ρ' ⟨N, hN, e⟩ => ?_)
  · subst e
    have il := (List.getElem?_eq_some_iff.mp hi).1
    have hpm := List.mem_of_getElem? hi
    have hpl := hL pre hpm
    have tl : (L.take i).length = i := by rw [List.length_take]; omega
    have hNl := hN.1
    rw [tl] at hNl
    refine ⟨_, _, bd_name (lq rfl), run_forTP (γ := List Int) (q := fun cs => cs.length ≤ 10 ∧ ∀ y, y ∈ cs ↔ Nxt bs pre y) (l := fun cs => cs.map .int) [4] (fun cs j ρ' => ρ' = B (.ow (.p (.list ((N ++ (cs.take j).map fun y => pre ++ [y]).map dRow)))) (.fz (.p (dRow pre))) .no)
      (ev_meth (PA := (· = [.p (dRow pre)])) (ev_var rfl) (by decide) (eva_cons1 (ev_var rfl) eva_nil) fun as e => by subst e; exact ⟨((n, bs), pre), ⟨h, by show pre.length ≤ 1000; omega, by show ∃ b ∈ bs, pre.length ∈ b.ps; rw [hpl]; exact hk⟩, rfl, fun d h => h⟩) (fun cs _ => by rw [List.take_zero, List.map_nil, List.append_nil]; rfl) (fun cs hc j d ρ' hj e => ?_) fun cs hc ρ' e => ?_⟩
    · subst e
      rw [List.getElem?_map] at hj
      cases hy : cs[j]? with
      | none => rw [hy] at hj; cases hj
      | some y =>
        rw [hy] at hj
        cases hj
        have jl := (List.getElem?_eq_some_iff.mp hy).1
        have hc10 := hc.1
        refine ⟨_, _, bd_name (lq rfl), run_app (d := dRow (pre ++ [y])) rfl ?_ (by
          rw [List.length_map, List.length_append, List.length_map, List.length_take, sizeLine_eq]
          omega) ?_⟩
        · exact Ed.is (ed_op (es_var rfl) (ed_tup (ea_cons (ed_var rfl) ea_nil)).s (od_catT (ds := pre.map .int) (es := [.int y]) (by rw [List.length_map, sizeLine_eq]; show _ + 1 ≤ _; omega))) (by unfold dRow; rw [List.map_append]; rfl)
        · show B _ _ _ = _
          have e : (N ++ (cs.take j).map fun y => pre ++ [y]).map dRow ++ [dRow (pre ++ [y])] = (N ++ (cs.take (j + 1)).map fun y => pre ++ [y]).map dRow := by rw [take_snoc hy]; simp
          rw [← e]
    · subst e
      rw [List.length_map, List.take_length]
      refine ⟨N ++ cs.map fun y => pre ++ [y], ⟨?_, fun r => ?_⟩, rfl⟩
      · have := hc.1
        rw [List.length_append, List.length_map, List.length_take]
        omega
      · rw [List.mem_append, hN.2, take_snoc hi]
        constructor
        · rintro (⟨p, y, h1, h2, h3⟩ | h)
          · exact ⟨p, y, List.mem_append.mpr (.inl h1), h2, h3⟩
          · obtain ⟨y, h1, h2⟩ := List.mem_map.mp h
            exact ⟨pre, y, List.mem_append.mpr (.inr (List.mem_singleton.mpr rfl)), (hc.2 y).mp h1, h2.symm⟩
        · rintro ⟨p, y, h1, h2, h3⟩
          rcases List.mem_append.mp h1 with z | z
          · exact .inl ⟨p, y, z, h2, h3⟩
          · have := List.mem_singleton.mp z
            subst this
            exact .inr (List.mem_map.mpr ⟨y, (hc.2 y).mpr h2, h3.symm⟩)
  · subst e
    rw [List.take_length] at hN
    exact run_retO rfl ⟨_, ⟨N, hN, rfl⟩, rfl⟩
end JQ

-- part Te
set_option Elab.async false
set_option linter.all false
set_option maxRecDepth 100000
set_option maxHeartbeats 2000000
/-! The join, in plain words. -/
namespace JQ
open PySem PySem.Spec PyProof.Rows L2
def Bears (b : Br) (r : Row) : Prop := (b.A (sel b.ps r)).isSome = true
def LevOK (bs : List Br) (k : Nat) (L : List Row) : Prop := ∀ r, r ∈ L ↔ r.length = k ∧ ∀ b ∈ bs, Bears b r
theorem filter_lt_succ {n k : Nat} {f : Nat → Bool} : (((List.range n).filter f).filter fun j => decide (j < k + 1)) = (((List.range n).filter f).filter fun j => decide (j < k)) ++ (if k ∈ (List.range n).filter f then [k] else []) := by
  induction n with
  | zero => simp
  | succ n ih =>
    rw [List.range_succ, List.filter_append, List.filter_append, List.filter_append, ih]
    by_cases hf : f n = true
    · rcases Nat.lt_trichotomy n k with z | z | z
      · have h1 : ¬ k ∈ (List.range n).filter f := fun h => by have := List.mem_range.mp (List.mem_filter.mp h).1; omega
        have h2 : ¬ k ∈ (List.range n).filter f ++ [n].filter f := fun h => by
          rcases List.mem_append.mp h with w | w
          · exact h1 w
          · have := List.mem_singleton.mp (List.mem_filter.mp w).1; omega
        rw [if_neg h1, if_neg h2]
        simp [hf, z, Nat.lt_succ_of_lt z]
      · subst z
        have h1 : ¬ n ∈ (List.range n).filter f := fun h => by have := List.mem_range.mp (List.mem_filter.mp h).1; omega
        have h2 : n ∈ (List.range n).filter f ++ [n].filter f := List.mem_append.mpr (.inr (List.mem_filter.mpr ⟨List.mem_singleton.mpr rfl, hf⟩))
        rw [if_neg h1, if_pos h2]
        simp [hf]
      · have e : (k ∈ (List.range n).filter f ++ [n].filter f) ↔ k ∈ (List.range n).filter f := by
          rw [List.mem_append]
          refine ⟨fun h => h.elim id fun w => ?_, .inl⟩
          have := List.mem_singleton.mp (List.mem_filter.mp w).1; omega
        simp only [e]
        have a1 : ¬ n < k := by omega
        have a2 : ¬ n < k + 1 := by omega
        simp [hf, a1, a2]
    · have hf : f n = false := by simpa using hf
      simp [hf]
theorem sel_snoc {a : Atom} {os : List Str} {pre : Row} {y : Int} : sel (placesOf a os) (pre ++ [y]) = sel (placesOf a os) pre ++ (if pre.length ∈ placesOf a os then [y] else []) := by
  unfold sel
  rw [List.length_append]
  show (List.map _ ((placesOf a os).filter fun j => decide (j < pre.length + 1))) = _
  rw [show (placesOf a os).filter (fun j => decide (j < pre.length + 1)) = _ from filter_lt_succ, List.map_append]
  congr 1
  · refine List.map_congr_left fun k hk => ?_
    have := of_decide_eq_true (List.mem_filter.mp hk).2
    rw [List.getD_eq_getElem?_getD, List.getD_eq_getElem?_getD, List.getElem?_append_left this]
  · show List.map _ (if pre.length ∈ placesOf a os then _ else _) = _
    split
    · simp
    · rfl
end JQ

-- part Tf
set_option Elab.async false
set_option linter.all false
set_option maxRecDepth 100000
set_option maxHeartbeats 2000000
/-! The join, in plain words (2). -/
namespace JQ
open PySem PySem.Spec PyProof.Rows L2
structure OkJ (C : Cat) (p : Pat) (bs : List Br) : Prop where
  g : Good (C, p)
  b : areBr C (varsOf p) p.2 bs
theorem OkJ.at_ {C : Cat} {p : Pat} {bs : List Br} (h : OkJ C p bs) {b : Br} (hb : b ∈ bs) : ∃ a ∈ p.2, isBr C (varsOf p) a b := by
  obtain ⟨i, hi⟩ := List.getElem?_of_mem hb
  have il := (List.getElem?_eq_some_iff.mp hi).1
  rw [h.b.1] at il
  obtain ⟨b', h1, h2⟩ := h.b.2 i _ (List.getElem?_eq_getElem il)
  rw [hi] at h1
  cases h1
  exact ⟨_, List.getElem_mem il, h2⟩
theorem OkJ.br {C : Cat} {p : Pat} {bs : List Br} (h : OkJ C p bs) {a : Atom} (ha : a ∈ p.2) : ∃ b ∈ bs, isBr C (varsOf p) a b := by
  obtain ⟨i, hi⟩ := List.getElem?_of_mem ha
  obtain ⟨b, h1, h2⟩ := h.b.2 i a hi
  exact ⟨b, List.mem_of_getElem? h1, h2⟩
theorem OkJ.okBs {C : Cat} {p : Pat} {bs : List Br} (h : OkJ C p bs) : okBs bs := ⟨h.b.1 ▸ h.g.2.at_.few, fun b hb => by
  obtain ⟨a, ha, e1, e2, t⟩ := h.at_ hb
  refine ⟨t.clo, t.root, ?_⟩
  rw [e1]
  exact Nat.le_trans (List.length_filter_le _ _) (by rw [List.length_range]; exact h.g.2.few)⟩
theorem OkJ.has {C : Cat} {p : Pat} {bs : List Br} (h : OkJ C p bs) {k : Nat} (hk : k < (varsOf p).length) : ∃ b ∈ bs, k ∈ b.ps := by
  obtain ⟨a, ha, hv⟩ := varsOf_mem.mp (memD (d := default) hk)
  obtain ⟨b, hb, e1, _⟩ := h.br ha
  exact ⟨b, hb, by rw [e1]; exact List.mem_filter.mpr ⟨List.mem_range.mpr hk, decide_eq_true hv⟩⟩
theorem OkJ.step {C : Cat} {p : Pat} {bs : List Br} (h : OkJ C p bs) {k : Nat} {L L' : List Row} (hL : LevOK bs k L) (hd : Deep bs L L') : LevOK bs (k + 1) L' := fun r => by
  have bear : ∀ (pre : Row) (y : Int) b, b ∈ bs → (Bears b (pre ++ [y]) ↔ if pre.length ∈ b.ps then (b.A (sel b.ps pre ++ [y])).isSome = true else Bears b pre) := fun pre y b hb => by
    obtain ⟨a, ha, e1, _⟩ := h.at_ hb
    unfold Bears
    rw [e1, sel_snoc]
    split
    · exact Iff.rfl
    · rw [List.append_nil]
  rw [hd.2]
  constructor
  · rintro ⟨pre, y, h1, h2, rfl⟩
    obtain ⟨g1, g2⟩ := (hL pre).mp h1
    refine ⟨by rw [List.length_append, g1]; rfl, fun b hb => (bear pre y b hb).mpr ?_⟩
    split
    · exact h2 b hb (by assumption)
    · exact g2 b hb
  · rintro ⟨h1, h2⟩
    have hne : r ≠ [] := fun e => by subst e; simp at h1
    have er : r = r.dropLast ++ [r.getLast hne] := (List.dropLast_concat_getLast hne).symm
    refine ⟨r.dropLast, r.getLast hne, (hL _).mpr ⟨by rw [List.length_dropLast, h1]; rfl, fun b hb => ?_⟩, fun b hb hm => ?_, er⟩
    · have := h2 b hb
      rw [er] at this
      have := (bear _ _ b hb).mp this
      split at this
      · exact (h.okBs.ok b hb).clo _ _ this
      · exact this
    · have := h2 b hb
      rw [er] at this
      have := (bear _ _ b hb).mp this
      rw [if_pos hm] at this
      exact this
end JQ

-- part Tg
set_option Elab.async false
set_option linter.all false
set_option maxRecDepth 100000
set_option maxHeartbeats 2000000
/-! The join, in plain words (3). -/
namespace JQ
open PySem PySem.Spec PyProof.Rows L2
def theta (os : List Str) (r : Row) (v : Str) : Int := r.getD (fstAt os v) 0
theorem fst_nd {os : List Str} (h : os.Nodup) {k : Nat} (hk : k < os.length) : fstAt os (os.getD k default) = k := by
  have m := memD (d := default) hk
  have g := fst_get m
  rw [← atD (d := default) hk] at g
  exact (List.getElem?_inj (fst_lt m) h).mp g
theorem map_getD {α : Type} {l : List α} {f : α → Int} {k : Nat} {d : α} (h : k < l.length) : (l.map f).getD k 0 = f (l.getD k d) := by
  rw [List.getD_eq_getElem?_getD, List.getElem?_map, atD (d := d) h]; rfl
theorem bears_iff {C : Cat} {p : Pat} {bs : List Br} (h : OkJ C p bs) {a : Atom} (ha : a ∈ p.2) {b : Br} (hb : isBr C (varsOf p) a b) {r : Row} (hr : r.length = (varsOf p).length) : Bears b r ↔ a.2.map (theta (varsOf p) r) ∈ tbl C a.1 := by
  have ok : okBr C a (varsOf p) := okSe.br ⟨h.g, rfl⟩ ha
  have tr := ok.tr
  obtain ⟨e1, _, t⟩ := hb
  have hps : ∀ k ∈ placesOf a (varsOf p), k < (varsOf p).length ∧ (varsOf p).getD k default ∈ a.2 := fun k hk => ⟨List.mem_range.mp (List.mem_filter.mp hk).1, of_decide_eq_true (List.mem_filter.mp hk).2⟩
  have es : sel b.ps r = (placesOf a (varsOf p)).map fun k => r.getD k 0 := by
    unfold sel
    rw [e1, List.filter_eq_self.mpr fun k hk => decide_eq_true (by rw [hr]; exact (hps k hk).1)]
  have pl : (posOf a (varsOf p)).length = (placesOf a (varsOf p)).length := by unfold posOf; rw [List.length_map]
  have hrow : ∀ {row : Row}, row ∈ tbl C a.1 → row.length = a.2.length := fun hm => tbl_row ok.g h.g.2.at_ ha hm
  unfold Bears
  rw [t.dom, es]
  constructor
  · rintro (z | ⟨q, hq, hpre⟩)
    · have := tr.p1
      have z := congrArg List.length z
      rw [List.length_map] at z
      simp at z
      rw [pl, z] at this; cases this
    · obtain ⟨row, hrow', rfl⟩ := List.mem_map.mp hq
      have he := hpre.eq_of_length (by unfold pathOf; rw [List.length_map, List.length_map, pl])
      obtain ⟨g1, g2⟩ := List.mem_filter.mp hrow'
      have : a.2.map (theta (varsOf p) r) = row := by
        refine List.ext_getElem? fun i => ?_
        rcases Nat.lt_or_ge i a.2.length with z | z
        · have hv := memD (d := default) z
          have hvo := ok.sub _ hv
          rw [List.getElem?_map, atD (d := default) z, atD (d := 0) (by rw [hrow g1]; exact z)]
          refine congrArg some ?_
          have hk := fst_lt hvo
          have hgk : (varsOf p).getD (fstAt (varsOf p) (a.2.getD i default)) default = a.2.getD i default := by
            rw [List.getD_eq_getElem?_getD, fst_get hvo]; rfl
          have hkp : fstAt (varsOf p) (a.2.getD i default) ∈ placesOf a (varsOf p) := List.mem_filter.mpr ⟨List.mem_range.mpr hk, decide_eq_true (by rw [hgk]; exact hv)⟩
          have hh : ∀ k ∈ placesOf a (varsOf p), r.getD k 0 = row.getD (fstAt a.2 ((varsOf p).getD k default)) 0 := by
            have he2 : (placesOf a (varsOf p)).map (fun k => r.getD k 0) = (placesOf a (varsOf p)).map fun k => row.getD (fstAt a.2 ((varsOf p).getD k default)) 0 := by
              rw [he]; unfold pathOf posOf; rw [List.map_map]; rfl
            exact List.map_inj_left.mp he2
          have q1 := hh _ hkp
          rw [hgk] at q1
          have q2 := of_decide_eq_true (List.all_eq_true.mp g2 i (List.mem_range.mpr z))
          show r.getD _ 0 = _
          rw [q1, q2]
        · rw [List.getElem?_eq_none (by rw [List.length_map]; exact z), List.getElem?_eq_none (by rw [hrow g1]; exact z)]
      rw [this]; exact g1
  · intro hm
    refine .inr ⟨_, List.mem_map_of_mem (List.mem_filter.mpr ⟨hm, ?_⟩), ?_⟩
    · refine List.all_eq_true.mpr fun k hk => decide_eq_true ?_
      have hk := List.mem_range.mp hk
      have hv := memD (d := default) hk
      rw [map_getD (d := default) hk, map_getD (d := default) (fst_lt hv)]
      congr 1
      rw [List.getD_eq_getElem?_getD (i := fstAt _ _), fst_get hv]; rfl
    · have : (placesOf a (varsOf p)).map (fun k => r.getD k 0) = pathOf (posOf a (varsOf p)) (a.2.map (theta (varsOf p) r)) := by
        unfold pathOf posOf
        rw [List.map_map]
        refine List.map_congr_left fun k hk => ?_
        obtain ⟨h1, h2⟩ := hps k hk
        show _ = (a.2.map _).getD (fstAt a.2 ((varsOf p).getD k default)) 0
        rw [map_getD (d := default) (fst_lt h2), List.getD_eq_getElem?_getD (i := fstAt _ _), fst_get h2]
        show _ = r.getD (fstAt (varsOf p) ((varsOf p).getD k default)) 0
        rw [fst_nd ok.nd h1]
      rw [this]; exact List.prefix_refl _
end JQ

-- part Th
set_option Elab.async false
set_option linter.all false
set_option maxRecDepth 100000
set_option maxHeartbeats 2000000
/-! The join: the walk. -/
namespace JQ
open PySem PySem.Spec PyProof.Rows L2
theorem OkJ.live {C : Cat} {p : Pat} {bs : List Br} (h : OkJ C p bs) {θ : Str → Int} (hf : Fits C p θ) : bs.any Br.e = false := Bool.eq_false_iff.mpr fun z => by
  obtain ⟨b, hb, e⟩ := List.any_eq_true.mp z
  obtain ⟨a, ha, _, e2, _⟩ := h.at_ hb
  rw [e2] at e
  have e := of_decide_eq_true e
  have hm : a.2.map θ ∈ rowsOf C a := List.mem_filter.mpr ⟨hf a ha, List.all_eq_true.mpr fun k hk => decide_eq_true (by
    have hk := List.mem_range.mp hk
    have hv := memD (d := default) hk
    rw [map_getD (d := default) hk, map_getD (d := default) (fst_lt hv)]
    congr 1
    rw [List.getD_eq_getElem?_getD (i := fstAt _ _), fst_get hv]; rfl)⟩
  have := List.length_pos_of_mem hm
  omega
theorem OkJ.lev0 {C : Cat} {p : Pat} {bs : List Br} (h : OkJ C p bs) : LevOK bs 0 [[]] := fun r => by
  rw [List.mem_singleton]
  constructor
  · rintro rfl
    exact ⟨rfl, fun b hb => by
      have e : sel b.ps [] = [] := by unfold sel; simp
      show (b.A (sel b.ps [])).isSome = true
      rw [e]; exact (h.okBs.ok b hb).root⟩
  · rintro ⟨h1, _⟩
    exact List.length_eq_zero_iff.mp h1
/-- the last level: all assignments that fit -/
def LastOK (C : Cat) (p : Pat) (L : List Row) : Prop := L.length ≤ 1000 ∧ ∀ r, r ∈ L ↔ r.length = (varsOf p).length ∧ Fits C p (theta (varsOf p) r)
theorem OkJ.last {C : Cat} {p : Pat} {bs : List Br} (h : OkJ C p bs) {L : List Row} (hL : LevOK bs (varsOf p).length L) (hl : L.length ≤ 1000) : LastOK C p L := ⟨hl, fun r => (hL r).trans ⟨fun ⟨h1, h2⟩ => ⟨h1, fun a ha => by
  obtain ⟨b, hb, hi⟩ := h.br ha
  exact (bears_iff h ha hi h1).mp (h2 b hb)⟩, fun ⟨h1, h2⟩ => ⟨h1, fun b hb => by
  obtain ⟨a, ha, hi⟩ := h.at_ hb
  exact (bears_iff h ha hi h1).mpr (h2 a ha)⟩⟩⟩
def R_Search_first_level (CB CT CS : Addr) : List DV → (DV → Prop) → Prop := mkR (fun _ : Nat × List Br => True) (fun x => [oSearch CB CT CS x.1 x.2]) fun x d => d = .p (.list ((if x.2.any Br.e = true then [] else [[]] : List Row).map dRow))
def R_joined : List DV → (DV → Prop) → Prop := mkR (fun x : Cat × Pat => Good x ∧ ∃ θ, Fits x.1 x.2 θ) (fun x => [.p (dCat x.1), nPat x.2, .tN (varsOf x.2), .p (.int 20000)]) fun x d => ∃ (L : List Row) (ns : List Int), LastOK x.1 x.2 L ∧ d = .p (.tuple [.tuple (L.map dRow), .tuple (ns.map .int)])
theorem rn_joined {c : Cf} {G : Gx} {CB CT CS : Addr} {C : Cat} {p : Pat} (h : Good (C, p)) (hh : ∃ θ, Fits C p θ) :
    Run c G (t_joined c CS (spI c CS (R_Search CB CT CS)) (spR c (R_Search_first_level CB CT CS)) (spR c (R_Search_deeper CB CT CS))) (args 8 [.p (dCat C), nPat p, .tN (varsOf p), .p (.int 20000)]) (fun o => ∃ d, (∃ (L : List Row) (ns : List Int), LastOK C p L ∧ d = .p (.tuple [.tuple (L.map dRow), .tuple (ns.map .int)])) ∧ o = .rt d) := by
  have hv3 : (varsOf p).length ≤ 3 := h.2.few
  obtain ⟨θ, hθ⟩ := hh
  refine run_seq (run_asg (P := fun d => ∃ bs, areBr C (varsOf p) p.2 bs ∧ d = oSearch CB CT CS (varsOf p).length bs) (ev_make (PA := (· = [.p (dCat C), nPat p, .tN (varsOf p)])) (eva_cons1 (ev_var rfl) (eva_cons1 (ev_var rfl) (eva_cons1 (ev_var rfl) eva_nil))) fun as e => by subst e; exact ⟨((C, p), varsOf p), ⟨h, rfl⟩, rfl, fun d hd => hd⟩) (lq rfl) fun d ⟨bs, hb, e⟩ => ?_)
  subst e
  have J : OkJ C p bs := ⟨h, hb⟩
  have live := J.live hθ
  refine run_seq (run_set (d := .list (([[]] : List Row).map dRow)) (ev_meth (PA := (· = [])) (ev_var rfl) (by decide) eva_nil fun as e => by subst e; exact ⟨((varsOf p).length, bs), trivial, rfl, fun d hd => by rw [hd, live]; rfl⟩) (lq rfl) ?_)
  refine run_seq (run_own (en_lst ea_nil) (lq rfl) ?_)
  let B : List Row → List Int → Rho := fun L ns => [.fz (.p (dCat C)), .fz (nPat p), .fz (.tN (varsOf p)), .fz (.p (.int 20000)), .fz (oSearch CB CT CS (varsOf p).length bs), .fz (.p (.list (L.map dRow))), .ow (.p (.list (ns.map .int))), .no]
  refine run_seq (run_forR (n := (varsOf p).length) [7] (fun i ρ' => ∃ (L : List Row) (ns : List Int), LevOK bs i L ∧ L.length ≤ 10 ^ i ∧ ns.length = i ∧ ρ' = B L ns) (ed_cb1 (ed_tN (ev_var rfl)).s cb_lenTE).s (by omega) ⟨[[]], [], J.lev0, Nat.le_refl _, rfl, rfl⟩ (fun i ρ' hi ⟨L, ns, hL, hl, hn, e⟩ => ?_) fun ρ' ⟨L, ns, hL, hl, hn, e⟩ => ?_)
  · subst e
    have hl3 : L.length ≤ 100 := Nat.le_trans hl (Nat.pow_le_pow_right (by decide) (show i ≤ 2 by omega))
    refine ⟨_, _, bd_name (lq rfl), ?_⟩
    refine run_seq (run_asg (P := fun d => ∃ L' : List Row, Deep bs L L' ∧ d = .p (.list (L'.map dRow))) (ev_meth (PA := (· = [.p (.list (L.map dRow))])) (ev_var rfl) (by decide) (eva_cons1 (ev_var rfl) eva_nil) fun as e => by subst e; exact ⟨(((varsOf p).length, bs), (i, L)), ⟨J.okBs, J.has hi, by show i ≤ 1000; omega, fun r hr => ((hL r).mp hr).1, by show L.length ≤ 10000; omega⟩, rfl, fun d hd => hd⟩) (lq rfl) fun d ⟨L', hd, e⟩ => ?_)
    subst e
    have hl' := hd.1
    refine run_seq (run_if (b := false) (Et.is (et_and (et_test (ed_op (es_var rfl) ed_int.s od_gt).s) fun _ => et_test (ed_op (ed_cb1 (ed_var rfl).s cb_lenLE).s (es_var rfl) od_gt).s) ?_) (fun h => nomatch h) fun _ => run_next ?_)
    · rw [decide_eq_false (show ¬ ((20000 : Int) < (L'.length : Int)) by omega)]; exact Bool.and_false _
    refine run_app (ds := ns.map .int) (d := .int (L'.length : Int)) rfl (ed_cb1 (ed_var rfl).s cb_lenLE) (by rw [List.length_map, sizeLine_eq]; omega) ?_
    refine ⟨L', ns ++ [(L'.length : Int)], J.step hL hd, by rw [Nat.pow_succ]; omega, by rw [List.length_append, hn]; rfl, ?_⟩
    simp only [B, List.map_append]; rfl
  · subst e
    have hl3 : L.length ≤ 1000 := Nat.le_trans hl (Nat.pow_le_pow_right (by decide) hv3)
    exact run_retD (ed_tup (ea_cons (ed_cb1 (ed_var rfl).s cb_tupL) (ea_cons (ed_cb1 (evs_own rfl) cb_tupL) ea_nil))) ⟨_, ⟨L, ns, J.last hL hl3, rfl⟩, rfl⟩
end JQ

-- part Ti
set_option Elab.async false
set_option linter.all false
set_option maxRecDepth 100000
set_option maxHeartbeats 2000000
/-! Witnesses. -/
namespace JQ
open PySem PySem.Spec PyProof.Rows L2
/-- the facts, ascending, each once -/
def uniq (fs : List Fact) : List Fact := srt dFact (dd [] fs)
theorem mem_uniq {fs : List Fact} {f : Fact} : f ∈ uniq fs ↔ f ∈ fs := by
  unfold uniq
  rw [(srt_perm dFact (dd [] fs)).mem_iff, mem_dd]
  simp
theorem asc_uniq (fs : List Fact) : Asc dFact (uniq fs) := srt_asc enc_fact (nd_dd List.nodup_nil)
theorem en_sortSetO {c : Cf} {G : Gx} {ρ : Rho} {te : TE} {fs : List Fact} (h : Es c G te ρ (.list (fs.map dFact)) ∨ Es c G te ρ (.tuple (fs.map dFact))) (hl : fs.length < 63) : En c G (tCB (rSortX c) (tCons (tCB (rSetX c) (tCons te tNil)) tNil)) ρ (.list ((uniq fs).map dFact)) := by
  intro m0 M H σ E Q q
  refine evn_sortSetX h (fun d hd => ?_) (fun d hd => ?_) (by rw [List.length_map]; exact hl) (enc_fact.alls _) (sort_facts _) (fun d hd => ?_) m0 M H σ E Q fun p H' d n f j o ⟨es, g1, g2, g3, e⟩ => q p H' d n f j o ?_
  · obtain ⟨g, _, rfl⟩ := List.mem_map.mp hd
    exact ⟨_, rfl⟩
  · obtain ⟨g, _, rfl⟩ := List.mem_map.mp hd
    exact enc_fact.key g
  · obtain ⟨g, _, rfl⟩ := List.mem_map.mp hd
    exact (enc_fact.fine g).2
  · have : ∃ gs : List Fact, es = gs.map dFact ∧ ∀ g ∈ gs, g ∈ fs := by
      clear g2 g3 e
      induction es with
      | nil => exact ⟨[], rfl, fun g h => nomatch h⟩
      | cons x es ih =>
        obtain ⟨gs, e1, e2⟩ := ih fun e he => g1 e (List.mem_cons_of_mem _ he)
        obtain ⟨g, hg, ex⟩ := List.mem_map.mp (g1 x (List.mem_cons_self ..))
        exact ⟨g :: gs, by rw [e1, ← ex]; rfl, fun z hz => (List.mem_cons.mp hz).elim (fun w => w ▸ hg) (e2 z)⟩
    obtain ⟨gs, e1, e2⟩ := this
    subst e1
    rw [e]
    refine congrArg DV.p (congrArg PyData.list ?_)
    rw [map_sort]
    refine congrArg (List.map dFact) (asc_ext (srt_asc enc_fact ?_) (asc_uniq fs) fun f => ?_)
    · rw [List.map_map] at g3
      exact (List.pairwise_map.mp g3).imp fun h e => h (by rw [e])
    · rw [(srt_perm dFact gs).mem_iff, mem_uniq]
      refine ⟨e2 f, fun hf => ?_⟩
      have := g2 _ (List.mem_map_of_mem hf)
      obtain ⟨x, hx, ex⟩ := List.mem_map.mp this
      obtain ⟨g, hg, rfl⟩ := List.mem_map.mp hx
      rw [← enc_fact.nk g f ex]; exact hg
theorem en_sortSetF {c : Cf} {G : Gx} {ρ : Rho} {te : TE} {fs : List Fact} (h : Es c G te ρ (.list (fs.map dFact))) (hl : fs.length < 63) : En c G (tCB (rSortX c) (tCons (tCB (rSetX c) (tCons te tNil)) tNil)) ρ (.list ((uniq fs).map dFact)) := en_sortSetO (.inl h) hl
end JQ

-- part Tj
set_option Elab.async false
set_option linter.all false
set_option maxRecDepth 100000
set_option maxHeartbeats 4000000
/-! Witnesses: the walk. -/
namespace JQ
open PySem PySem.Spec PyProof.Rows L2
def witOf (p : Pat) (r : Row) : List Fact := uniq (factsOf p (theta (varsOf p) r))
def hit (p : Pat) (ans : Row) (r : Row) : Bool := decide (p.1.map (theta (varsOf p) r) = ans)
theorem theta_map {os : List Str} {θ : Str → Int} {v : Str} (h : v ∈ os) : theta os (os.map θ) v = θ v := by
  unfold theta
  rw [map_getD (d := default) (fst_lt h), List.getD_eq_getElem?_getD, fst_get h]; rfl
theorem isWit_of {C : Cat} {p : Pat} {ans : Row} {L : List Row} (g : Good (C, p)) (hL : LastOK C p L) : IsWit C p ans (srt dFacts (dd [] ((L.filter (hit p ans)).map (witOf p)))) := by
  have mem : ∀ w, w ∈ srt dFacts (dd [] ((L.filter (hit p ans)).map (witOf p))) ↔ ∃ r ∈ L, hit p ans r = true ∧ witOf p r = w := fun w => by
    rw [(srt_perm dFacts _).mem_iff, mem_dd]
    simp only [List.not_mem_nil, false_or, List.mem_map, List.mem_filter]
    exact ⟨fun ⟨r, ⟨h1, h2⟩, h3⟩ => ⟨r, h1, h2, h3⟩, fun ⟨r, h1, h2, h3⟩ => ⟨r, ⟨h1, h2⟩, h3⟩⟩
  refine ⟨fun w hw => ?_, fun θ hθ => ?_, ?_, fun w hw => ?_⟩
  · obtain ⟨r, h1, h2, rfl⟩ := (mem w).mp hw
    exact ⟨theta (varsOf p) r, ⟨((hL.2 r).mp h1).2, of_decide_eq_true h2⟩, fun f => mem_uniq⟩
  · have hv : ∀ a ∈ p.2, a.2.map (theta (varsOf p) ((varsOf p).map θ)) = a.2.map θ := fun a ha => List.map_congr_left fun v hva => theta_map (varsOf_mem.mpr ⟨a, ha, hva⟩)
    have hf : factsOf p (theta (varsOf p) ((varsOf p).map θ)) = factsOf p θ := by
      unfold factsOf
      exact List.map_congr_left fun a ha => by rw [hv a ha]
    refine ⟨witOf p ((varsOf p).map θ), (mem _).mpr ⟨_, (hL.2 _).mpr ⟨List.length_map .., fun a ha => by rw [hv a ha]; exact hθ.1 a ha⟩, decide_eq_true ?_, rfl⟩, fun f => ?_⟩
    · rw [← hθ.2]
      exact List.map_congr_left fun v hv => theta_map (g.2.sub v hv)
    · unfold witOf
      rw [hf]; exact mem_uniq
  · rw [(srt_perm dFacts _).length_eq]
    have h1 := len_dd (acc := ([] : List (List Fact))) (vs := (L.filter (hit p ans)).map (witOf p))
    rw [List.length_map, List.length_nil] at h1
    have h2 := List.length_filter_le (hit p ans) L
    have h3 := hL.1
    omega
  · obtain ⟨r, _, _, rfl⟩ := (mem w).mp hw
    unfold witOf uniq
    rw [(srt_perm dFact _).length_eq]
    have h1 := len_dd (acc := ([] : List Fact)) (vs := factsOf p (theta (varsOf p) r))
    have h2 : (factsOf p (theta (varsOf p) r)).length = p.2.length := by unfold factsOf; exact List.length_map ..
    rw [List.length_nil] at h1
    have h3 := g.2.at_.few
    have h4 : p.2.length ≤ 3 := h3
    omega
end JQ

-- part Tk
set_option Elab.async false
set_option linter.all false
set_option maxRecDepth 100000
set_option maxHeartbeats 4000000
/-! Witnesses: the walk (2). -/
namespace JQ
open PySem PySem.Spec PyProof.Rows L2
/-- row[order.index(v)] for v in vs -/
theorem ed_pick {c : Cf} {G : Gx} {ρ : Rho} {ta tb tx : TE} {os : List Str} {r : Row} {v : Str} (hv : v ∈ os) (hr : r.length = os.length) (h1 : Ed c G ta ρ (dRow r)) (h2 : Ev c G tb ρ (· = .tN os)) (h3 : Es c G tx ρ (.str v)) : Ed c G (tOp (rIx c.K) ta (tIdx tb tx)) ρ (.int (theta os r v)) :=
  ed_op h1.s (ed_idx h2 h3 (fst_get hv) fst_no).s (od_ixT (ds := r.map .int) (atE (atD (d := 0) (by rw [hr]; exact fst_lt hv))))
theorem rn_witnesses {c : Cf} {G : Gx} {C : Cat} {p : Pat} {ans : Row} (h : Good (C, p)) (hh : ∃ θ, Hits C p ans θ) :
    Run c G (t_witnesses c R_check_fit R_all_variables R_joined) (args 10 [.p (dCat C), nPat p, .p (dRow ans)]) (fun o => ∃ d, (∃ W, IsWit C p ans W ∧ d = .p (dWits W)) ∧ o = .rt d) := by
  have g : GCat C := h.1
  have hp2 : p.2.length ≤ 3 := h.2.at_.few
  have hp1 : p.1.length ≤ 3 := h.2.hfew
  obtain ⟨θ, hθ⟩ := hh
  refine run_seq (run_drop (P := fun _ => True) (ev_call (PA := (· = [.p (dCat C), .p (dPat p)])) (eva_cons1 (ev_var rfl) (eva_cons1 ((ev_var (d := nPat p) rfl).conv fun _ _ r => rv_nPat r) eva_nil)) fun ds e => by subst e; exact ⟨(C, p), h, rfl, fun _ _ => trivial⟩) ?_)
  refine run_seq (run_asg (P := (· = .tN (varsOf p))) (ev_call (PA := (· = [.p (dPat p)])) (eva_cons1 ((ev_var (d := nPat p) rfl).conv fun _ _ r => rv_nPat r) eva_nil) fun ds e => by subst e; exact ⟨(C, p), h, rfl, fun _ e => e⟩) (lq rfl) fun d e => ?_)
  subst e
  refine run_seq (run_asgN evn_ksnew (lq rfl) fun d e => ?_)
  subst e
  let B : List (List Fact) → Rho := fun ks => [.fz (.p (dCat C)), .fz (nPat p), .fz (.p (dRow ans)), .fz (.tN (varsOf p)), .ow (.ks (ks.map dFacts)), .no, .no, .no, .no, .no]
  let found : List Row → List (List Fact) := fun L => dd [] ((L.filter (hit p ans)).map (witOf p))
  refine run_seq (run_forTP (γ := List Row) (q := LastOK C p) (l := fun L => L.map dRow) (Φ := thenR c G _ _) [5, 6, 7, 8, 9] (fun L i ρ' => ρ' = B (found (L.take i))) ?_ (fun L hL => rfl) (fun L hL i d ρ' hi e => ?_) fun L hL ρ' e => ?_)
  · refine ev_op (P1 := fun d => ∃ (L : List Row) (ns : List Int), LastOK C p L ∧ d = .p (.tuple [.tuple (L.map dRow), .tuple (ns.map .int)])) (P2 := (· = .p (.int 0))) (ev_call (PA := (· = [.p (dCat C), nPat p, .tN (varsOf p), .p (.int 20000)])) (eva_cons1 (ev_var rfl) (eva_cons1 (ev_var rfl) (eva_cons1 (ev_var rfl) (eva_cons1 ed_int eva_nil)))) fun ds e => by subst e; exact ⟨(C, p), ⟨h, θ, hθ.1⟩, rfl, fun d hd => hd⟩).s ed_int.s fun x y ⟨L, ns, h1, e1⟩ e2 => by
      subst e1 e2
      intro M H u v k r1 r2 Q q
      exact od_ixT (c := c) (G := G) (ds := [.tuple (L.map dRow), .tuple (ns.map .int)]) (i := 0) (d := .tuple (L.map dRow)) rfl M H u v k r1 r2 Q fun z H' d f j r e => q z H' d f j r ⟨L, h1, e⟩
  · subst e
    rw [List.getElem?_map] at hi
    cases hr : L[i]? with
    | none => rw [hr] at hi; cases hi
    | some r =>
      rw [hr] at hi
      cases hi
      have hrm := List.mem_of_getElem? hr
      have hrl := ((hL.2 r).mp hrm).1
      have il := (List.getElem?_eq_some_iff.mp hr).1
      have hL3 := hL.1
      refine ⟨_, _, bd_name (lq rfl), run_if (b := hit p ans r) (Et.is (et_test (ed_op (ed_cb1 (en_lc1 p.1 (fun v => .p (.str v)) (fun v => .int (theta (varsOf p) r v)) (src_tupE p.1 .str (ev_op (P1 := (· = nPat p)) (P2 := (· = .p (.int 0))) (P := (· = .p (dVars p.1))) (ev_var rfl).s ed_int.s fun _ _ e1 e2 => by subst e1 e2; exact od_ixP rfl)) (by omega) fun v hv => ⟨_, _, fun _ h => h, bd_name (lq rfl), ed_pick (h.2.sub v hv) hrl (ed_var rfl) (ev_var rfl) (es_var rfl)⟩).s cb_tupL).s (es_var rfl) (od_eq (e := dRow ans) ?_ (enc_row.pl _))).s) ?_) (fun hb => ?_) fun hb => run_next ?_⟩
      · have := enc_row.fine (p.1.map (theta (varsOf p) r))
        unfold dRow at this
        rw [List.map_map] at this
        exact this
      · have := enc_row.eqB (p.1.map (theta (varsOf p) r)) ans
        unfold hit
        rw [← this]
        unfold dRow
        rw [List.map_map]; rfl
      · refine run_seq (run_set (d := .list ((factsOf p (theta (varsOf p) r)).map dFact)) (Ed.is (en_lc1 p.2 nAtom (fun a => dFact (a.1, a.2.map (theta (varsOf p) r))) (src_tp (ev_op (P1 := (· = nPat p)) (P2 := (· = .p (.int 1))) (P := (· = .tp (p.2.map nAtom))) (ev_var rfl).s ed_int.s fun _ _ e1 e2 => by subst e1 e2; exact od_ixP rfl)) (by omega) fun a ha => ⟨_, _, ?_, bd_tupX (bdx_cons (bd_name (lq rfl)) (bdx_cons (bd_name (lq rfl)) bdx_nil)) rfl, ed_tup (ds := [.str a.1, dRow (a.2.map (theta (varsOf p) r))]) (ea_cons (ed_var rfl) (ea_cons (Ed.is (ed_cb1 (en_lc1 a.2 (fun v => .p (.str v)) (fun v => .int (theta (varsOf p) r v)) (src_tupE a.2 .str (ed_tN (ev_var rfl))) (by have := (h.2.at_.okA g ha).2.2; omega) fun v hv => ⟨_, _, fun _ h => h, bd_name (lq rfl), ed_pick (varsOf_mem.mpr ⟨a, ha, hv⟩) hrl (ed_var rfl) (ev_var rfl) (es_var rfl)⟩).s cb_tupL) ?_) ea_nil))⟩).e ?_) (lq rfl) ?_)
        · intro k hk; exact hk
        · unfold dRow; rw [List.map_map]; rfl
        · unfold factsOf; rw [List.map_map]; rfl
        · have fl : (factsOf p (theta (varsOf p) r)).length ≤ 3 := by unfold factsOf; rw [List.length_map]; exact hp2
          have l1 := len_dd (acc := ([] : List (List Fact))) (vs := ((L.take i).filter (hit p ans)).map (witOf p))
          have l2 := List.length_filter_le (hit p ans) (L.take i)
          rw [List.length_map, List.length_nil] at l1
          rw [List.length_take] at l2
          refine run_ksput (ds := (witOf p r).map dFact) rfl ed_bool (ed_cb1 (en_sortSetF (es_var rfl) (by omega)).s cb_tupL) (enc_facts.key (witOf p r)) (fun e he => ?_) (by rw [List.length_map, sizeLine_eq]; show (dd [] _).length < _; omega) ?_
          · obtain ⟨w, _, rfl⟩ := List.mem_map.mp he
            exact enc_facts.key w
          · show _ = B _
            have ef : found (L.take (i + 1)) = add1 (found (L.take i)) (witOf p r) := by
              show dd [] _ = add1 (dd [] _) _
              rw [← dd_snoc, take_snoc hr, List.filter_append, List.map_append]
              simp [hb]
            rw [ef]
            exact congrArg (fun l => ([.fz (.p (dCat C)), .fz (nPat p), .fz (.p (dRow ans)), .fz (.tN (varsOf p)), .ow (.ks l), .no, .no, .no, .no, .no] : Rho)) (ksPut_map enc_facts (found (L.take i)) (witOf p r))
      · have ef : found (L.take (i + 1)) = found (L.take i) := by
          show dd [] _ = dd [] _
          rw [take_snoc hr, List.filter_append]
          simp [hb]
        show _ = B _
        rw [ef]; rfl
  · subst e
    rw [List.length_map, List.take_length]
    have W := isWit_of h hL (ans := ans)
    have hne : 0 < (found L).length := by
      obtain ⟨w, hw, _⟩ := W.all θ hθ
      have := List.length_pos_of_mem hw
      rw [(srt_perm dFacts _).length_eq] at this
      exact this
    have kk : ∀ e ∈ (found L).map dFacts, keyOk e = true := fun e he => by
      obtain ⟨w, _, rfl⟩ := List.mem_map.mp he
      exact enc_facts.key w
    refine run_seq (run_if (b := false) (Et.is (et_test (ed_op (ed_cb1 (evs_own rfl) (cb_lenKs kk)).s ed_int.s (od_eq (int_fine _) rfl)).s) ?_) (fun h => nomatch h) fun _ => run_next ?_)
    · rw [enc_int.eqB, List.length_map]
      exact decide_eq_false (by omega)
    refine run_ret (P := (· = .p (dWits (srt dFacts (found L))))) (Ed.is (ed_cb1 (en_cb1 (evs_own rfl) (cb_sortKs (enc_facts.alls _) (.inl (.inl fun d hd => ?_)) fun d hd => ?_)).s cb_tupL) ?_) fun d e => ⟨d, ⟨_, W, e⟩, rfl⟩
    · obtain ⟨w, hw, rfl⟩ := List.mem_map.mp hd
      obtain ⟨f, hf⟩ := W.ne h ((srt_perm dFacts _).mem_iff.mpr hw)
      cases w with
      | nil => cases hf
      | cons x w => exact ⟨_, _, rfl⟩
    · obtain ⟨w, _, rfl⟩ := List.mem_map.mp hd
      exact ⟨(enc_facts.fine w).2, enc_facts.nn w⟩
    · rw [map_sort]; rfl
end JQ

-- part Ua
set_option Elab.async false
set_option linter.all false
set_option maxRecDepth 100000
set_option maxHeartbeats 2000000
/-! The law: plain (1): a cut and what is gone. -/
namespace JQ
open PySem PySem.Spec PyProof.Rows L2
theorem gone_iff {C : Cat} {p : Pat} {ans : Row} {W : List (List Fact)} (h : IsWit C p ans W) (S : List Fact) : meets W S = true ↔ GoneP C p ans S := by
  unfold meets GoneP
  rw [List.all_eq_true]
  constructor
  · rintro hm ⟨θ, h1, h2, h3⟩
    obtain ⟨w, hw, e⟩ := h.all θ ⟨h1, h2⟩
    obtain ⟨f, hf, z⟩ := List.any_eq_true.mp (hm w hw)
    exact h3 f hf ((e f).mp (of_decide_eq_true z))
  · intro hg w hw
    obtain ⟨θ, ⟨h1, h2⟩, e⟩ := h.snd w hw
    cases z : (S.any fun f => decide (f ∈ w)) with
    | true => rfl
    | false =>
      refine absurd ⟨θ, h1, h2, fun f hf y => ?_⟩ hg
      have := List.any_eq_false.mp z f hf
      rw [decide_eq_true ((e f).mpr y)] at this
      exact this rfl
/-! ### rows of facts, in order -/
theorem lt_facts_cons (f : Fact) {a b : List Fact} (h : ltE dFacts a b) : ltE dFacts (f :: a) (f :: b) := by
  have h' : PySem.W.dataLt (.tuple (a.map dFact)) (.tuple (b.map dFact)) = true := h
  rw [PySem.W.dataLt_tuple] at h'
  show PySem.W.dataLt (.tuple (dFact f :: a.map dFact)) (.tuple (dFact f :: b.map dFact)) = true
  rw [PySem.W.dataLt_tuple, PySem.W.dataLt_all_yes (enc_fact.al f f) ((enc_fact.eq f f).mpr rfl)]
  exact h'
theorem lt_facts_first {f g : Fact} (h : ltE dFact f g) (a b : List Fact) : ltE dFacts (f :: a) (g :: b) := by
  show PySem.W.dataLt (.tuple (dFact f :: a.map dFact)) (.tuple (dFact g :: b.map dFact)) = true
  rw [PySem.W.dataLt_tuple, PySem.W.dataLt_all_no (enc_fact.al f g)]
  · exact h
  · cases z : PyData.eqv (dFact f) (dFact g) with
    | false => rfl
    | true => rw [(enc_fact.eq f g).mp z] at h; exact absurd h (lt_irr g)
theorem chs_asc : ∀ {l : List Fact} (n : Nat), Asc dFact l → (chs l n).Pairwise (ltE dFacts)
  | l, 0, _ => by rw [chs]; exact List.pairwise_singleton ..
  | [], n + 1, _ => by rw [chs]; exact .nil
  | x :: l, n + 1, h => by
    rw [chs]
    have hl := List.Pairwise.of_cons h
    refine List.pairwise_append.mpr ⟨List.pairwise_map.mpr ((chs_asc n hl).imp fun z => lt_facts_cons x z), chs_asc (n + 1) hl, fun a ha b hb => ?_⟩
    obtain ⟨a', _, rfl⟩ := List.mem_map.mp ha
    obtain ⟨s, e⟩ := chs_mem.mp hb
    cases b with
    | nil => cases e
    | cons y b' => exact lt_facts_first (List.rel_of_pairwise_cons h (s.subset (List.mem_cons_self ..))) a' b'
theorem asc_sub {e : Fact → PyData} {l T : List Fact} (hl : Asc e l) (hT : Asc e T) (h : ∀ f ∈ T, f ∈ l) : T.Sublist l := by
  have : T = l.filter fun f => decide (f ∈ T) := asc_ext hT (hl.sublist List.filter_sublist) fun f => by
    rw [List.mem_filter, decide_eq_true_eq]
    exact ⟨fun z => ⟨h f z, z⟩, fun z => z.2⟩
  rw [this]
  exact List.filter_sublist
/-- no set that is less does it -/
theorem cut_min {W : List (List Fact)} {S T : List Fact} (hc : isCut W S) (hT : Asc dFact T) (hlt : T.length < S.length ∨ (T.length = S.length ∧ ltE dFacts T S)) : meets W T = false := by
  cases hm : meets W T with
  | false => rfl
  | true =>
    exfalso
    obtain ⟨c1, c2, ⟨pre, post, c3, c4⟩, c5⟩ := hc
    -- some row of W is asked
    have hS : S ∈ chs (Fs W) S.length := by rw [c3]; exact List.mem_append_right _ (List.mem_cons_self ..)
    have hsub := (chs_mem.mp hS).1
    obtain ⟨f0, hf0⟩ := List.exists_mem_of_length_pos (show 0 < S.length from c1)
    obtain ⟨w0, hw0, _⟩ := mem_Fs.mp (hsub.subset hf0)
    let T' := T.filter fun f => decide (f ∈ Fs W)
    have hT' : T'.Sublist (Fs W) := asc_sub (asc_Fs W) (hT.sublist List.filter_sublist) fun f hf => of_decide_eq_true (List.mem_filter.mp hf).2
    have hm' : meets W T' = true := by
      unfold meets at hm ⊢
      rw [List.all_eq_true] at hm ⊢
      intro w hw
      obtain ⟨f, hf, z⟩ := List.any_eq_true.mp (hm w hw)
      exact List.any_eq_true.mpr ⟨f, List.mem_filter.mpr ⟨hf, decide_eq_true (mem_Fs.mpr ⟨w, hw, of_decide_eq_true z⟩)⟩, z⟩
    have hpos : 1 ≤ T'.length := by
      unfold meets at hm'
      rw [List.all_eq_true] at hm'
      obtain ⟨f, hf, _⟩ := List.any_eq_true.mp (hm' w0 hw0)
      exact List.length_pos_of_mem hf
    have hle : T'.length ≤ T.length := List.length_filter_le _ _
    have hin : T' ∈ chs (Fs W) T'.length := chs_mem.mpr ⟨hT', rfl⟩
    rcases Nat.lt_or_ge T'.length S.length with z | z
    · rw [c5 _ hpos z T' hin] at hm'; cases hm'
    · obtain ⟨el, lt⟩ : T.length = S.length ∧ ltE dFacts T S := by
        rcases hlt with y | y
        · omega
        · exact y
      have ee : T' = T := List.Sublist.eq_of_length (List.filter_sublist) (by omega)
      rw [ee, el] at hin
      rw [c3] at hin
      have ord := chs_asc S.length (asc_Fs W)
      rw [c3] at ord
      rcases List.mem_append.mp hin with y | y
      · rw [c4 T y] at hm; cases hm
      · rcases List.mem_cons.mp y with y | y
        · rw [y] at lt; exact lt_irr _ lt
        · have := List.rel_of_pairwise_cons (List.pairwise_append.mp ord).2.1 y
          exact lt_irr S (lt_tr this lt)
theorem cut_facts {W : List (List Fact)} {S : List Fact} (hc : isCut W S) : S.Sublist (Fs W) := by
  obtain ⟨c1, c2, ⟨pre, post, c3, c4⟩, c5⟩ := hc
  have hS : S ∈ chs (Fs W) S.length := by rw [c3]; exact List.mem_append_right _ (List.mem_cons_self ..)
  exact (chs_mem.mp hS).1
/-! ### all facts, in order -/
theorem lt_fact_name {n m : Str} (h : ltE PyData.str n m) (r s : Row) : ltE dFact (n, r) (m, s) := by
  show PySem.W.dataLt (.tuple [.str n, dRow r]) (.tuple [.str m, dRow s]) = true
  rw [PySem.W.dataLt_pair (enc_str.al n m) (enc_row.al r s), if_neg]
  · exact h
  · intro z
    rw [(enc_str.eq n m).mp z] at h; exact lt_irr m h
theorem lt_fact_row (n : Str) {r s : Row} (h : ltE dRow r s) : ltE dFact (n, r) (n, s) := by
  show PySem.W.dataLt (.tuple [.str n, dRow r]) (.tuple [.str n, dRow s]) = true
  rw [PySem.W.dataLt_pair (enc_str.al n n) (enc_row.al r s), if_pos ((enc_str.eq n n).mpr rfl), if_neg]
  · exact h
  · intro z
    rw [(enc_row.eq r s).mp z] at h; exact lt_irr s h
theorem asc_catFacts {C : Cat} (g : GCat C) : Asc dFact (catFacts C) := by
  have key : ∀ l : Cat, (∀ t ∈ l, Asc dRow t.2.2) → l.Pairwise (fun t u => ltE PyData.str t.1 u.1) → Asc dFact (catFacts l) := by
    intro l
    induction l with
    | nil => intro _ _; exact .nil
    | cons t l ih =>
      intro h1 h2
      show Asc dFact ((t.2.2.map fun r => (t.1, r)) ++ catFacts l)
      refine List.pairwise_append.mpr ⟨List.pairwise_map.mpr ((h1 t (List.mem_cons_self ..)).imp fun z => lt_fact_row t.1 z), ih (fun u hu => h1 u (List.mem_cons_of_mem _ hu)) (List.Pairwise.of_cons h2), fun a ha b hb => ?_⟩
      obtain ⟨r, _, rfl⟩ := List.mem_map.mp ha
      obtain ⟨u, hu, e, _⟩ := mem_catFacts.mp hb
      obtain ⟨n, s⟩ := b
      have e : u.1 = n := e
      subst e
      exact lt_fact_name (List.rel_of_pairwise_cons h2 hu) r s
  exact key C (fun t ht => (g.tabs t ht).asc) (List.pairwise_map.mp g.asc)
/-- what check_cut says of rows in order, of the catalogue -/
theorem cut_said {C : Cat} (g : GCat C) {W : List (List Fact)} {S : List Fact} (ha : Asc dFact S) (hi : ∀ f ∈ S, inCat C f) : (ascB (S.map dFact) && S.all (inB C) && meets W S) = meets W S := by
  rw [asc_iff.mpr ha, List.all_eq_true.mpr fun f hf => (inB_iff g).mpr (hi f hf)]; rfl
theorem twice_not {S : List Fact} {f : Fact} (h : S ≠ []) (hl : S.getLast? = some f) : ascB ((S ++ [f]).map dFact) = false := by
  cases z : ascB ((S ++ [f]).map dFact) with
  | false => rfl
  | true =>
    have := asc_iff.mp z
    exact absurd ((List.pairwise_append.mp this).2.2 f (List.mem_of_getLast? hl) f (List.mem_singleton.mpr rfl)) (lt_irr f)
end JQ

-- part Ub
set_option Elab.async false
set_option linter.all false
set_option maxRecDepth 100000
set_option maxHeartbeats 2000000
/-! The law's parts by name (printed by mklaw.py). -/
namespace JQ
open PySem PySem.Spec PyProof.Rows L2
def lawC (c : Cf) : TS :=
  (tSeq (tAsg (tLst (tNil)) (gName 14)) (tSeq (tFor (iTup c.K (tVar 2)) (gName 15) (tAsg (tOp rCat (tVar 14) (tLc (iTup c.K (tOp (rIx c.K) (tVar 15) (tC 
  (.int 2)))) (gName 16) (tYes) (tTup (tCons (tOp (rIx c.K) (tVar 15) (tC (.int 0))) (tCons (tVar 16) (tNil)))) [16])) (gName 14))) (tSeq (tAsg (tCB 
  (rTupOf c.K) (tCons (tLc (iList c.K (tVar 14)) (gName 9) (tTest (tOp (rEqP c.K) (tCall (spG c R__law_take) [] C8.E0 (tCons (tVar 1) (tCons (tC (.int 
  3)) (tNil)))) (tC (.int 1)))) (tVar 9) [9]) (tNil))) (gName 17)) (tSeq (tFor (iTup c.K (tTup (tCons (tVar 10) (tCons (L2.tSl (rSlA c.K) (tVar 10) 
  (tPart (tC (.int 1))) (tNoPart)) (tCons (tVar 17) (tCons (tCB (rTupOf c.K) (tCons (tCB (rSortX c) (tCons (tCB (rSetX c) (tCons (tOp (rCatA c.K) (tVar 
  10) (tVar 17)) (tNil))) tNil)) (tNil))) (tCons (tTup (tNil)) (tNil)))))))) (gName 13) (tSeq (tAsg (tCall (spR c R_check_cut) [] C8.E0 (tCons (tVar 2) 
  (tCons (tVar 3) (tCons (tVar 5) (tCons (tVar 13) (tNil)))))) (gName 18)) (tIfS (tOr (tNot (tB (tCB (rIsi c.K) (tCons (tVar 18) (tCons (tC (.ty 
  "bool")) (tNil)))))) (tTest (tOp (rNeP c.K) (tVar 18) (tCall (spR c R__law_gone) [] C8.E0 (tCons (tVar 2) (tCons (tVar 3) (tCons (tVar 5) (tCons (tVar 
  13) (tNil))))))))) (tRet (tC (.bl false))) (tNext)))) (tSeq (tAsg (tTup (tCons (tOp (rIx c.K) (tOp (rIx c.K) (tVar 2) (tC (.int 0))) (tC (.int 0))) 
  (tCons (tOp (rRepN c.K) (tTup (tCons (tC (.int 9)) (tNil))) (tOp (rIx c.K) (tOp (rIx c.K) (tVar 2) (tC (.int 0))) (tC (.int 1)))) (tNil)))) (gName 
  19)) (tRet (tAndV (tOp rIsB (tCall (spR c R_check_cut) [] C8.E0 (tCons (tVar 2) (tCons (tVar 3) (tCons (tVar 5) (tCons (tOp (rCatA c.K) (tVar 10) 
  (L2.tSl (rSlA c.K) (tVar 10) (tPart (tUn (rU fun i => .int (-i)) (tC (.int 1)))) (tNoPart))) (tNil)))))) (tC (.bl false))) (tOp rIsB (tCall (spR c 
  R_check_cut) [] C8.E0 (tCons (tVar 2) (tCons (tVar 3) (tCons (tVar 5) (tCons (tCB (rTupOf c.K) (tCons (tCB (rSortD c.K) (tCons (tOp (rCatA c.K) (tVar 
  10) (tTup (tCons (tVar 19) (tNil)))) (tNil))) (tNil))) (tNil)))))) (tC (.bl false)))))))))) 
def lawB (c : Cf) : TS :=
  (tSeq (tAsg (tIf (tTest (tOp rLtI (tCB (rLen c.K) (tCons (tVar 6) (tNil))) (tC (.int 8)))) (tCB rMin2 (tCons (tCB (rLen c.K) (tCons (tVar 10) (tNil))) 
  (tCons (tC (.int 2)) (tNil)))) (tC (.int 1))) (gName 11)) (tSeq (tFor (iRng1 (tCons (tOp rAddI (tVar 11) (tC (.int 1))) (tNil))) (gName 12) (tFor 
  (iList c.K (tCall (spR c R__law_sets) [] C8.E0 (tCons (tVar 6) (tCons (tVar 12) (tNil))))) (gName 13) (tIfS (tAnd (tOr (tTest (tOp rLtI (tVar 12) (tCB 
  (rLen c.K) (tCons (tVar 10) (tNil))))) (tAnd (tTest (tOp (rEqP c.K) (tVar 12) (tCB (rLen c.K) (tCons (tVar 10) (tNil))))) (tTest (tOp (rLtD c.K) (tVar 
  13) (tVar 10))))) (tB (tCall (spR c R__law_gone) [] C8.E0 (tCons (tVar 2) (tCons (tVar 3) (tCons (tVar 5) (tCons (tVar 13) (tNil)))))))) (tRet (tC 
  (.bl false))) (tNext)))) (lawC c))) 
def lawA (c : Cf) : TS :=
  (tSeq (tAsg (tCall (spG c R__law_catalogue) [] C8.E0 (tCons (tVar 1) (tCons (tC (.int 3)) (tCons (tC (.int 5)) (tCons (tC (.int 3)) (tNil)))))) (gName 
  2)) (tSeq (tAsg (tCall (spG c R__law_pattern) [] C8.E0 (tCons (tVar 1) (tCons (tVar 2) (tCons (tC (.int 3)) (tCons (tC (.int 3)) (tNil)))))) (gName 
  3)) (tSeq (tAsg (tCall (spR c R_plain_answers) [] C8.E0 (tCons (tVar 2) (tCons (tVar 3) (tNil)))) (gName 4)) (tSeq (tIfS (tTest (tOp (rEqP c.K) (tCB 
  (rLen c.K) (tCons (tVar 4) (tNil))) (tC (.int 0)))) (tRet (tC (.bl true))) (tNext)) (tSeq (tAsg (tOp (rIx c.K) (tVar 4) (tCall (spG c R__law_take) [] 
  C8.E0 (tCons (tVar 1) (tCons (tCB (rLen c.K) (tCons (tVar 4) (tNil))) (tNil))))) (gName 5)) (tSeq (tAsg (tLst (tNil)) (gName 6)) (tSeq (tFor (iList 
  c.K (tCall (spR c R__law_assignments) [] C8.E0 (tCons (tVar 2) (tCons (tVar 3) (tNil))))) (gName 7) (tIfS (tTest (tOp (rEqP c.K) (tCB (rTupOf c.K) 
  (tCons (tLc (iTup c.K (tOp (rIx c.K) (tVar 3) (tC (.int 0)))) (gName 8) (tYes) (tDGet (tVar 7) (tVar 8)) [8]) (tNil))) (tVar 5))) (tAsg (tOp rCat 
  (tVar 6) (tLc (iList c.K (tCall (spR c R__law_facts) [] C8.E0 (tCons (tVar 3) (tCons (tVar 7) (tNil))))) (gName 9) (tTest (tOp (rNiX c.K) (tVar 9) 
  (tVar 6))) (tVar 9) [9])) (gName 6)) (tNext))) (tSeq (tAsg (tCB (rSortX c) (tCons (tCB (rSetX c) (tCons (tVar 6) (tNil))) tNil)) (gName 6)) (tSeq 
  (tAsg (tCall (spR c R__law_cut) [] C8.E0 (tCons (tVar 2) (tCons (tVar 3) (tCons (tVar 5) (tNil))))) (gName 10)) (tSeq (tIfS (tTest (tOp rGtI (tCB 
  (rLen c.K) (tCons (tVar 6) (tNil))) (tC (.int 16)))) (tRet (tOp rIsN (tVar 10) (tC .non))) (tNext)) (tSeq (tIfS (tOr (tTest (tOp rIsN (tVar 10) (tC 
  .non))) (tNot (tB (tCall (spR c R__law_gone) [] C8.E0 (tCons (tVar 2) (tCons (tVar 3) (tCons (tVar 5) (tCons (tVar 10) (tNil))))))))) (tRet (tC (.bl 
  false))) (tNext)) (lawB c)))))))))))) 
theorem law_parts {c : Cf} : t_law c (spR c R__law_begin) (spG c R__law_catalogue) (spG c R__law_pattern) R_plain_answers (spG c R__law_take) R__law_assignments R__law_facts R__law_cut R__law_gone R__law_sets R_check_cut =
    tSeq (tAsg (tCall (spR c R__law_begin) [] C8.E0 (tCons (tVar 0) (tNil))) (gName 1)) (lawA c) := rfl
end JQ

-- part Uc
set_option Elab.async false
set_option linter.all false
set_option maxRecDepth 100000
set_option maxHeartbeats 4000000
/-! The law: its last part: the cuts that are asked. -/
namespace JQ
open PySem PySem.Spec PyProof.Rows L2
theorem ev_takeAt {c : Cf} {D L0 : Addr} {ρ : Rho} {tb : TE} {m : Int} {i : Nat} (h : ρ[i]? = some (.fz (.at_ D))) (hb : Ed c (GD D L0) tb ρ (.int m)) (hm : 0 < m) (hm2 : m < 1000) : Ev c (GD D L0) (tCall (spG c R__law_take) [] C8.E0 (tCons (tVar i) (tCons tb tNil))) ρ (fun d => ∃ r : Nat, (r : Int) < m ∧ d = .p (.int (r : Int))) :=
  ev_callG (eva_cons1 (ev_var h) (eva_cons1 hb eva_nil)) fun as e => ⟨[.p (.int m)], e, m, ⟨hm, hm2⟩, rfl, fun _ e => e⟩
theorem en_sortSetT {c : Cf} {G : Gx} {ρ : Rho} {te : TE} {fs : List Fact} (h : Es c G te ρ (.tuple (fs.map dFact))) (hl : fs.length < 63) : En c G (tCB (rSortX c) (tCons (tCB (rSetX c) (tCons te tNil)) tNil)) ρ (.list ((uniq fs).map dFact)) := en_sortSetO (.inr h) hl
theorem cut_last {α : Type} {l : List α} {x : α} : cutD (l ++ [x]) (some (-1)) none = [x] := by
  have e : HT.sIx (l ++ [x]).length 0 (some (-1)) = l.length := by
    show (if (-1 : Int) < 0 then ((-1 : Int) + ((l ++ [x]).length : Int)).toNat else min (-1 : Int).toNat (l ++ [x]).length) = l.length
    rw [if_pos (by decide), List.length_append, List.length_singleton]
    omega
  unfold cutD
  rw [e, HT.sIx_none, List.drop_left, List.length_append, List.length_singleton, List.take_of_length_le (by simp)]
theorem lcr_sub {α : Type} {l : List α} {e : α → PyData} : ∀ {n : Nat} {out : List DV}, LcR (fun _ _ => True) (fun i d => ∃ x, l[i]? = some x ∧ d = .p (e x)) n out → ∃ T : List α, T.Sublist (l.take n) ∧ out = T.map fun x => .p (e x) := by
  intro n out h
  induction h with
  | zero => exact ⟨[], List.nil_sublist _, rfl⟩
  | @yes i out d _ _ pe ih =>
    obtain ⟨T, h1, h2⟩ := ih
    obtain ⟨x, hx, e⟩ := pe
    refine ⟨T ++ [x], ?_, by rw [h2, e, List.map_append]; rfl⟩
    rw [take_snoc hx]
    exact h1.append (List.Sublist.refl _)
  | @no i out _ _ ih =>
    obtain ⟨T, h1, h2⟩ := ih
    refine ⟨T, h1.trans ?_, h2⟩
    exact List.take_sublist_take_left (Nat.le_succ i)
section
variable {c : Cf} {G : Gx} {ρ : Rho} {C : Cat} {p : Pat} {ans : Row} {W : List (List Fact)}
/-- gone? -/
theorem ed_gone {i2 i3 i5 : Nat} {tx : TE} {X : List Fact} (h : Good (C, p)) (hW : IsWit C p ans W) (h2 : ρ[i2]? = some (.fz (.p (dCat C)))) (h3 : ρ[i3]? = some (.fz (nPat p))) (h5 : ρ[i5]? = some (.fz (.p (dRow ans)))) (hx : Ed c G tx ρ (dFacts X)) (hX : okFacts C X) :
    Ed c G (tCall (spR c R__law_gone) [] C8.E0 (tCons (tVar i2) (tCons (tVar i3) (tCons (tVar i5) (tCons tx tNil))))) ρ (.bool (meets W X)) :=
  ev_call (PA := (· = [.p (dCat C), .p (dPat p), .p (dRow ans), .p (dFacts X)])) (eva_cons1 (ev_var h2) (eva_cons1 ((ev_var (d := nPat p) h3).conv fun _ _ r => rv_nPat r) (eva_cons1 (ev_var h5) (eva_cons1 hx eva_nil)))) fun ds e => by
    subst e
    refine ⟨((C, p), ans, X), ⟨h, hX⟩, rfl, fun d ⟨b, hb, e⟩ => ?_⟩
    rw [e]
    have : b = meets W X := by
      have := gone_iff hW X
      cases b with
      | true => rw [(this.mpr (hb.mp rfl))]
      | false =>
        cases z : meets W X with
        | false => rfl
        | true => exact absurd (hb.mpr (this.mp z)) (by decide)
    rw [this]
/-- what check_cut says -/
theorem ed_checked {i2 i3 i5 : Nat} {tx : TE} {X : List Fact} (h : Good (C, p)) (hh : ∃ θ, Hits C p ans θ) (hW : IsWit C p ans W) (h2 : ρ[i2]? = some (.fz (.p (dCat C)))) (h3 : ρ[i3]? = some (.fz (nPat p))) (h5 : ρ[i5]? = some (.fz (.p (dRow ans)))) (hx : Ed c G tx ρ (dFacts X)) (hX : X.length ≤ 1000) :
    Ed c G (tCall (spR c R_check_cut) [] C8.E0 (tCons (tVar i2) (tCons (tVar i3) (tCons (tVar i5) (tCons tx tNil))))) ρ (.bool (ascB (X.map dFact) && X.all (inB C) && meets W X)) :=
  ev_call (PA := (· = [.p (dCat C), nPat p, .p (dRow ans), .p (dFacts X)])) (eva_cons1 (ev_var h2) (eva_cons1 (ev_var h3) (eva_cons1 (ev_var h5) (eva_cons1 hx eva_nil)))) fun ds e => by
    subst e
    refine ⟨(((C, p), ans), X), ⟨⟨h, hh⟩, hX⟩, rfl, fun d ⟨W', hW', e⟩ => ?_⟩
    rw [e]
    have : meets W' X = meets W X := by
      have a := gone_iff hW X
      have b := gone_iff hW' X
      cases z : meets W X with
      | true => exact b.mpr (a.mp z)
      | false =>
        cases y : meets W' X with
        | false => rfl
        | true => rw [a.mpr (b.mp y)] at z; cases z
    rw [this]
end
theorem rn_lawC {c : Cf} {D L0 : Addr} {C : Cat} {p : Pat} {ans : Row} {S : List Fact} {W : List (List Fact)} {s4 s6 s11 : Slot} (hC : DCat C) (h : Good (C, p)) (hh : ∃ θ, Hits C p ans θ) (hW : IsWit C p ans W) (hS : isCut W S) :
    Run c (GD D L0) (lawC c) [.no, .fz (.at_ D), .fz (.p (dCat C)), .fz (nPat p), s4, .fz (.p (dRow ans)), s6, .no, .no, .no, .fz (.p (dFacts S)), s11, .no, .no, .no, .no, .no, .no, .no, .no] (Fin (.bool true)) := by
  have g : GCat C := hC.g
  have hC3 : C.length ≤ 3 := g.few
  have hcf := catFacts_len g
  have hcS := cut_facts hS
  have hSA : Asc dFact S := (asc_Fs W).sublist hcS
  have hSI : ∀ f ∈ S, inCat C f := fun f hf => (hW.okF h).2 f (hcS.subset hf)
  have hS15 : S.length ≤ 15 := okFacts.len g ⟨asc_nd hSA, hSI⟩
  unfold lawC
  refine run_seq (run_own (en_lst ea_nil) (lq rfl) ?_)
  let B1 : List Fact → Rho := fun fs => [.no, .fz (.at_ D), .fz (.p (dCat C)), .fz (nPat p), s4, .fz (.p (dRow ans)), s6, .no, .no, .no, .fz (.p (dFacts S)), s11, .no, .no, .ow (.p (.list (fs.map dFact))), .no, .no, .no, .no, .no]
  refine run_seq (run_forTE (l := C) (e := dTab) [15, 16] (fun i ρ' => ρ' = B1 (catFacts (C.take i))) (ed_var rfl) rfl (fun i t ρ' hi e => ?_) fun ρ' e => ?_)
  · subst e
    have htm := List.mem_of_getElem? hi
    have ht5 := (g.tabs t htm).few
    have hlen : (catFacts (C.take i)).length ≤ 15 := by
      have e1 : catFacts C = catFacts (C.take i) ++ catFacts (C.drop i) := by
        unfold catFacts
        rw [← List.flatMap_append, List.take_append_drop]
      rw [e1, List.length_append] at hcf
      omega
    refine ⟨_, _, bd_name (lq rfl), run_own (en_cat rfl (en_lc1 t.2.2 (fun r => .p (dRow r)) (fun r => dFact (t.1, r)) (src_tupE t.2.2 dRow (ed_op (es_var rfl) ed_int.s (od_ixT rfl))) (by omega) fun r hr => ⟨_, _, fun _ h => h, bd_name (lq rfl), ed_tup (ea_cons (ed_op (es_var rfl) ed_int.s (od_ixT rfl)) (ea_cons (ed_var rfl) ea_nil))⟩) ?_) (lq rfl) ?_⟩
    · rw [List.length_map, List.length_map]
      exact sl3 (by show (catFacts (C.take i)).length + _ ≤ 100; omega)
    · show _ = B1 _
      refine congrArg (fun z => ([.no, .fz (.at_ D), .fz (.p (dCat C)), .fz (nPat p), s4, .fz (.p (dRow ans)), s6, .no, .no, .no, .fz (.p (dFacts S)), s11, .no, .no, .ow (.p (.list z)), .no, .no, .no, .no, .no] : Rho)) ?_
      rw [take_snoc hi]
      unfold catFacts
      rw [List.flatMap_append, List.map_append]
      simp [List.map_map, Function.comp_def]
  subst e
  rw [List.take_length]
  refine run_freeze (i := 14) rfl ?_
  -- drawn rows
  refine run_seq (run_asg (P := fun d => ∃ T : List Fact, T.Sublist (catFacts C) ∧ d = .p (dFacts T)) (ev_cb1 (P1 := fun d => ∃ T : List Fact, T.Sublist (catFacts C) ∧ d = .p (.list (T.map dFact))) (EvN.s ((evn_lcp (PB := fun _ _ => True) (PE := fun i d => ∃ x, (catFacts C)[i]? = some x ∧ d = .p (dFact x)) (src_listE (catFacts C) dFact (ed_var rfl)) (by rw [List.length_map]; omega) (fun i d hd => ?_) fun i d ⟨x, _, e⟩ => ⟨_, e⟩).imp fun d ⟨out, lr, e⟩ => ?_)) fun d ⟨T, hT, e⟩ => ?_) (lq rfl) fun d ⟨T, hT, e⟩ => ?_)
  · rw [List.getElem?_map] at hd
    cases hx : (catFacts C)[i]? with
    | none => rw [hx] at hd; cases hd
    | some x =>
      rw [hx] at hd
      cases hd
      refine ⟨[9], _, fun _ h => h, bd_name (lq rfl), evt_test ((ev_op (P1 := fun d => ∃ r : Nat, (r : Int) < 3 ∧ d = .p (.int (r : Int))) (P2 := (· = .p (.int 1))) (ev_takeAt rfl ed_int (by decide) (by decide)).s ed_int.s fun a b ⟨r, _, e1⟩ e2 => ?_).s), fun _ => (ev_var rfl).imp fun d e => ⟨x, hx, e⟩⟩
      subst e1 e2
      intro M H u v k r1 r2 Q q
      exact od_eq (int_fine _) rfl M H u v k r1 r2 Q fun z H' d f j r e => q z H' d f j r ⟨_, e, trivial⟩
  · obtain ⟨T, h1, h2⟩ := lcr_sub lr
    rw [List.length_map, List.take_length] at h1
    refine ⟨T, h1, ?_⟩
    rw [e]
    have inj : ∀ (o : List PyData) (T : List Fact), o.map DV.p = T.map (fun x => DV.p (dFact x)) → o = T.map dFact := by
      intro o
      induction o with
      | nil => intro T z; cases T with
        | nil => rfl
        | cons _ _ => cases z
      | cons a o ih => intro T z; cases T with
        | nil => cases z
        | cons b T =>
          simp only [List.map_cons, List.cons.injEq, DV.p.injEq] at z
          rw [List.map_cons, z.1, ih T z.2]
    rw [inj out T h2]
  · subst e
    intro M H u k ru Q q
    exact cb_tupL M H u k ru Q fun z H' d f j r e => q z H' d f j r ⟨T, hT, e⟩
  subst e
  have hTA : Asc dFact T := (asc_catFacts g).sublist hT
  have hTI : ∀ f ∈ T, inCat C f := fun f hf => mem_catFacts.mp (hT.subset hf)
  have hT15 : T.length ≤ 15 := by have := hT.length_le; omega
  have hS1 := hS.1
  -- the sets
  let L5 : List (List Fact) := [S, S.drop 1, T, uniq (S ++ T), []]
  have hL5 : ∀ X ∈ L5, Asc dFact X ∧ ∀ f ∈ X, inCat C f := fun X hX => by
    simp only [L5, List.mem_cons, List.mem_singleton, List.not_mem_nil, or_false] at hX
    rcases hX with rfl | rfl | rfl | rfl | rfl
    · exact ⟨hSA, hSI⟩
    · exact ⟨hSA.sublist (List.drop_sublist 1 S), fun f hf => hSI f (List.mem_of_mem_drop hf)⟩
    · exact ⟨hTA, hTI⟩
    · exact ⟨asc_uniq _, fun f hf => (List.mem_append.mp (mem_uniq.mp hf)).elim (hSI f) (hTI f)⟩
    · exact ⟨.nil, fun f hf => nomatch hf⟩
  let B2 : Rho := [.no, .fz (.at_ D), .fz (.p (dCat C)), .fz (nPat p), s4, .fz (.p (dRow ans)), s6, .no, .no, .no, .fz (.p (dFacts S)), s11, .no, .no, .fz (.p (.list ((catFacts C).map dFact))), .no, .no, .fz (.p (dFacts T)), .no, .no]
  refine run_seq (run_forTE (l := L5) (e := dFacts) [13, 18] (fun i ρ' => ρ' = B2) ?_ rfl (fun i X ρ' hi e => ?_) fun ρ' e => ?_)
  · refine ed_tup (ea_cons (ed_var rfl) (ea_cons (Ed.is (ed_slT (es_var rfl) (eo_some (i := ((1 : Nat) : Int)) ed_int.s) eo_none) ?_) (ea_cons (ed_var rfl) (ea_cons (ed_cb1 (en_sortSetT (fs := S ++ T) (Ev.s (Ed.is (ed_op (es_var rfl) (es_var rfl) (od_catT ?_)) ?_)) ?_).s cb_tupL) (ea_cons (ed_tup ea_nil) ea_nil)))))
    · rw [cut_from]; unfold dFacts; rw [List.map_drop]
    · rw [List.length_map, List.length_map]; exact sl3 (by omega)
    · rw [List.map_append]
    · rw [List.length_append]; omega
  · subst e
    have hXm := List.mem_of_getElem? hi
    obtain ⟨hXA, hXI⟩ := hL5 X hXm
    have hX15 : X.length ≤ 15 := okFacts.len g ⟨asc_nd hXA, hXI⟩
    refine ⟨_, _, bd_name (lq rfl), run_seq (run_set (Ed.is (ed_checked (ρ := B2.set 13 (.fz (.p (dFacts X)))) h hh hW rfl rfl rfl (ed_var rfl) (by omega)) (congrArg PyData.bool (cut_said g hXA hXI))) (lq rfl) ?_)⟩
    refine run_if (b := false) (Et.is (et_or (et_not (et_B (ed_isB (b := meets W X) (ed_var rfl)).s)) fun _ => et_test (ed_op (es_var rfl) (ed_gone h hW rfl rfl rfl (ed_var rfl) ⟨asc_nd hXA, hXI⟩).s (od_ne ⟨rfl, by show (PyData.bool _).depth ≤ 60; unfold PyData.depth; decide⟩ rfl)).s) ?_) (fun z => nomatch z) fun _ => run_next rfl
    cases meets W X <;> rfl
  subst e
  -- no row of the catalogue
  obtain ⟨t0, C', eC⟩ : ∃ t0 C', C = t0 :: C' := by
    cases C with
    | nil => exact absurd rfl hC.ne
    | cons t0 C' => exact ⟨t0, C', rfl⟩
  have ht0 : t0 ∈ C := by rw [eC]; exact List.mem_cons_self ..
  have e0 : atI (C.map dTab) (0 : Int) = some (dTab t0) := atE (i := 0) (by rw [eC]; rfl)
  have h1 := (g.tabs t0 ht0).c1
  have h4 := (g.tabs t0 ht0).c4
  let nf : Fact := (t0.1, List.replicate t0.2.1 9)
  have hnf : dFact nf = .tuple [.str t0.1, .tuple (List.replicate t0.2.1 (.int 9))] := by
    show PyData.tuple [.str t0.1, .tuple ((List.replicate t0.2.1 (9 : Int)).map .int)] = _
    rw [List.map_replicate]
  have hnn : inB C nf = false := by
    cases z : inB C nf with
    | false => rfl
    | true =>
      obtain ⟨t, ht, e, hr⟩ := (inB_iff g).mp z
      have hx : (9 : Int) ∈ nf.2 := by
        show (9 : Int) ∈ List.replicate t0.2.1 9
        exact List.mem_replicate.mpr ⟨by omega, rfl⟩
      have := (hC.low t ht _ hr 9 hx).2
      omega
  refine run_seq (run_set (Ed.is (ed_tup (ea_cons (ed_op (ed_op (es_var rfl) ed_int.s (od_ixT e0)).s ed_int.s (od_ixT rfl)) (ea_cons (ed_rep (n := t0.2.1) (ed_tup (ea_cons ed_int ea_nil)) (ed_op (ed_op (es_var rfl) ed_int.s (od_ixT e0)).s ed_int.s (od_ixT rfl)).s h1 (by omega)) ea_nil))) hnf.symm) (lq rfl) ?_)
  obtain ⟨ini, f, eS⟩ : ∃ ini f, S = ini ++ [f] := snoc_of (fun e => by rw [e] at hS1; cases hS1)
  have hl : S.getLast? = some f := by rw [eS]; simp
  have ecl : cutD (S.map dFact) (some (-1)) none = [f].map dFact := by rw [eS, List.map_append]; exact cut_last
  refine fin_ret (Ed.is (ed_andV (a := true) (b := true) (Es.is (ed_op (Ev.s (Ed.is (ed_checked (X := S ++ [f]) h hh hW rfl rfl rfl (Ed.is (ed_op (es_var rfl) (Ev.s (Ed.is (ed_slT (es_var rfl) (eo_some (ed_neg ed_int.s).s) eo_none) (congrArg PyData.tuple ecl))) (od_catT ?_)) ?_) ?_) ?_)) ed_bool.s (od_isB (a := false) (b := false))).s rfl) fun _ => Ed.is (ed_op (Ev.s (Ed.is (ed_checked (X := srt dFact (S ++ [nf])) h hh hW rfl rfl rfl (Ed.is (ed_cb1 (en_cb1 (Ev.s (Ed.is (ed_op (es_var rfl) (ed_tup (ea_cons (ed_var rfl) ea_nil)).s (od_catT ?_)) ?_)) (cb_sortT (ds := (S ++ [nf]).map dFact) (enc_fact.alls _) (sort_facts _) fun d hd => ?_)).s cb_tupL) ?_) ?_) ?_)) ed_bool.s (od_isB (a := false) (b := false))) rfl) rfl)
  · rw [List.length_map, List.length_map]; exact sl3 (by show S.length + 1 ≤ 100; omega)
  · unfold dFacts; rw [List.map_append]
  · rw [List.length_append]; show S.length + 1 ≤ 1000; omega
  · rw [twice_not (fun e => by rw [e] at hS1; cases hS1) hl]; rfl
  · rw [List.length_map]; exact sl3 (by show S.length + 1 ≤ 100; omega)
  · rw [List.map_append]; rfl
  · obtain ⟨x, _, rfl⟩ := List.mem_map.mp hd
    exact (enc_fact.fine x).2
  · rw [map_sort]; rfl
  · rw [(srt_perm dFact _).length_eq, List.length_append]; show S.length + 1 ≤ 1000; omega
  · have : (srt dFact (S ++ [nf])).all (inB C) = false := by
      refine List.all_eq_false.mpr ⟨nf, (srt_perm dFact _).mem_iff.mpr (List.mem_append_right _ (List.mem_singleton.mpr rfl)), by rw [hnn]; decide⟩
    rw [this, Bool.and_false, Bool.false_and]
end JQ

-- part Ud
set_option Elab.async false
set_option linter.all false
set_option maxRecDepth 100000
set_option maxHeartbeats 4000000
/-! The law: the sets that are less. -/
namespace JQ
open PySem PySem.Spec PyProof.Rows L2
theorem rn_lawB {c : Cf} {D L0 : Addr} {C : Cat} {p : Pat} {ans : Row} {S F : List Fact} {W : List (List Fact)} {s4 : Slot} (hC : DCat C) (h : Good (C, p)) (hh : ∃ θ, Hits C p ans θ) (hW : IsWit C p ans W) (hS : isCut W S) (hF : okFacts C F) :
    Run c (GD D L0) (lawB c) [.no, .fz (.at_ D), .fz (.p (dCat C)), .fz (nPat p), s4, .fz (.p (dRow ans)), .fz (.p (.list (F.map dFact))), .no, .no, .no, .fz (.p (dFacts S)), .no, .no, .no, .no, .no, .no, .no, .no, .no] (Fin (.bool true)) := by
  have g : GCat C := hC.g
  have hF15 : F.length ≤ 15 := okFacts.len g hF
  unfold lawB
  refine run_seq (run_asg (P := fun d => ∃ n : Nat, n ≤ 2 ∧ d = .p (.int (n : Int))) (ev_if (et_test (ed_op (ed_cb1 (es_var rfl) cb_lenLE).s ed_int.s od_lt).s) (fun _ => (ed_min2 (ed_cb1 (es_var rfl) cb_lenTE) ed_int).imp fun d e => ?_) fun _ => ed_int.imp fun d e => ⟨1, by decide, e⟩) (lq rfl) fun d ⟨n, hn, e⟩ => ?_)
  · rw [e]
    by_cases z : (2 : Int) < (S.length : Int)
    · exact ⟨2, Nat.le_refl _, by rw [if_pos z]; rfl⟩
    · exact ⟨S.length, by omega, by rw [if_neg z]⟩
  subst e
  let B : Rho := [.no, .fz (.at_ D), .fz (.p (dCat C)), .fz (nPat p), s4, .fz (.p (dRow ans)), .fz (.p (.list (F.map dFact))), .no, .no, .no, .fz (.p (dFacts S)), .fz (.p (.int (n : Int))), .no, .no, .no, .no, .no, .no, .no, .no]
  refine run_seq (run_forR (n := n + 1) [12, 13] (fun i ρ' => ρ' = B) (Es.is (ed_op (es_var rfl) ed_int.s od_add).s (congrArg PyData.int (by omega))) (by omega) rfl (fun k ρ' hk e => ?_) fun ρ' e => ?_)
  · subst e
    let B2 : Rho := B.set 12 (.fz (.p (.int (k : Int))))
    refine ⟨_, _, bd_name (lq rfl), ?_⟩
    refine run_forLP (γ := List (List Fact)) (q := fun Ss => ∀ T ∈ Ss, okSet F k T) (l := fun Ss => Ss.map dFacts) [13] (fun Ss i ρ' => ρ' = B2) (ev_call (PA := (· = [.p (.list (F.map dFact)), .p (.int (k : Int))])) (eva_cons1 (ev_var rfl) (eva_cons1 (ev_var rfl) eva_nil)) fun ds e => by subst e; exact ⟨(F, k), ⟨hF15, by show k ≤ 2; omega⟩, rfl, fun d ⟨Ss, _, h2, h3⟩ => ⟨Ss, h2, h3⟩⟩) (fun Ss hSs => rfl) (fun Ss hSs i d ρ' hi e => ?_) fun Ss hSs ρ' e => ?_
    · subst e
      rw [List.getElem?_map] at hi
      cases hT : Ss[i]? with
      | none => rw [hT] at hi; cases hi
      | some T =>
        rw [hT] at hi
        cases hi
        obtain ⟨o1, o2, o3⟩ := hSs T (List.mem_of_getElem? hT)
        refine ⟨_, _, bd_name (lq rfl), run_if (b := false) (Et.is (et_and (b := false) (et_or (et_test (ed_op (es_var rfl) (ed_cb1 (es_var rfl) cb_lenTE).s od_lt).s) fun _ => et_and (et_test (ed_op (es_var rfl) (ed_cb1 (es_var rfl) cb_lenTE).s (od_eq (int_fine _) rfl)).s) fun _ => et_test (ed_op (es_var rfl) (es_var rfl) (od_ltD (enc_facts.al T S) (enc_facts.nn T) (enc_facts.fine T).2)).s) fun hb => Et.is (et_B (ed_gone h hW rfl rfl rfl (ed_var rfl) ⟨asc_nd o2, fun f hf => hF.2 f (o3 f hf)⟩).s) ?_) (Bool.and_false _)) (fun z => nomatch z) fun _ => run_next rfl⟩
        refine cut_min hS o2 ?_
        rw [Bool.or_eq_true, Bool.and_eq_true, decide_eq_true_eq, enc_int.eqB, decide_eq_true_eq] at hb
        rcases hb with z | ⟨z1, z2⟩
        · exact .inl (by omega)
        · exact .inr ⟨by omega, z2⟩
    · subst e
      rfl
  subst e
  exact rn_lawC hC h hh hW hS
end JQ

-- part Ue
set_option Elab.async false
set_option linter.all false
set_option maxRecDepth 100000
set_option maxHeartbeats 4000000
/-! The law: the catalogue, the answer, the told cut. -/
namespace JQ
open PySem PySem.Spec PyProof.Rows L2
/-- facts gathered: new ones come in lots of at most three -/
structure Lots (C : Cat) (F : List Fact) : Prop where
  inC : ∀ f ∈ F, inCat C f
  len : F.length ≤ 3 * (dd [] F).length
theorem Lots.few {C : Cat} {F : List Fact} (g : GCat C) (h : Lots C F) : F.length ≤ 45 := by
  have h1 : okFacts C (dd [] F) := ⟨nd_dd List.nodup_nil, fun f hf => h.inC f ((mem_dd.mp hf).elim (fun z => nomatch z) id)⟩
  have := okFacts.len g h1
  have := h.len
  omega
theorem Lots.more {C : Cat} {F N : List Fact} (h : Lots C F) (hN : N.length ≤ 3) (hi : ∀ f ∈ N, inCat C f ∧ f ∉ F) : Lots C (F ++ N) := by
  refine ⟨fun f hf => (List.mem_append.mp hf).elim (h.inC f) fun z => (hi f z).1, ?_⟩
  cases N with
  | nil => rw [List.append_nil]; exact h.len
  | cons x N =>
    have hx := (hi x (List.mem_cons_self ..)).2
    have n1 : (x :: dd [] F).Nodup := List.nodup_cons.mpr ⟨fun z => hx ((mem_dd.mp z).elim (fun z => nomatch z) id), nd_dd List.nodup_nil⟩
    have sub : (x :: dd [] F) ⊆ dd [] (F ++ x :: N) := fun f hf => mem_dd.mpr (.inr (by
      rcases List.mem_cons.mp hf with e | z
      · rw [e]; exact List.mem_append_right _ (List.mem_cons_self ..)
      · exact List.mem_append_left _ ((mem_dd.mp z).elim (fun z => nomatch z) id)))
    have := n1.length_le_of_subset sub
    rw [List.length_cons] at this
    have := h.len
    rw [List.length_append]
    omega
theorem ans_few {C : Cat} {p : Pat} {A : List Row} (h : Good (C, p)) (hA : IsAns C p A) : A.length ≤ 125 := by
  have hlen : (asgs C p.2 [[]]).length ≤ 125 := by
    have z := (asgs_ok h.1 h.2.at_ p.2.length (Nat.le_refl _)).1
    rw [List.take_length] at z
    have : 5 ^ p.2.length ≤ 5 ^ 3 := Nat.pow_le_pow_right (by decide) h.2.at_.few
    exact Nat.le_trans z this
  have sub : A ⊆ (asgs C p.2 [[]]).map fun m => p.1.map (val m) := fun r hr => by
    obtain ⟨m, hm, e⟩ := (ans_iff h r).mpr ((hA.mem r).mp hr)
    exact List.mem_map.mpr ⟨m, hm, e⟩
  have := (asc_nd hA.asc).length_le_of_subset sub
  rw [List.length_map] at this
  omega
theorem rn_lawA {c : Cf} {D L0 : Addr} : Run c (GD D L0) (lawA c) [.no, .fz (.at_ D), .no, .no, .no, .no, .no, .no, .no, .no, .no, .no, .no, .no, .no, .no, .no, .no, .no, .no] (Fin (.bool true)) := by
  unfold lawA
  refine run_seq (run_asg (P := fun d => ∃ C, DCat C ∧ d = .p (dCat C)) (ev_callG (ea_p (ev_var rfl) (ea_p ed_int (ea_p ed_int (ea_p ed_int eva_nil)))) fun as e => ⟨_, e, (), trivial, rfl, fun _ e => e⟩) (lq rfl) fun d ⟨C, hC, e⟩ => ?_)
  subst e
  have g : GCat C := hC.g
  refine run_seq (run_asg (P := fun d => ∃ p, GPat C p ∧ d = nPat p) (ev_callG (ea_p (ev_var rfl) (ea_p (ev_var rfl) (ea_p ed_int (ea_p ed_int eva_nil)))) fun as e => ⟨_, e, C, hC, rfl, fun _ e => e⟩) (lq rfl) fun d ⟨p, hp, e⟩ => ?_)
  subst e
  have h : Good (C, p) := ⟨g, hp⟩
  have hp1 : p.1.length ≤ 3 := hp.hfew
  have hp2 : p.2.length ≤ 3 := hp.at_.few
  refine run_seq (run_asg (P := fun d => ∃ A, IsAns C p A ∧ d = .p (dRows A)) (ev_call (PA := (· = [.p (dCat C), .p (dPat p)])) (eva_cons1 (ev_var rfl) (eva_cons1 ((ev_var (d := nPat p) rfl).conv fun _ _ r => rv_nPat r) eva_nil)) fun ds e => by subst e; exact ⟨(C, p), h, rfl, fun _ e => e⟩) (lq rfl) fun d ⟨A, hA, e⟩ => ?_)
  subst e
  have hA1 := ans_few h hA
  refine run_seq (run_if (b := decide ((A.length : Int) = 0)) (Et.is (et_test (ed_op (ed_cb1 (es_var rfl) cb_lenTE).s ed_int.s (od_eq (int_fine _) rfl)).s) (enc_int.eqB _ _)) (fun _ => run_retD ed_bool rfl) fun hb => run_next ?_)
  have hb := of_decide_eq_false hb
  refine run_seq (run_asg (P := fun d => ∃ ans ∈ A, d = .p (dRow ans)) (ev_op (P1 := (· = .p (dRows A))) (P2 := fun d => ∃ r : Nat, (r : Int) < (A.length : Int) ∧ d = .p (.int (r : Int))) (ev_var rfl).s (ev_takeAt rfl (ed_cb1 (es_var rfl) cb_lenTE) (by omega) (by omega)).s fun x y e1 ⟨r, hr, e2⟩ => ?_) (lq rfl) fun d ⟨ans, hans, e⟩ => ?_)
  · subst e1 e2
    have hr : r < A.length := by omega
    intro M H u v k r1 r2 Q q
    exact od_ixT (ds := A.map dRow) (atE (List.getElem?_eq_getElem hr)) M H u v k r1 r2 Q fun z H' d f j r' e => q z H' d f j r' ⟨_, List.getElem_mem hr, e⟩
  subst e
  have hh : ∃ θ, Hits C p ans θ := (hA.mem ans).mp hans
  refine run_seq (run_own (en_lst ea_nil) (lq rfl) ?_)
  let B : List Fact → Rho := fun F => [.no, .fz (.at_ D), .fz (.p (dCat C)), .fz (nPat p), .fz (.p (dRows A)), .fz (.p (dRow ans)), .ow (.p (.list (F.map dFact))), .no, .no, .no, .no, .no, .no, .no, .no, .no, .no, .no, .no, .no]
  refine run_seq (run_forXP (γ := List Asg) (q := fun ms => ∀ m ∈ ms, okAsg C p m) (l := fun ms => ms.map .dk) [7, 8, 9] (fun ms i ρ' => ∃ F, ρ' = B F ∧ Lots C F) (ev_call (PA := (· = [.p (dCat C), .p (dPat p)])) (eva_cons1 (ev_var rfl) (eva_cons1 ((ev_var (d := nPat p) rfl).conv fun _ _ r => rv_nPat r) eva_nil)) fun ds e => by subst e; exact ⟨(C, p), h, rfl, fun d ⟨ms, h1, h2⟩ => ⟨ms, h1.2, h2⟩⟩) (fun ms _ => ⟨[], rfl, fun f hf => (nomatch hf), Nat.le_refl _⟩) (fun ms hms i d ρ' hi ⟨F, e, hF⟩ => ?_) fun ms hms ρ' ⟨F, e, hF⟩ => ?_)
  · subst e
    rw [List.getElem?_map] at hi
    cases hm : ms[i]? with
    | none => rw [hm] at hi; cases hi
    | some m =>
      rw [hm] at hi
      cases hi
      obtain ⟨m1, m2⟩ := hms m (List.mem_of_getElem? hm)
      have hF45 := hF.few g
      have hgv : ∀ v ∈ p.1, getS m v = some (val m v) := fun v hv => by
        obtain ⟨n, hn⟩ := m1 v (hp.sub v hv)
        unfold val
        rw [hn]; rfl
      refine ⟨_, _, bd_name (lq rfl), run_ifP (PB := fun _ => True) (evt_test ((ev_op (P1 := (· = .p (dRow (p.1.map (val m))))) (P2 := (· = .p (dRow ans))) (P := fun d => ∃ b, d = .p (.bool b) ∧ True) (Ed.is (ed_cb1 (en_lc1 p.1 (fun v => .p (.str v)) (fun v => .int (val m v)) (src_tupE p.1 .str (ev_op (P1 := (· = nPat p)) (P2 := (· = .p (.int 0))) (P := (· = .p (dVars p.1))) (ev_var rfl).s ed_int.s fun _ _ e1 e2 => by subst e1 e2; exact od_ixP rfl)) (by omega) fun v hv => ⟨_, _, fun _ h => h, bd_name (lq rfl), ed_dget (ev_var rfl).s (es_var rfl) (hgv v hv)⟩).s cb_tupL) ?_).s (es_var rfl) fun x y e1 e2 => ?_).s)) (fun _ => ?_) fun _ => run_next ⟨F, rfl, hF⟩⟩
      · unfold dRow; rw [List.map_map]; rfl
      · subst e1 e2
        intro M H u v k r1 r2 Q q
        exact od_eq (enc_row.fine _) (enc_row.pl _) M H u v k r1 r2 Q fun z H' d f j r e => q z H' d f j r ⟨_, e, trivial⟩
      · let N := (factsOf p (val m)).filter fun f => !decide (f ∈ F)
        have hN : N.length ≤ 3 := by
          have := List.length_filter_le (fun f => !decide (f ∈ F)) (factsOf p (val m))
          have e : (factsOf p (val m)).length = p.2.length := by unfold factsOf; rw [List.length_map]
          show (List.filter _ _).length ≤ 3
          omega
        refine run_own (en_cat rfl (en_lc (factsOf p (val m)) (fun f => .p (dFact f)) (fun f => !decide (f ∈ F)) dFact (src_listE (factsOf p (val m)) dFact (ev_call (PA := (· = [.p (dPat p), .dk m])) (eva_cons1 ((ev_var (d := nPat p) rfl).conv fun _ _ r => rv_nPat r) (eva_cons1 (ev_var rfl) eva_nil)) fun ds e => by subst e; exact ⟨((C, p), m), ⟨h, m1⟩, rfl, fun _ e => e⟩)) ?_ fun f hf => ⟨_, _, fun _ h => h, bd_name (lq rfl), Et.is (et_test (ed_op (es_var rfl) (evs_own rfl) (od_niL (ds := F.map dFact) (enc_fact.fine f) (enc_fact.pls F))).s) (by rw [enc_fact.any]), fun _ => ed_var rfl⟩) ?_) (lq rfl) ⟨F ++ N, ?_, hF.more hN fun f hf => ?_⟩
        · have e : (factsOf p (val m)).length = p.2.length := by unfold factsOf; rw [List.length_map]
          omega
        · rw [List.length_map, List.length_map]
          exact sl3 (by show F.length + N.length ≤ 100; omega)
        · show _ = B _
          refine congrArg (fun z => ([.no, .fz (.at_ D), .fz (.p (dCat C)), .fz (nPat p), .fz (.p (dRows A)), .fz (.p (dRow ans)), .ow (.p (.list z)), .no, .no, .no, .no, .no, .no, .no, .no, .no, .no, .no, .no, .no] : Rho)) ?_
          rw [List.map_append]
        · obtain ⟨z1, z2⟩ := List.mem_filter.mp hf
          exact ⟨fact_in h m2 z1, by simpa using z2⟩
  subst e
  have hF45 := hF.few g
  refine run_seq (run_set (d := .list ((uniq F).map dFact)) (en_sortSetF (evs_own rfl) (by omega)).e (lq rfl) ?_)
  have hU : okFacts C (uniq F) := ⟨asc_nd (asc_uniq F), fun f hf => hF.inC f (mem_uniq.mp hf)⟩
  have hU15 := okFacts.len g hU
  refine run_seq (run_asg (P := fun d => ∃ W S, IsWit C p ans W ∧ isCut W S ∧ d = .p (dFacts S)) (ev_call (eva_cons1 (ev_var rfl) (eva_cons1 (ev_var rfl) (eva_cons1 (ev_var rfl) eva_nil))) fun ds e => by subst e; exact ⟨((C, p), ans), ⟨h, hh⟩, rfl, fun _ e => e⟩) (lq rfl) fun d ⟨W, S, hW, hS, e⟩ => ?_)
  subst e
  have hcS := cut_facts hS
  have hSo : okFacts C S := ⟨asc_nd ((asc_Fs W).sublist hcS), fun f hf => (hW.okF h).2 f (hcS.subset hf)⟩
  refine run_seq (run_if (b := false) (Et.is (et_test (ed_op (ed_cb1 (es_var rfl) cb_lenLE).s ed_int.s od_gt).s) (decide_eq_false (by omega))) (fun z => nomatch z) fun _ => run_next ?_)
  refine run_seq (run_if (b := false) (Et.is (et_or (et_test (ed_op (x := .p (dFacts S)) (ev_var rfl).s ed_none.s od_isN).s) fun _ => et_not (et_B (ed_gone h hW rfl rfl rfl (ed_var rfl) hSo).s)) ?_) (fun z => nomatch z) fun _ => run_next ?_)
  · rw [hS.2.1]; rfl
  exact rn_lawB hC h hh hW hS hU
end JQ

-- part Uf
set_option Elab.async false
set_option linter.all false
set_option maxRecDepth 100000
set_option maxHeartbeats 2000000
/-! The law: its start; its promise. -/
namespace JQ
open PySem PySem.Spec PyProof.Rows L2
def spLaw (K : PySem.W.Frag) : Sp := fun vs H Q _ => ∃ (a : Addr) (ns : List Int), vs = [.ref a] ∧ SqL K H a (ns.map V.int) ∧ ns.length ≤ 63 ∧ ∀ H', Q (.bl true) H'
theorem env_start {c : Cf} {N : List Str} {m : Addr → Bool} {H : Hp} {vs : List V} {ds : List DV} (al : ∀ a, m a = true → ∃ o, H a = some o) (rv : RvAll c (hid m H) vs ds) (hl : ds.length ≤ N.length) : EnvM c G0 m m H (L2.start N vs) (args N.length ds) := by
  have len := rva_len rv
  have get : ∀ (i : Nat) (s : Slot), (args N.length ds)[i]? = some s → (∃ e, ds[i]? = some e ∧ s = .fz e) ∨ s = .no := fun i s h => by
    unfold args at h
    by_cases hi : i < ds.length
    · rw [List.getElem?_append_left (by simpa using hi), List.getElem?_map, List.getElem?_eq_getElem hi] at h
      exact .inl ⟨ds[i], List.getElem?_eq_getElem hi, (Option.some.inj h).symm⟩
    · rw [List.getElem?_append_right (by simpa using hi), List.getElem?_replicate] at h
      split at h
      · exact .inr (Option.some.inj h).symm
      · cases h
  refine ⟨⟨trivial, al, fun _ h => (nomatch h)⟩, fun _ h => (nomatch h), fun _ h => h, ?_, fun i e h => ?_, fun i e h => ?_, fun i j e e' a h _ _ _ => ?_⟩
  · unfold L2.start args
    rw [List.length_append, List.length_append, List.length_map, List.length_map, List.length_replicate, List.length_replicate, len]
  · rcases get i _ h with ⟨e', h1, h2⟩ | h2
    · cases h2
      obtain ⟨v, h3, h4⟩ := rva_get rv h1
      exact ⟨v, start_get h3, h4⟩
    · cases h2
  · rcases get i _ h with ⟨e', h1, h2⟩ | h2 <;> cases h2
  · rcases get i _ h with ⟨e', h1, h2⟩ | h2 <;> cases h2
theorem pure_law {c : Cf} (vs : List V) (H : Hp) (Q : VK) (E : XK) (hsp : spLaw c.K vs H Q E) :
    t_law c (spR c R__law_begin) (spG c R__law_catalogue) (spG c R__law_pattern) R_plain_answers (spG c R__law_take) R__law_assignments R__law_facts R__law_cut R__law_gone R__law_sets R_check_cut { nx := fun _ H' => Q .non H', rt := Q } (L2.start N_law vs) H := by
  obtain ⟨a, ns, rfl, hs, hl, q⟩ := hsp
  rw [law_parts]
  have hz : hid (fun _ => false) H = H := funext fun b => hid_get rfl
  have E0 : EnvM c G0 (fun _ => false) (fun _ => false) H (L2.start N_law [.ref a]) (args N_law.length [.p (.list (ns.map .int))]) :=
    env_start (fun _ h => (nomatch h)) (.cons (.p (.lst (by rw [hz]; exact hs) (ints_dpa ns))) .nil) (by show 1 ≤ 20; decide)
  have R0 : Run c G0 (tAsg (tCall (spR c R__law_begin) [] C8.E0 (tCons (tVar 0) (tNil))) (gName 1)) (args N_law.length [.p (.list (ns.map .int))])
      (fun o => ∃ sd : Int, 0 ≤ sd ∧ sd < 2147483647 ∧ o = .nx ((args N_law.length [.p (.list (ns.map .int))]).set 1 (.fz (dBegun ns sd)))) :=
    run_asg (P := fun d => ∃ sd : Int, 0 ≤ sd ∧ sd < 2147483647 ∧ d = dBegun ns sd) (ev_call (PA := (· = [.p (.list (ns.map .int))])) (eva_cons1 (ev_var rfl) eva_nil) fun ds e => by subst e; exact ⟨ns, by show ns.length < 1000000; omega, rfl, fun _ e => e⟩) (lq rfl) fun d ⟨sd, h1, h2, e⟩ => ⟨sd, h1, h2, by rw [e]⟩
  refine R0 (fun _ => false) H (fun _ => false) H _ { nx := lawA c { nx := fun _ H' => Q .non H', rt := Q }, rt := Q } E0 ⟨fun _ h => (nomatch h), Fx.refl⟩ ⟨fun σ H1 ⟨M, ρ, E1, _, sd, h1, h2, e⟩ => ?_, fun v H1 ⟨_, _, _, _, _, _, _, e⟩ => (nomatch e), fun σ H1 ⟨_, _, _, _, _, _, _, e⟩ => (nomatch e), fun σ H1 ⟨_, _, _, _, _, _, _, e⟩ => (nomatch e)⟩
  cases e
  obtain ⟨v, hv, rv⟩ := E1.fz 1 _ rfl
  unfold dBegun at rv
  cases rv with
  | @l D vs' _ hD hvs =>
    cases hvs with
    | cons r1 t1 => cases t1 with
      | cons r2 t2 => cases t2 with
        | cons r3 t3 => cases t3 with
          | cons r4 t4 =>
            cases t4
            cases rv_p r2
            cases rv_p r3
            cases rv_p r4
            cases r1 with
            | @l L0 us _ hL hus =>
              have eu : us = ns.map V.int := by
                have e1 : (ns.map fun n => DV.p (.int n)) = (ns.map PyData.int).map .p := by rw [List.map_map]; rfl
                rw [e1] at hus
                exact dpa_ints (rva_p hus)
              subst eu
              have hD := hid_same _ _ hD
              have hL := hid_same _ _ hL
              have J : JD D L0 H1 := ⟨0, 0, sd, ns, hD, hL, Int.le_refl _, Int.le_refl _, h1, h2⟩
              let mm : Addr → Bool := fun a => a == D || a == L0
              have al : ∀ a, mm a = true → ∃ o, H1 a = some o := fun a h => by
                have h' : (a == D || a == L0) = true := h
                rw [Bool.or_eq_true, beq_iff_eq, beq_iff_eq] at h'
                rcases h' with rfl | rfl
                · exact ⟨_, hD⟩
                · exact ⟨_, hL⟩
              have hσ : σ.length = 20 := E1.len
              have E2 : EnvM c (GD D L0) mm mm H1 σ [.no, .fz (.at_ D), .no, .no, .no, .no, .no, .no, .no, .no, .no, .no, .no, .no, .no, .no, .no, .no, .no, .no] := by
                have get : ∀ (i : Nat) (s : Slot), ([.no, .fz (.at_ D), .no, .no, .no, .no, .no, .no, .no, .no, .no, .no, .no, .no, .no, .no, .no, .no, .no, .no] : Rho)[i]? = some s → (i = 1 ∧ s = .fz (.at_ D)) ∨ s = .no := fun i s h => by
                  match i, h with
                  | 0, h => cases h; exact .inr rfl
                  | 1, h => cases h; exact .inl ⟨rfl, rfl⟩
                  | i + 2, h =>
                    right
                    have h' : (List.replicate 18 Slot.no)[i]? = some s := h
                    rw [List.getElem?_replicate] at h'
                    split at h'
                    · exact (Option.some.inj h').symm
                    · cases h'
                refine ⟨⟨J, al, fun _ h => h⟩, fun _ h => h, fun _ h => h, hσ, fun i e h => ?_, fun i e h => ?_, fun i j e e' a h _ _ _ => ?_⟩
                · rcases get i _ h with ⟨rfl, h2⟩ | h2
                  · cases h2
                    exact ⟨_, hv, .at_⟩
                  · cases h2
                · rcases get i _ h with ⟨_, h2⟩ | h2 <;> cases h2
                · rcases get i _ h with ⟨_, h2⟩ | h2 <;> cases h2
              refine rn_lawA mm H1 mm H1 σ _ E2 ⟨fun a h1 h2 => absurd h1 (by rw [h2]; exact Bool.false_ne_true), Fx.refl⟩ ⟨fun σ' H' ⟨_, _, _, _, e⟩ => (nomatch e), fun v H' ⟨d, j, f, r, e⟩ => ?_, fun σ' H' ⟨_, _, _, _, e⟩ => (nomatch e), fun σ' H' ⟨_, _, _, _, e⟩ => (nomatch e)⟩
              cases e
              have r := rv_p r
              cases r
              exact q H'
end JQ

-- part Va
set_option Elab.async false
set_option linter.all false
set_option maxRecDepth 100000
set_option maxHeartbeats 2000000
/-! Every def keeps its promise (printed by mkcal.py). -/
namespace JQ
open PySem PySem.Spec PyProof.Rows L2
section
variable {P : Program} {w : World} {K : PySem.W.Frag} {mg : Str → Option Value} {base : Heap} {x qual m : Str} {params : Arguments} {body : List Stmt} {scope : Scope} {f C : Addr} {fd : FuncData} {N ps : List Str} {k : Nat} {sp : Sp} {t : TS} {c : Cf} {R : List DV → (DV → Prop) → Prop} {n : Nat}
theorem ok_of (F : FunD K x qual params body scope [] [] f fd) (S : FnScope N ps scope) (len : ∀ vs H Q E, sp vs H Q E → vs.length = ps.length)
    (hd : ∀ {cdv : Value} {A : Around} {outer : List Env} {s : Shared} {H : Hp} {E : XK}, Room k (A.deeper (envOfC qual scope s.heap.objs.size f cdv)) → PSs (cxOf C8.CX0 P w K mg base N qual scope f cdv A outer s H E).nox body t)
    (hp : ∀ vs H Q E, sp vs H Q E → t { nx := fun _ H' => Q .non H', rt := Q } (L2.start N vs) H) : FnOk P w K mg base C8.CX0 (k + 1) f fd ps sp :=
  F.ok S len fun cdv A outer s H vs Q E hr h => ⟨t, PSs.nox (hd hr), hp vs H Q E h⟩
theorem cal_of (F : FunD K x x params body scope [] [] f fd) (hm : mg x = some (.ref f)) (b : Binds K fd ps []) (ok : FnOk P w K mg base C8.CX0 k f fd ps sp) : C8.Cal P w K mg base k x sp [] := ⟨⟨f, fd, ps, [], ok, hm, F.kp, b, .nil⟩⟩
theorem met_of (cl : Cls K C) (mt : Meth K C m f) (b : Binds K fd ps []) (ok : FnOk P w K mg base C8.CX0 k f fd ps sp) : C8.Met P w K mg base k C m sp [] := ⟨⟨f, fd, ps, [], cl, mt, ok, b, .nil⟩⟩
theorem mak_of (mk : Mk K C f) (hm : mg x = some (.ref C)) (b : Binds K fd ps []) (ok : FnOk P w K mg base C8.CX0 k f fd ps sp) : C8.Mak P w K mg base k x C sp [] := ⟨⟨f, fd, ps, [], mk, ok, hm, b, .nil⟩⟩
theorem len_R (h : ∀ ds P, R ds P → ds.length = n) (vs : List V) (H : Hp) (Q : VK) (E : XK) (hs : spR c R vs H Q E) : vs.length = n := by
  obtain ⟨m, ds, P, _, rv, hR, _⟩ := hs
  rw [rva_len rv, h ds P hR]
theorem len_I (h : ∀ ds P, R ds P → ds.length + 1 = n) (vs : List V) (H : Hp) (Q : VK) (E : XK) (hs : spI c C R vs H Q E) : vs.length = n := by
  obtain ⟨m, x, dx, us, ds, P, e, _, _, _, rv, hR, _⟩ := hs
  rw [e, List.length_cons, rva_len rv, h ds P hR]
theorem len_G (h : ∀ ds P, R ds P → ds.length + 1 = n) (vs : List V) (H : Hp) (Q : VK) (E : XK) (hs : spG c R vs H Q E) : vs.length = n := by
  obtain ⟨D, L0, m, ds, P, _, _, _, _, rv, hR, _⟩ := hs
  rw [rva_len rv, List.length_cons, h ds P hR]
theorem run_mk {α : Type} {pre : α → Prop} {enc : α → List DV} {post : α → DV → Prop} {G : Gx} (h : ∀ x, pre x → Run c G t (args n (enc x)) (fun o => ∃ d, post x d ∧ (o = .rt d ∨ ((∃ ρ, o = .nx ρ) ∧ d = .p .none)))) (ds : List DV) (P : DV → Prop) (hR : mkR pre enc post ds P) : Run c G t (args n ds) (fun o => ∃ d, P d ∧ (o = .rt d ∨ ((∃ ρ, o = .nx ρ) ∧ d = .p .none))) := by
  obtain ⟨x, hp, e, hq⟩ := hR
  rw [e]
  exact (h x hp).imp fun o ⟨d, hd, ho⟩ => ⟨d, hq d hd, ho⟩
theorem run_mkG {α : Type} {pre : α → Prop} {enc : α → List DV} {post : α → DV → Prop} {D L0 : Addr} (h : ∀ x, pre x → Run c (GD D L0) t (args n (.at_ D :: enc x)) (fun o => ∃ d, o = .rt d ∧ post x d)) (ds : List DV) (P : DV → Prop) (hR : mkR pre enc post ds P) : Run c (GD D L0) t (args n (.at_ D :: ds)) (fun o => ∃ d, o = .rt d ∧ P d) := by
  obtain ⟨x, hp, e, hq⟩ := hR
  rw [e]
  exact (h x hp).imp fun o ⟨d, ho, hd⟩ => ⟨d, ho, hq d hd⟩
theorem trk (T : Tx K mg) : TrK K (He.ga K "Trie") := ⟨T.cl_Trie, T.no_Trie_top, T.no_Trie_size, T.no_Trie_depth⟩
theorem brk (T : Tx K mg) : BrK K (He.ga K "Branch") := ⟨T.cl_Branch, T.no_Branch_places, T.no_Branch_empty, T.no_Branch_trie⟩
theorem sek (T : Tx K mg) : SeK K (He.ga K "Search") := ⟨T.cl_Search, T.no_Search_many, T.no_Search_branches, T.no_Search_dead⟩
end
theorem cal__law_begin {P : Program} {w : World} {mg : Str → Option Value} {base : Heap} {K : PySem.W.Frag} (T : Tx K mg) (c : He.SaysD fa fn K) : C8.Cal P w K mg base 1 "_law_begin" (spR (cf P w K) R__law_begin) [] := by
  obtain ⟨fd, F⟩ := c.def_ 36 (d := d__law_begin) rfl
  exact cal_of F T.m__law_begin (F.bindsN fun _ _ _ _ _ _ us hl => match us, hl with | [_], _ => rfl) (ok_of F sc__law_begin (len_R fun ds P ⟨x, _, e, _⟩ => by rw [e]; rfl) (fun hr => dv__law_begin T  hr) (pure_of (fun ds P ⟨x, _, e, _⟩ => by rw [e]; exact Nat.le_of_ble_eq_true rfl) (run_mk fun ns h => (rn__law_begin h).imp fun o ⟨A, h1, h2, e⟩ => ⟨_, ⟨A, h1, h2, rfl⟩, .inl e⟩)))
theorem cal__law_take {P : Program} {w : World} {mg : Str → Option Value} {base : Heap} {K : PySem.W.Frag} (T : Tx K mg) (c : He.SaysD fa fn K) : C8.Cal P w K mg base 1 "_law_take" (spG (cf P w K) R__law_take) [] := by
  obtain ⟨fd, F⟩ := c.def_ 37 (d := d__law_take) rfl
  exact cal_of F T.m__law_take (F.bindsN fun _ _ _ _ _ _ us hl => match us, hl with | [_, _], _ => rfl) (ok_of F sc__law_take (len_G fun ds P ⟨x, _, e, _⟩ => by rw [e]; rfl) (fun hr => dv__law_take T  hr) take_of)
theorem cal__law_rows {P : Program} {w : World} {mg : Str → Option Value} {base : Heap} {K : PySem.W.Frag} (T : Tx K mg) (c : He.SaysD fa fn K) : C8.Cal P w K mg base 2 "_law_rows" (spG (cf P w K) R__law_rows) [] := by
  obtain ⟨fd, F⟩ := c.def_ 38 (d := d__law_rows) rfl
  exact cal_of F T.m__law_rows (F.bindsN fun _ _ _ _ _ _ us hl => match us, hl with | [_, _, _, _], _ => rfl) (ok_of F sc__law_rows (len_G fun ds P ⟨x, _, e, _⟩ => by rw [e]; rfl) (fun hr => dv__law_rows T (cal__law_take T c) hr) (draw_of (fun ds P ⟨x, _, e, _⟩ => by rw [e]; exact Nat.le_of_ble_eq_true rfl) fun D L0 => run_mkG fun n ⟨h1, h2⟩ => (rn__law_rows h1 h2).imp fun o ⟨A, hA, e⟩ => ⟨_, e, ⟨A, hA, rfl⟩⟩))
theorem cal__law_catalogue {P : Program} {w : World} {mg : Str → Option Value} {base : Heap} {K : PySem.W.Frag} (T : Tx K mg) (c : He.SaysD fa fn K) : C8.Cal P w K mg base 3 "_law_catalogue" (spG (cf P w K) R__law_catalogue) [] := by
  obtain ⟨fd, F⟩ := c.def_ 39 (d := d__law_catalogue) rfl
  exact cal_of F T.m__law_catalogue (F.bindsN fun _ _ _ _ _ _ us hl => match us, hl with | [_, _, _, _], _ => rfl) (ok_of F sc__law_catalogue (len_G fun ds P ⟨x, _, e, _⟩ => by rw [e]; rfl) (fun hr => dv__law_catalogue T (cal__law_take T c) (cal__law_rows T c) hr) (draw_of (fun ds P ⟨x, _, e, _⟩ => by rw [e]; exact Nat.le_of_ble_eq_true rfl) fun D L0 => run_mkG fun _ _ => (rn__law_catalogue ).imp fun o ⟨A, hA, e⟩ => ⟨_, e, ⟨A, hA, rfl⟩⟩))
theorem cal__law_variables {P : Program} {w : World} {mg : Str → Option Value} {base : Heap} {K : PySem.W.Frag} (T : Tx K mg) (c : He.SaysD fa fn K) : C8.Cal P w K mg base 1 "_law_variables" (spR (cf P w K) R__law_variables) [] := by
  obtain ⟨fd, F⟩ := c.def_ 41 (d := d__law_variables) rfl
  exact cal_of F T.m__law_variables (F.bindsN fun _ _ _ _ _ _ us hl => match us, hl with | [_], _ => rfl) (ok_of F sc__law_variables (len_R fun ds P ⟨x, _, e, _⟩ => by rw [e]; rfl) (fun hr => dv__law_variables T  hr) (pure_of (fun ds P ⟨x, _, e, _⟩ => by rw [e]; exact Nat.le_of_ble_eq_true rfl) (run_mk fun ⟨C, p⟩ h => (rn__law_variables h).imp fun o e => ⟨_, rfl, .inl e⟩)))
theorem cal__law_pattern {P : Program} {w : World} {mg : Str → Option Value} {base : Heap} {K : PySem.W.Frag} (T : Tx K mg) (c : He.SaysD fa fn K) : C8.Cal P w K mg base 2 "_law_pattern" (spG (cf P w K) R__law_pattern) [] := by
  obtain ⟨fd, F⟩ := c.def_ 42 (d := d__law_pattern) rfl
  exact cal_of F T.m__law_pattern (F.bindsN fun _ _ _ _ _ _ us hl => match us, hl with | [_, _, _, _], _ => rfl) (ok_of F sc__law_pattern (len_G fun ds P ⟨x, _, e, _⟩ => by rw [e]; rfl) (fun hr => dv__law_pattern T (cal__law_take T c) (cal__law_variables T c) hr) (draw_of (fun ds P ⟨x, _, e, _⟩ => by rw [e]; exact Nat.le_of_ble_eq_true rfl) fun D L0 => run_mkG fun C h => (rn__law_pattern h).imp fun o ⟨A, hA, e⟩ => ⟨_, e, ⟨A, hA, rfl⟩⟩))
theorem cal_is_name {P : Program} {w : World} {mg : Str → Option Value} {base : Heap} {K : PySem.W.Frag} (T : Tx K mg) (c : He.SaysD fa fn K) : C8.Cal P w K mg base 1 "is_name" (spR (cf P w K) R_is_name) [] := by
  obtain ⟨fd, F⟩ := c.def_ 0 (d := d_is_name) rfl
  exact cal_of F T.m_is_name (F.bindsN fun _ _ _ _ _ _ us hl => match us, hl with | [_], _ => rfl) (ok_of F sc_is_name (len_R fun ds P ⟨x, _, e, _⟩ => by rw [e]; rfl) (fun hr => dv_is_name T  hr) (pure_of (fun ds P ⟨x, _, e, _⟩ => by rw [e]; exact Nat.le_of_ble_eq_true rfl) (run_mk fun w h => (rn_is_name h).imp fun o e => ⟨_, rfl, .inl e⟩)))
theorem cal_right_row {P : Program} {w : World} {mg : Str → Option Value} {base : Heap} {K : PySem.W.Frag} (T : Tx K mg) (c : He.SaysD fa fn K) : C8.Cal P w K mg base 1 "right_row" (spR (cf P w K) R_right_row) [] := by
  obtain ⟨fd, F⟩ := c.def_ 1 (d := d_right_row) rfl
  exact cal_of F T.m_right_row (F.bindsN fun _ _ _ _ _ _ us hl => match us, hl with | [_, _], _ => rfl) (ok_of F sc_right_row (len_R fun ds P ⟨x, _, e, _⟩ => by rw [e]; rfl) (fun hr => dv_right_row T  hr) (pure_of (fun ds P ⟨x, _, e, _⟩ => by rw [e]; exact Nat.le_of_ble_eq_true rfl) (run_mk fun ⟨n, r⟩ ⟨h1, h2⟩ => (rn_right_row h1 h2).imp fun o e => ⟨_, rfl, .inl e⟩)))
theorem cal_ascend {P : Program} {w : World} {mg : Str → Option Value} {base : Heap} {K : PySem.W.Frag} (T : Tx K mg) (c : He.SaysD fa fn K) : C8.Cal P w K mg base 1 "ascend" (spR (cf P w K) R_ascend) [] := by
  obtain ⟨fd, F⟩ := c.def_ 2 (d := d_ascend) rfl
  exact cal_of F T.m_ascend (F.bindsN fun _ _ _ _ _ _ us hl => match us, hl with | [_], _ => rfl) (ok_of F sc_ascend (len_R fun ds P ⟨x, _, e, _⟩ => by rw [e]; rfl) (fun hr => dv_ascend T  hr) (pure_of (fun ds P ⟨x, _, e, _⟩ => by rw [e]; exact Nat.le_of_ble_eq_true rfl) (run_mk fun ⟨b, l⟩ h => (rn_ascend h).imp fun o e => ⟨_, rfl, .inl e⟩)))
theorem cal_right_table {P : Program} {w : World} {mg : Str → Option Value} {base : Heap} {K : PySem.W.Frag} (T : Tx K mg) (c : He.SaysD fa fn K) : C8.Cal P w K mg base 2 "right_table" (spR (cf P w K) R_right_table) [] := by
  obtain ⟨fd, F⟩ := c.def_ 3 (d := d_right_table) rfl
  exact cal_of F T.m_right_table (F.bindsN fun _ _ _ _ _ _ us hl => match us, hl with | [_], _ => rfl) (ok_of F sc_right_table (len_R fun ds P ⟨x, _, e, _⟩ => by rw [e]; rfl) (fun hr => dv_right_table T (cal_is_name T c) (cal_right_row T c) (cal_ascend T c) hr) (pure_of (fun ds P ⟨x, _, e, _⟩ => by rw [e]; exact Nat.le_of_ble_eq_true rfl) (run_mk fun t h => (rn_right_table h).imp fun o e => ⟨_, rfl, .inl e⟩)))
theorem cal_check_catalogue {P : Program} {w : World} {mg : Str → Option Value} {base : Heap} {K : PySem.W.Frag} (T : Tx K mg) (c : He.SaysD fa fn K) : C8.Cal P w K mg base 3 "check_catalogue" (spR (cf P w K) R_check_catalogue) [] := by
  obtain ⟨fd, F⟩ := c.def_ 4 (d := d_check_catalogue) rfl
  exact cal_of F T.m_check_catalogue (F.bindsN fun _ _ _ _ _ _ us hl => match us, hl with | [_], _ => rfl) (ok_of F sc_check_catalogue (len_R fun ds P ⟨x, _, e, _⟩ => by rw [e]; rfl) (fun hr => dv_check_catalogue T (cal_right_table T c) (cal_ascend T c) hr) (pure_of (fun ds P ⟨x, _, e, _⟩ => by rw [e]; exact Nat.le_of_ble_eq_true rfl) (run_mk fun C h => (rn_check_catalogue h).imp fun o e => ⟨_, rfl, .inr ⟨e, rfl⟩⟩)))
theorem cal_all_variables {P : Program} {w : World} {mg : Str → Option Value} {base : Heap} {K : PySem.W.Frag} (T : Tx K mg) (c : He.SaysD fa fn K) : C8.Cal P w K mg base 1 "all_variables" (spR (cf P w K) R_all_variables) [] := by
  obtain ⟨fd, F⟩ := c.def_ 9 (d := d_all_variables) rfl
  exact cal_of F T.m_all_variables (F.bindsN fun _ _ _ _ _ _ us hl => match us, hl with | [_], _ => rfl) (ok_of F sc_all_variables (len_R fun ds P ⟨x, _, e, _⟩ => by rw [e]; rfl) (fun hr => dv_all_variables T  hr) (pure_of (fun ds P ⟨x, _, e, _⟩ => by rw [e]; exact Nat.le_of_ble_eq_true rfl) (run_mk fun ⟨C, p⟩ h => (rn_all_variables h).imp fun o e => ⟨_, rfl, .inl e⟩)))
theorem cal_right_atoms {P : Program} {w : World} {mg : Str → Option Value} {base : Heap} {K : PySem.W.Frag} (T : Tx K mg) (c : He.SaysD fa fn K) : C8.Cal P w K mg base 2 "right_atoms" (spR (cf P w K) R_right_atoms) [] := by
  obtain ⟨fd, F⟩ := c.def_ 10 (d := d_right_atoms) rfl
  exact cal_of F T.m_right_atoms (F.bindsN fun _ _ _ _ _ _ us hl => match us, hl with | [_], _ => rfl) (ok_of F sc_right_atoms (len_R fun ds P ⟨x, _, e, _⟩ => by rw [e]; rfl) (fun hr => dv_right_atoms T (cal_is_name T c) hr) (pure_of (fun ds P ⟨x, _, e, _⟩ => by rw [e]; exact Nat.le_of_ble_eq_true rfl) (run_mk fun ⟨C, as⟩ ⟨h1, h2⟩ => (rn_right_atoms h1 h2).imp fun o e => ⟨_, rfl, .inl e⟩)))
theorem cal_check_pattern {P : Program} {w : World} {mg : Str → Option Value} {base : Heap} {K : PySem.W.Frag} (T : Tx K mg) (c : He.SaysD fa fn K) : C8.Cal P w K mg base 3 "check_pattern" (spR (cf P w K) R_check_pattern) [] := by
  obtain ⟨fd, F⟩ := c.def_ 11 (d := d_check_pattern) rfl
  exact cal_of F T.m_check_pattern (F.bindsN fun _ _ _ _ _ _ us hl => match us, hl with | [_], _ => rfl) (ok_of F sc_check_pattern (len_R fun ds P ⟨x, _, e, _⟩ => by rw [e]; rfl) (fun hr => dv_check_pattern T (cal_all_variables T c) (cal_right_atoms T c) hr) (pure_of (fun ds P ⟨x, _, e, _⟩ => by rw [e]; exact Nat.le_of_ble_eq_true rfl) (run_mk fun ⟨C, p⟩ h => (rn_check_pattern h).imp fun o e => ⟨_, rfl, .inr ⟨e, rfl⟩⟩)))
theorem cal_place_of {P : Program} {w : World} {mg : Str → Option Value} {base : Heap} {K : PySem.W.Frag} (T : Tx K mg) (c : He.SaysD fa fn K) : C8.Cal P w K mg base 1 "place_of" (spR (cf P w K) R_place_of) [] := by
  obtain ⟨fd, F⟩ := c.def_ 5 (d := d_place_of) rfl
  exact cal_of F T.m_place_of (F.bindsN fun _ _ _ _ _ _ us hl => match us, hl with | [_, _], _ => rfl) (ok_of F sc_place_of (len_R fun ds P ⟨x, _, e, _⟩ => by rw [e]; rfl) (fun hr => dv_place_of T  hr) (pure_of (fun ds P ⟨x, _, e, _⟩ => by rw [e]; exact Nat.le_of_ble_eq_true rfl) (run_mk fun ⟨C, k, t⟩ h => (rn_place_of h).imp fun o e => ⟨_, rfl, .inl e⟩)))
theorem cal_table_at {P : Program} {w : World} {mg : Str → Option Value} {base : Heap} {K : PySem.W.Frag} (T : Tx K mg) (c : He.SaysD fa fn K) : C8.Cal P w K mg base 2 "table_at" (spR (cf P w K) R_table_at) [] := by
  obtain ⟨fd, F⟩ := c.def_ 6 (d := d_table_at) rfl
  exact cal_of F T.m_table_at (F.bindsN fun _ _ _ _ _ _ us hl => match us, hl with | [_, _], _ => rfl) (ok_of F sc_table_at (len_R fun ds P ⟨x, _, e, _⟩ => by rw [e]; rfl) (fun hr => dv_table_at T (cal_place_of T c) hr) (pure_of (fun ds P ⟨x, _, e, _⟩ => by rw [e]; exact Nat.le_of_ble_eq_true rfl) (run_mk fun ⟨C, t⟩ ⟨h1, h2⟩ => (rn_table_at h1 h2).imp fun o e => ⟨_, rfl, .inl e⟩)))
theorem cal_check_fit {P : Program} {w : World} {mg : Str → Option Value} {base : Heap} {K : PySem.W.Frag} (T : Tx K mg) (c : He.SaysD fa fn K) : C8.Cal P w K mg base 4 "check_fit" (spR (cf P w K) R_check_fit) [] := by
  obtain ⟨fd, F⟩ := c.def_ 12 (d := d_check_fit) rfl
  exact cal_of F T.m_check_fit (F.bindsN fun _ _ _ _ _ _ us hl => match us, hl with | [_, _], _ => rfl) (ok_of F sc_check_fit (len_R fun ds P ⟨x, _, e, _⟩ => by rw [e]; rfl) (fun hr => dv_check_fit T (cal_check_catalogue T c) (cal_check_pattern T c) (cal_table_at T c) hr) (pure_of (fun ds P ⟨x, _, e, _⟩ => by rw [e]; exact Nat.le_of_ble_eq_true rfl) (run_mk fun x h => (rn_check_fit h).imp fun o e => ⟨_, rfl, .inr ⟨e, rfl⟩⟩)))
theorem cal_agreed {P : Program} {w : World} {mg : Str → Option Value} {base : Heap} {K : PySem.W.Frag} (T : Tx K mg) (c : He.SaysD fa fn K) : C8.Cal P w K mg base 1 "agreed" (spR (cf P w K) R_agreed) [] := by
  obtain ⟨fd, F⟩ := c.def_ 33 (d := d_agreed) rfl
  exact cal_of F T.m_agreed (F.bindsN fun _ _ _ _ _ _ us hl => match us, hl with | [_, _, _], _ => rfl) (ok_of F sc_agreed (len_R fun ds P ⟨x, _, e, _⟩ => by rw [e]; rfl) (fun hr => dv_agreed T  hr) (pure_of (fun ds P ⟨x, _, e, _⟩ => by rw [e]; exact Nat.le_of_ble_eq_true rfl) (run_mk fun ⟨m, vs, r⟩ ⟨h1, h2, h3⟩ => (rn_agreed h1 h2 h3).imp fun o e => ⟨_, rfl, .inl e⟩)))
theorem cal_plain_assignments {P : Program} {w : World} {mg : Str → Option Value} {base : Heap} {K : PySem.W.Frag} (T : Tx K mg) (c : He.SaysD fa fn K) : C8.Cal P w K mg base 3 "plain_assignments" (spR (cf P w K) R_plain_assignments) [] := by
  obtain ⟨fd, F⟩ := c.def_ 34 (d := d_plain_assignments) rfl
  exact cal_of F T.m_plain_assignments (F.bindsN fun _ _ _ _ _ _ us hl => match us, hl with | [_, _], _ => rfl) (ok_of F sc_plain_assignments (len_R fun ds P ⟨x, _, e, _⟩ => by rw [e]; rfl) (fun hr => dv_plain_assignments T (cal_table_at T c) (cal_agreed T c) hr) (pure_of (fun ds P ⟨x, _, e, _⟩ => by rw [e]; exact Nat.le_of_ble_eq_true rfl) (run_mk fun x h => (rn_plain_assignments h).imp fun o e => ⟨_, rfl, .inl e⟩)))
theorem cal_plain_answers {P : Program} {w : World} {mg : Str → Option Value} {base : Heap} {K : PySem.W.Frag} (T : Tx K mg) (c : He.SaysD fa fn K) : C8.Cal P w K mg base 5 "plain_answers" (spR (cf P w K) R_plain_answers) [] := by
  obtain ⟨fd, F⟩ := c.def_ 35 (d := d_plain_answers) rfl
  exact cal_of F T.m_plain_answers (F.bindsN fun _ _ _ _ _ _ us hl => match us, hl with | [_, _], _ => rfl) (ok_of F sc_plain_answers (len_R fun ds P ⟨x, _, e, _⟩ => by rw [e]; rfl) (fun hr => dv_plain_answers T (cal_check_fit T c) (cal_plain_assignments T c) hr) (pure_of (fun ds P ⟨x, _, e, _⟩ => by rw [e]; exact Nat.le_of_ble_eq_true rfl) (run_mk fun x h => (rn_plain_answers h).imp fun o ⟨A, hA, e⟩ => ⟨_, ⟨A, hA, rfl⟩, .inl e⟩)))
theorem cal__law_table {P : Program} {w : World} {mg : Str → Option Value} {base : Heap} {K : PySem.W.Frag} (T : Tx K mg) (c : He.SaysD fa fn K) : C8.Cal P w K mg base 1 "_law_table" (spR (cf P w K) R__law_table) [] := by
  obtain ⟨fd, F⟩ := c.def_ 40 (d := d__law_table) rfl
  exact cal_of F T.m__law_table (F.bindsN fun _ _ _ _ _ _ us hl => match us, hl with | [_, _], _ => rfl) (ok_of F sc__law_table (len_R fun ds P ⟨x, _, e, _⟩ => by rw [e]; rfl) (fun hr => dv__law_table T  hr) (pure_of (fun ds P ⟨x, _, e, _⟩ => by rw [e]; exact Nat.le_of_ble_eq_true rfl) (run_mk fun ⟨C, t⟩ ⟨h1, h2⟩ => (rn__law_table h1 h2).imp fun o e => ⟨_, rfl, .inl e⟩)))
theorem cal__law_agrees {P : Program} {w : World} {mg : Str → Option Value} {base : Heap} {K : PySem.W.Frag} (T : Tx K mg) (c : He.SaysD fa fn K) : C8.Cal P w K mg base 1 "_law_agrees" (spR (cf P w K) R__law_agrees) [] := by
  obtain ⟨fd, F⟩ := c.def_ 43 (d := d__law_agrees) rfl
  exact cal_of F T.m__law_agrees (F.bindsN fun _ _ _ _ _ _ us hl => match us, hl with | [_, _, _], _ => rfl) (ok_of F sc__law_agrees (len_R fun ds P ⟨x, _, e, _⟩ => by rw [e]; rfl) (fun hr => dv__law_agrees T  hr) (pure_of (fun ds P ⟨x, _, e, _⟩ => by rw [e]; exact Nat.le_of_ble_eq_true rfl) (run_mk fun ⟨vs, r, m⟩ ⟨h1, h2⟩ => (rn__law_agrees h1 h2).imp fun o ⟨A, hA, e⟩ => ⟨_, ⟨A, hA, rfl⟩, .inl e⟩)))
theorem cal__law_partials {P : Program} {w : World} {mg : Str → Option Value} {base : Heap} {K : PySem.W.Frag} (T : Tx K mg) (c : He.SaysD fa fn K) : C8.Cal P w K mg base 2 "_law_partials" (spR (cf P w K) R__law_partials) [] := by
  obtain ⟨fd, F⟩ := c.def_ 44 (d := d__law_partials) rfl
  exact cal_of F T.m__law_partials (F.bindsN fun _ _ _ _ _ _ us hl => match us, hl with | [_, _, _], _ => rfl) (ok_of F sc__law_partials (len_R fun ds P ⟨x, _, e, _⟩ => by rw [e]; rfl) (fun hr => dv__law_partials T (cal__law_table T c) (cal__law_agrees T c) hr) (pure_of (fun ds P ⟨x, _, e, _⟩ => by rw [e]; exact Nat.le_of_ble_eq_true rfl) (run_mk fun ⟨C, p⟩ h => (rn__law_partials h).imp fun o ⟨A, B, h1, h2, e⟩ => ⟨_, ⟨A, B, h1, h2, rfl⟩, .inl e⟩)))
theorem cal__law_named {P : Program} {w : World} {mg : Str → Option Value} {base : Heap} {K : PySem.W.Frag} (T : Tx K mg) (c : He.SaysD fa fn K) : C8.Cal P w K mg base 1 "_law_named" (spR (cf P w K) R__law_named) [] := by
  obtain ⟨fd, F⟩ := c.def_ 46 (d := d__law_named) rfl
  exact cal_of F T.m__law_named (F.bindsN fun _ _ _ _ _ _ us hl => match us, hl with | [_, _], _ => rfl) (ok_of F sc__law_named (len_R fun ds P ⟨x, _, e, _⟩ => by rw [e]; rfl) (fun hr => dv__law_named T  hr) (pure_of (fun ds P ⟨x, _, e, _⟩ => by rw [e]; exact Nat.le_of_ble_eq_true rfl) (run_mk fun ⟨vs, r⟩ ⟨h1, h2, h3⟩ => (rn__law_named h1 h2 h3).imp fun o ⟨A, hA, e⟩ => ⟨_, ⟨A, hA, rfl⟩, .inl e⟩)))
theorem cal__law_assignments {P : Program} {w : World} {mg : Str → Option Value} {base : Heap} {K : PySem.W.Frag} (T : Tx K mg) (c : He.SaysD fa fn K) : C8.Cal P w K mg base 3 "_law_assignments" (spR (cf P w K) R__law_assignments) [] := by
  obtain ⟨fd, F⟩ := c.def_ 45 (d := d__law_assignments) rfl
  exact cal_of F T.m__law_assignments (F.bindsN fun _ _ _ _ _ _ us hl => match us, hl with | [_, _], _ => rfl) (ok_of F sc__law_assignments (len_R fun ds P ⟨x, _, e, _⟩ => by rw [e]; rfl) (fun hr => dv__law_assignments T (cal__law_variables T c) (cal__law_partials T c) (cal__law_named T c) hr) (pure_of (fun ds P ⟨x, _, e, _⟩ => by rw [e]; exact Nat.le_of_ble_eq_true rfl) (run_mk fun ⟨C, p⟩ h => (rn__law_assignments h).imp fun o ⟨A, hA, e⟩ => ⟨_, ⟨A, hA, rfl⟩, .inl e⟩)))
theorem cal__law_facts {P : Program} {w : World} {mg : Str → Option Value} {base : Heap} {K : PySem.W.Frag} (T : Tx K mg) (c : He.SaysD fa fn K) : C8.Cal P w K mg base 1 "_law_facts" (spR (cf P w K) R__law_facts) [] := by
  obtain ⟨fd, F⟩ := c.def_ 47 (d := d__law_facts) rfl
  exact cal_of F T.m__law_facts (F.bindsN fun _ _ _ _ _ _ us hl => match us, hl with | [_, _], _ => rfl) (ok_of F sc__law_facts (len_R fun ds P ⟨x, _, e, _⟩ => by rw [e]; rfl) (fun hr => dv__law_facts T  hr) (pure_of (fun ds P ⟨x, _, e, _⟩ => by rw [e]; exact Nat.le_of_ble_eq_true rfl) (run_mk fun ⟨⟨C, p⟩, m⟩ ⟨h1, h2⟩ => (rn__law_facts h1 h2).imp fun o e => ⟨_, rfl, .inl e⟩)))
theorem cal_Branch_agrees {P : Program} {w : World} {mg : Str → Option Value} {base : Heap} {K : PySem.W.Frag} (T : Tx K mg) (c : He.SaysD fa fn K) : C8.Met P w K mg base 1 (He.ga K "Branch") "agrees" (spR (cf P w K) R_Branch_agrees) [] := by
  obtain ⟨fd, F⟩ := c.def_ 20 (d := d_Branch_agrees) rfl
  exact met_of T.cl_Branch T.mt_Branch_agrees (F.bindsN fun _ _ _ _ _ _ us hl => match us, hl with | [_, _, _], _ => rfl) (ok_of F sc_Branch_agrees (len_R fun ds P ⟨x, _, e, _⟩ => by rw [e]; rfl) (fun hr => dv_Branch_agrees T  hr) (pure_of (fun ds P ⟨x, _, e, _⟩ => by rw [e]; exact Nat.le_of_ble_eq_true rfl) (run_mk fun ⟨⟨me, vs⟩, r⟩ ⟨h1, h2⟩ => (rn_Branch_agrees h1 h2).imp fun o e => ⟨_, rfl, .inl e⟩)))
theorem cal_Trie_put {P : Program} {w : World} {mg : Str → Option Value} {base : Heap} {K : PySem.W.Frag} (T : Tx K mg) (c : He.SaysD fa fn K) : C8.Met P w K mg base 1 (He.ga K "Trie") "put" (spPut (He.ga K "Trie")) [] := by
  obtain ⟨fd, F⟩ := c.def_ 14 (d := d_Trie_put) rfl
  exact met_of T.cl_Trie T.mt_Trie_put (F.bindsN fun _ _ _ _ _ _ us hl => match us, hl with | [_, _], _ => rfl) (ok_of F sc_Trie_put (fun vs H Q E ⟨_, _, _, _, e, _⟩ => by rw [e]; rfl) (fun hr => dv_Trie_put T  hr) (put_run (trk T)))
theorem cal_Trie_init {P : Program} {w : World} {mg : Str → Option Value} {base : Heap} {K : PySem.W.Frag} (T : Tx K mg) (c : He.SaysD fa fn K) : C8.Mak P w K mg base 2 "Trie" (He.ga K "Trie") (spI (cf P w K) (He.ga K "Trie") (R_Trie (He.ga K "Trie"))) [] := by
  obtain ⟨fd, F⟩ := c.def_ 13 (d := d_Trie_init) rfl
  exact mak_of T.mk_Trie T.m_Trie (F.bindsN fun _ _ _ _ _ _ us hl => match us, hl with | [_, _, _], _ => rfl) (ok_of F sc_Trie_init (len_I fun ds P ⟨x, _, e, _⟩ => by rw [e]; rfl) (fun hr => dv_Trie_init T (cal_Trie_put T c) hr) (init_Trie (trk T)))
theorem cal_Branch_init {P : Program} {w : World} {mg : Str → Option Value} {base : Heap} {K : PySem.W.Frag} (T : Tx K mg) (c : He.SaysD fa fn K) : C8.Mak P w K mg base 4 "Branch" (He.ga K "Branch") (spI (cf P w K) (He.ga K "Branch") (R_Branch (He.ga K "Branch") (He.ga K "Trie"))) [] := by
  obtain ⟨fd, F⟩ := c.def_ 19 (d := d_Branch_init) rfl
  exact mak_of T.mk_Branch T.m_Branch (F.bindsN fun _ _ _ _ _ _ us hl => match us, hl with | [_, _, _, _], _ => rfl) (ok_of F sc_Branch_init (len_I fun ds P ⟨x, _, e, _⟩ => by rw [e]; rfl) (fun hr => dv_Branch_init T (cal_table_at T c) (cal_Branch_agrees T c) (cal_Trie_init T c) hr) (init_Branch (brk T)))
theorem cal_Search_init {P : Program} {w : World} {mg : Str → Option Value} {base : Heap} {K : PySem.W.Frag} (T : Tx K mg) (c : He.SaysD fa fn K) : C8.Mak P w K mg base 6 "Search" (He.ga K "Search") (spI (cf P w K) (He.ga K "Search") (R_Search (He.ga K "Branch") (He.ga K "Trie") (He.ga K "Search"))) [] := by
  obtain ⟨fd, F⟩ := c.def_ 22 (d := d_Search_init) rfl
  exact mak_of T.mk_Search T.m_Search (F.bindsN fun _ _ _ _ _ _ us hl => match us, hl with | [_, _, _, _], _ => rfl) (ok_of F sc_Search_init (len_I fun ds P ⟨x, _, e, _⟩ => by rw [e]; rfl) (fun hr => dv_Search_init T (cal_Branch_init T c) hr) (init_Search (sek T) (brk T)))
theorem cal_Search_first_level {P : Program} {w : World} {mg : Str → Option Value} {base : Heap} {K : PySem.W.Frag} (T : Tx K mg) (c : He.SaysD fa fn K) : C8.Met P w K mg base 1 (He.ga K "Search") "first_level" (spR (cf P w K) (R_Search_first_level (He.ga K "Branch") (He.ga K "Trie") (He.ga K "Search"))) [] := by
  obtain ⟨fd, F⟩ := c.def_ 24 (d := d_Search_first_level) rfl
  exact met_of T.cl_Search T.mt_Search_first_level (F.bindsN fun _ _ _ _ _ _ us hl => match us, hl with | [_], _ => rfl) (ok_of F sc_Search_first_level (len_R fun ds P ⟨x, _, e, _⟩ => by rw [e]; rfl) (fun hr => dv_Search_first_level T  hr) (pure_of (fun ds P ⟨x, _, e, _⟩ => by rw [e]; exact Nat.le_of_ble_eq_true rfl) (run_mk fun ⟨n, bs⟩ _ => (rn_Search_first_level (sek T)).imp fun o e => ⟨_, rfl, .inl e⟩)))
theorem cal_Trie_node_at {P : Program} {w : World} {mg : Str → Option Value} {base : Heap} {K : PySem.W.Frag} (T : Tx K mg) (c : He.SaysD fa fn K) : C8.Met P w K mg base 1 (He.ga K "Trie") "node_at" (spR (cf P w K) (R_Trie_node_at (He.ga K "Trie"))) [] := by
  obtain ⟨fd, F⟩ := c.def_ 15 (d := d_Trie_node_at) rfl
  exact met_of T.cl_Trie T.mt_Trie_node_at (F.bindsN fun _ _ _ _ _ _ us hl => match us, hl with | [_, _], _ => rfl) (ok_of F sc_Trie_node_at (len_R fun ds P ⟨x, _, e, _⟩ => by rw [e]; rfl) (fun hr => dv_Trie_node_at T  hr) (pure_of (fun ds P ⟨x, _, e, _⟩ => by rw [e]; exact Nat.le_of_ble_eq_true rfl) (run_mk fun ⟨⟨A, n, dd⟩, q⟩ ⟨h1, h2, h3⟩ => (rn_Trie_node_at (trk T) h1 h2 h3).imp fun o ⟨d, hd, e⟩ => ⟨d, hd, .inl e⟩)))
theorem cal_Trie_children {P : Program} {w : World} {mg : Str → Option Value} {base : Heap} {K : PySem.W.Frag} (T : Tx K mg) (c : He.SaysD fa fn K) : C8.Met P w K mg base 2 (He.ga K "Trie") "children" (spR (cf P w K) (R_Trie_children (He.ga K "Trie"))) [] := by
  obtain ⟨fd, F⟩ := c.def_ 16 (d := d_Trie_children) rfl
  exact met_of T.cl_Trie T.mt_Trie_children (F.bindsN fun _ _ _ _ _ _ us hl => match us, hl with | [_, _], _ => rfl) (ok_of F sc_Trie_children (len_R fun ds P ⟨x, _, e, _⟩ => by rw [e]; rfl) (fun hr => dv_Trie_children T (cal_Trie_node_at T c) hr) (pure_of (fun ds P ⟨x, _, e, _⟩ => by rw [e]; exact Nat.le_of_ble_eq_true rfl) (run_mk fun ⟨⟨A, n, dd⟩, q⟩ ⟨h1, h2, h3⟩ => (rn_Trie_children (trk T) h1 h2 h3).imp fun o ⟨d, hd, e⟩ => ⟨d, hd, .inl e⟩)))
theorem cal_Branch_choices {P : Program} {w : World} {mg : Str → Option Value} {base : Heap} {K : PySem.W.Frag} (T : Tx K mg) (c : He.SaysD fa fn K) : C8.Met P w K mg base 3 (He.ga K "Branch") "choices" (spR (cf P w K) (R_Branch_choices (He.ga K "Branch") (He.ga K "Trie"))) [] := by
  obtain ⟨fd, F⟩ := c.def_ 21 (d := d_Branch_choices) rfl
  exact met_of T.cl_Branch T.mt_Branch_choices (F.bindsN fun _ _ _ _ _ _ us hl => match us, hl with | [_, _], _ => rfl) (ok_of F sc_Branch_choices (len_R fun ds P ⟨x, _, e, _⟩ => by rw [e]; rfl) (fun hr => dv_Branch_choices T (cal_Trie_children T c) hr) (pure_of (fun ds P ⟨x, _, e, _⟩ => by rw [e]; exact Nat.le_of_ble_eq_true rfl) (run_mk fun ⟨b, pre⟩ ⟨h1, h2⟩ => (rn_Branch_choices (brk T) h1 h2).imp fun o ⟨d, hd, e⟩ => ⟨d, hd, .inl e⟩)))
theorem cal_place_from {P : Program} {w : World} {mg : Str → Option Value} {base : Heap} {K : PySem.W.Frag} (T : Tx K mg) (c : He.SaysD fa fn K) : C8.Cal P w K mg base 1 "place_from" (spR (cf P w K) R_place_from) [] := by
  obtain ⟨fd, F⟩ := c.def_ 17 (d := d_place_from) rfl
  exact cal_of F T.m_place_from (F.bindsN fun _ _ _ _ _ _ us hl => match us, hl with | [_, _, _], _ => rfl) (ok_of F sc_place_from (len_R fun ds P ⟨x, _, e, _⟩ => by rw [e]; rfl) (fun hr => dv_place_from T  hr) (pure_of (fun ds P ⟨x, _, e, _⟩ => by rw [e]; exact Nat.le_of_ble_eq_true rfl) (run_mk fun ⟨r, s, n⟩ ⟨h1, h2, h3⟩ => (rn_place_from h1 h2 h3).imp fun o ⟨A, hA, e⟩ => ⟨_, ⟨A, hA, rfl⟩, .inl e⟩)))
theorem cal_common {P : Program} {w : World} {mg : Str → Option Value} {base : Heap} {K : PySem.W.Frag} (T : Tx K mg) (c : He.SaysD fa fn K) : C8.Cal P w K mg base 2 "common" (spR (cf P w K) R_common) [] := by
  obtain ⟨fd, F⟩ := c.def_ 18 (d := d_common) rfl
  exact cal_of F T.m_common (F.bindsN fun _ _ _ _ _ _ us hl => match us, hl with | [_], _ => rfl) (ok_of F sc_common (len_R fun ds P ⟨x, _, e, _⟩ => by rw [e]; rfl) (fun hr => dv_common T (cal_place_from T c) hr) (pure_of (fun ds P ⟨x, _, e, _⟩ => by rw [e]; exact Nat.le_of_ble_eq_true rfl) (run_mk fun r h => (rn_common h).imp fun o ⟨A, h1, h2, e⟩ => ⟨_, ⟨A, h1, h2, rfl⟩, .inl e⟩)))
theorem cal_Search_next_ones {P : Program} {w : World} {mg : Str → Option Value} {base : Heap} {K : PySem.W.Frag} (T : Tx K mg) (c : He.SaysD fa fn K) : C8.Met P w K mg base 4 (He.ga K "Search") "next_ones" (spR (cf P w K) (R_Search_next_ones (He.ga K "Branch") (He.ga K "Trie") (He.ga K "Search"))) [] := by
  obtain ⟨fd, F⟩ := c.def_ 23 (d := d_Search_next_ones) rfl
  exact met_of T.cl_Search T.mt_Search_next_ones (F.bindsN fun _ _ _ _ _ _ us hl => match us, hl with | [_, _], _ => rfl) (ok_of F sc_Search_next_ones (len_R fun ds P ⟨x, _, e, _⟩ => by rw [e]; rfl) (fun hr => dv_Search_next_ones T (cal_Branch_choices T c) (cal_common T c) hr) (pure_of (fun ds P ⟨x, _, e, _⟩ => by rw [e]; exact Nat.le_of_ble_eq_true rfl) (run_mk fun ⟨⟨n, bs⟩, pre⟩ ⟨h1, h2, h3⟩ => (rn_Search_next_ones (sek T) (brk T) h1 h2 h3).imp fun o ⟨d, hd, e⟩ => ⟨d, hd, .inl e⟩)))
theorem cal_Search_deeper {P : Program} {w : World} {mg : Str → Option Value} {base : Heap} {K : PySem.W.Frag} (T : Tx K mg) (c : He.SaysD fa fn K) : C8.Met P w K mg base 5 (He.ga K "Search") "deeper" (spR (cf P w K) (R_Search_deeper (He.ga K "Branch") (He.ga K "Trie") (He.ga K "Search"))) [] := by
  obtain ⟨fd, F⟩ := c.def_ 25 (d := d_Search_deeper) rfl
  exact met_of T.cl_Search T.mt_Search_deeper (F.bindsN fun _ _ _ _ _ _ us hl => match us, hl with | [_, _], _ => rfl) (ok_of F sc_Search_deeper (len_R fun ds P ⟨x, _, e, _⟩ => by rw [e]; rfl) (fun hr => dv_Search_deeper T (cal_Search_next_ones T c) hr) (pure_of (fun ds P ⟨x, _, e, _⟩ => by rw [e]; exact Nat.le_of_ble_eq_true rfl) (run_mk fun ⟨⟨n, bs⟩, k, L⟩ ⟨h1, h2, h3, h4, h5⟩ => (rn_Search_deeper h1 h2 h3 h4 h5).imp fun o ⟨d, hd, e⟩ => ⟨d, hd, .inl e⟩)))
theorem cal_joined {P : Program} {w : World} {mg : Str → Option Value} {base : Heap} {K : PySem.W.Frag} (T : Tx K mg) (c : He.SaysD fa fn K) : C8.Cal P w K mg base 8 "joined" (spR (cf P w K) R_joined) [] := by
  obtain ⟨fd, F⟩ := c.def_ 26 (d := d_joined) rfl
  exact cal_of F T.m_joined (F.bindsN fun _ _ _ _ _ _ us hl => match us, hl with | [_, _, _, _], _ => rfl) (ok_of F sc_joined (len_R fun ds P ⟨x, _, e, _⟩ => by rw [e]; rfl) (fun hr => dv_joined T (cal_Search_init T c) (cal_Search_first_level T c) (cal_Search_deeper T c) hr) (pure_of (fun ds P ⟨x, _, e, _⟩ => by rw [e]; exact Nat.le_of_ble_eq_true rfl) (run_mk fun ⟨C, p⟩ ⟨h1, h2⟩ => (rn_joined (CB := He.ga K "Branch") (CT := He.ga K "Trie") h1 h2).imp fun o ⟨d, hd, e⟩ => ⟨d, hd, .inl e⟩)))
theorem cal_witnesses {P : Program} {w : World} {mg : Str → Option Value} {base : Heap} {K : PySem.W.Frag} (T : Tx K mg) (c : He.SaysD fa fn K) : C8.Cal P w K mg base 9 "witnesses" (spR (cf P w K) R_witnesses) [] := by
  obtain ⟨fd, F⟩ := c.def_ 27 (d := d_witnesses) rfl
  exact cal_of F T.m_witnesses (F.bindsN fun _ _ _ _ _ _ us hl => match us, hl with | [_, _, _], _ => rfl) (ok_of F sc_witnesses (len_R fun ds P ⟨x, _, e, _⟩ => by rw [e]; rfl) (fun hr => dv_witnesses T (cal_check_fit T c) (cal_all_variables T c) (cal_joined T c) hr) (pure_of (fun ds P ⟨x, _, e, _⟩ => by rw [e]; exact Nat.le_of_ble_eq_true rfl) (run_mk fun ⟨⟨C, p⟩, a⟩ ⟨h1, h2⟩ => (rn_witnesses h1 h2).imp fun o ⟨d, hd, e⟩ => ⟨d, hd, .inl e⟩)))
theorem cal_facts_in {P : Program} {w : World} {mg : Str → Option Value} {base : Heap} {K : PySem.W.Frag} (T : Tx K mg) (c : He.SaysD fa fn K) : C8.Cal P w K mg base 1 "facts_in" (spR (cf P w K) R_facts_in) [] := by
  obtain ⟨fd, F⟩ := c.def_ 29 (d := d_facts_in) rfl
  exact cal_of F T.m_facts_in (F.bindsN fun _ _ _ _ _ _ us hl => match us, hl with | [_], _ => rfl) (ok_of F sc_facts_in (len_R fun ds P ⟨x, _, e, _⟩ => by rw [e]; rfl) (fun hr => dv_facts_in T  hr) (pure_of (fun ds P ⟨x, _, e, _⟩ => by rw [e]; exact Nat.le_of_ble_eq_true rfl) (run_mk fun W h => (rn_facts_in h).imp fun o e => ⟨_, rfl, .inl e⟩)))
theorem cal_choices {P : Program} {w : World} {mg : Str → Option Value} {base : Heap} {K : PySem.W.Frag} (T : Tx K mg) (c : He.SaysD fa fn K) : ∀ n : Nat, C8.Cal P w K mg base (n + 1) "choices" (spR (cf P w K) (R_ch n)) []
  | 0 => by
    obtain ⟨fd, F⟩ := c.def_ 30 (d := d_choices) rfl
    exact cal_of F T.m_choices (F.bindsN fun _ _ _ _ _ _ us hl => match us, hl with | [_, _], _ => rfl) (F.ok sc_choices (len_R fun ds P ⟨x, _, e, _⟩ => by rw [e]; rfl) fun _ _ _ _ _ vs Q E _ ⟨_, _, _, _, _, ⟨x, hx, _⟩, _⟩ => absurd hx.1 (Nat.not_lt_zero _))
  | n + 1 => by
    obtain ⟨fd, F⟩ := c.def_ 30 (d := d_choices) rfl
    exact cal_of F T.m_choices (F.bindsN fun _ _ _ _ _ _ us hl => match us, hl with | [_, _], _ => rfl) (ok_of F sc_choices (len_R fun ds P ⟨x, _, e, _⟩ => by rw [e]; rfl) (fun hr => dv_choices T (cal_choices T c n) hr) (pure_of (fun ds P ⟨x, _, e, _⟩ => by rw [e]; exact Nat.le_of_ble_eq_true rfl) (run_mk fun ⟨l, m⟩ ⟨h1, h2⟩ => (rn_choices h1 h2).imp fun o e => ⟨_, rfl, .inl e⟩)))
theorem cal_meets_all {P : Program} {w : World} {mg : Str → Option Value} {base : Heap} {K : PySem.W.Frag} (T : Tx K mg) (c : He.SaysD fa fn K) : C8.Cal P w K mg base 1 "meets_all" (spR (cf P w K) R_meets_all) [] := by
  obtain ⟨fd, F⟩ := c.def_ 28 (d := d_meets_all) rfl
  exact cal_of F T.m_meets_all (F.bindsN fun _ _ _ _ _ _ us hl => match us, hl with | [_, _], _ => rfl) (ok_of F sc_meets_all (len_R fun ds P ⟨x, _, e, _⟩ => by rw [e]; rfl) (fun hr => dv_meets_all T  hr) (pure_of (fun ds P ⟨x, _, e, _⟩ => by rw [e]; exact Nat.le_of_ble_eq_true rfl) (run_mk fun ⟨W, S⟩ ⟨h1, h2⟩ => (rn_meets_all h1 h2).imp fun o e => ⟨_, rfl, .inl e⟩)))
theorem cal_least_cut {P : Program} {w : World} {mg : Str → Option Value} {base : Heap} {K : PySem.W.Frag} (T : Tx K mg) (c : He.SaysD fa fn K) : C8.Cal P w K mg base 21 "least_cut" (spR (cf P w K) R_least_cut) [] := by
  obtain ⟨fd, F⟩ := c.def_ 31 (d := d_least_cut) rfl
  exact cal_of F T.m_least_cut (F.bindsN fun _ _ _ _ _ _ us hl => match us, hl with | [_, _, _], _ => rfl) (ok_of F sc_least_cut (len_R fun ds P ⟨x, _, e, _⟩ => by rw [e]; rfl) (fun hr => dv_least_cut T (cal_witnesses T c) (cal_facts_in T c) (cal_choices T c 19) (cal_meets_all T c) hr) (pure_of (fun ds P ⟨x, _, e, _⟩ => by rw [e]; exact Nat.le_of_ble_eq_true rfl) (run_mk fun ⟨⟨C, p⟩, a⟩ ⟨h1, h2⟩ => (rn_least_cut h1 h2).imp fun o ⟨A, B, h1, h2, e⟩ => ⟨_, ⟨A, B, h1, h2, rfl⟩, .inl e⟩)))
theorem cal__law_cut {P : Program} {w : World} {mg : Str → Option Value} {base : Heap} {K : PySem.W.Frag} (T : Tx K mg) (c : He.SaysD fa fn K) : C8.Cal P w K mg base 22 "_law_cut" (spR (cf P w K) R__law_cut) [] := by
  obtain ⟨fd, F⟩ := c.def_ 48 (d := d__law_cut) rfl
  exact cal_of F T.m__law_cut (F.bindsN fun _ _ _ _ _ _ us hl => match us, hl with | [_, _, _], _ => rfl) (ok_of F sc__law_cut (len_R fun ds P ⟨x, _, e, _⟩ => by rw [e]; rfl) (fun hr => dv__law_cut T (cal_least_cut T c) hr) (pure_of (fun ds P ⟨x, _, e, _⟩ => by rw [e]; exact Nat.le_of_ble_eq_true rfl) (run_mk fun ⟨⟨C, p⟩, a⟩ ⟨h1, h2⟩ => (rn__law_cut h1 h2).imp fun o ⟨A, B, h1, h2, e⟩ => ⟨_, ⟨A, B, h1, h2, rfl⟩, .inl e⟩)))
theorem cal_with_rows {P : Program} {w : World} {mg : Str → Option Value} {base : Heap} {K : PySem.W.Frag} (T : Tx K mg) (c : He.SaysD fa fn K) : C8.Cal P w K mg base 2 "with_rows" (spR (cf P w K) R_with_rows) [] := by
  obtain ⟨fd, F⟩ := c.def_ 7 (d := d_with_rows) rfl
  exact cal_of F T.m_with_rows (F.bindsN fun _ _ _ _ _ _ us hl => match us, hl with | [_, _, _], _ => rfl) (ok_of F sc_with_rows (len_R fun ds P ⟨x, _, e, _⟩ => by rw [e]; rfl) (fun hr => dv_with_rows T (cal_place_of T c) hr) (pure_of (fun ds P ⟨x, _, e, _⟩ => by rw [e]; exact Nat.le_of_ble_eq_true rfl) (run_mk fun ⟨C, t, rs⟩ ⟨h1, h2⟩ => (rn_with_rows h1 h2).imp fun o e => ⟨_, rfl, .inl e⟩)))
theorem cal_without_row {P : Program} {w : World} {mg : Str → Option Value} {base : Heap} {K : PySem.W.Frag} (T : Tx K mg) (c : He.SaysD fa fn K) : C8.Cal P w K mg base 4 "without_row" (spR (cf P w K) R_without_row) [] := by
  obtain ⟨fd, F⟩ := c.def_ 8 (d := d_without_row) rfl
  exact cal_of F T.m_without_row (F.bindsN fun _ _ _ _ _ _ us hl => match us, hl with | [_, _, _], _ => rfl) (ok_of F sc_without_row (len_R fun ds P ⟨x, _, e, _⟩ => by rw [e]; rfl) (fun hr => dv_without_row T (cal_check_catalogue T c) (cal_table_at T c) (cal_with_rows T c) hr) (pure_of (fun ds P ⟨x, _, e, _⟩ => by rw [e]; exact Nat.le_of_ble_eq_true rfl) (run_mk fun ⟨C, f⟩ ⟨h1, h2⟩ => (rn_without_row h1 h2).imp fun o e => ⟨_, rfl, .inl e⟩)))
theorem cal__law_gone {P : Program} {w : World} {mg : Str → Option Value} {base : Heap} {K : PySem.W.Frag} (T : Tx K mg) (c : He.SaysD fa fn K) : C8.Cal P w K mg base 6 "_law_gone" (spR (cf P w K) R__law_gone) [] := by
  obtain ⟨fd, F⟩ := c.def_ 49 (d := d__law_gone) rfl
  exact cal_of F T.m__law_gone (F.bindsN fun _ _ _ _ _ _ us hl => match us, hl with | [_, _, _, _], _ => rfl) (ok_of F sc__law_gone (len_R fun ds P ⟨x, _, e, _⟩ => by rw [e]; rfl) (fun hr => dv__law_gone T (cal_without_row T c) (cal_plain_answers T c) hr) (pure_of (fun ds P ⟨x, _, e, _⟩ => by rw [e]; exact Nat.le_of_ble_eq_true rfl) (run_mk fun ⟨⟨C, p⟩, a, S⟩ ⟨h1, h2⟩ => (rn__law_gone h1 h2).imp fun o ⟨A, hA, e⟩ => ⟨_, ⟨A, hA, rfl⟩, .inl e⟩)))
theorem cal__law_sets {P : Program} {w : World} {mg : Str → Option Value} {base : Heap} {K : PySem.W.Frag} (T : Tx K mg) (c : He.SaysD fa fn K) : C8.Cal P w K mg base 1 "_law_sets" (spR (cf P w K) R__law_sets) [] := by
  obtain ⟨fd, F⟩ := c.def_ 50 (d := d__law_sets) rfl
  exact cal_of F T.m__law_sets (F.bindsN fun _ _ _ _ _ _ us hl => match us, hl with | [_, _], _ => rfl) (ok_of F sc__law_sets (len_R fun ds P ⟨x, _, e, _⟩ => by rw [e]; rfl) (fun hr => dv__law_sets T  hr) (pure_of (fun ds P ⟨x, _, e, _⟩ => by rw [e]; exact Nat.le_of_ble_eq_true rfl) (run_mk fun ⟨l, n⟩ ⟨h1, h2⟩ => (rn__law_sets h1 h2).imp fun o ⟨A, h1, h2, e⟩ => ⟨_, ⟨A, h1, h2, rfl⟩, .inl e⟩)))
theorem cal_check_cut {P : Program} {w : World} {mg : Str → Option Value} {base : Heap} {K : PySem.W.Frag} (T : Tx K mg) (c : He.SaysD fa fn K) : C8.Cal P w K mg base 10 "check_cut" (spR (cf P w K) R_check_cut) [] := by
  obtain ⟨fd, F⟩ := c.def_ 32 (d := d_check_cut) rfl
  exact cal_of F T.m_check_cut (F.bindsN fun _ _ _ _ _ _ us hl => match us, hl with | [_, _, _, _], _ => rfl) (ok_of F sc_check_cut (len_R fun ds P ⟨x, _, e, _⟩ => by rw [e]; rfl) (fun hr => dv_check_cut T (cal_witnesses T c) (cal_ascend T c) (cal_table_at T c) (cal_meets_all T c) hr) (pure_of (fun ds P ⟨x, _, e, _⟩ => by rw [e]; exact Nat.le_of_ble_eq_true rfl) (run_mk fun ⟨⟨⟨C, p⟩, a⟩, S⟩ ⟨⟨h1, h2⟩, h3⟩ => (rn_check_cut h1 h2 h3).imp fun o ⟨A, hA, e⟩ => ⟨_, ⟨A, hA, rfl⟩, .inl e⟩)))
theorem ok_law {P : Program} {w : World} {mg : Str → Option Value} {K : PySem.W.Frag} (T : Tx K mg) (c : He.SaysD fa fn K) : ∃ fd : FuncData, (∀ (s : Shared) (v : Value), BindsTo s fd ⟨[v], []⟩ [("_law_script", v)]) ∧ ∀ base : Heap, FnOk P w K mg base C8.CX0 23 (He.ga K "law") fd ["_law_script"] (spLaw K) := by
  obtain ⟨fd, F⟩ := c.def_ 51 (d := d_law) rfl
  have b := FunD.bindsA (ps := ["_law_script"]) F fun _ _ _ _ _ _ us hl => match us, hl with | [_], _ => rfl
  exact ⟨fd, fun s v => b s [v] rfl, fun base => ok_of F sc_law (fun vs H Q E ⟨_, _, e, _⟩ => by rw [e]; rfl) (fun hr => dv_law T (cal__law_begin T c) (cal__law_catalogue T c) (cal__law_pattern T c) (cal_plain_answers T c) (cal__law_take T c) (cal__law_assignments T c) (cal__law_facts T c) (cal__law_cut T c) (cal__law_gone T c) (cal__law_sets T c) (cal_check_cut T c) hr) (pure_law (c := cf P w K))⟩
end JQ

-- part He0
set_option Elab.async false
set_option linter.all false
set_option maxRecDepth 100000
set_option maxHeartbeats 0
/-! The head: the run of the top (printed by mkhe.py). -/
namespace JQ
open PySem PySem.Spec PyProof.Rows L2
abbrev lawR : PySem.W.OpenRow := PySem.W.OpenLaw.row PySem.Challenge.rw_joinhall_k28_whole_least_cuts
def nmz0 : List Str := ["_wall", "HallError", "CatalogueError", "TooLarge", "UnknownTable", "RowError", "PatternError", "NoAnswer", "TABLE_LIMIT", "ROW_LIMIT", "COLUMN_LIMIT", "NUMBER_LIMIT", "NAME_LIMIT", "LETTERS", "NAME_SIGNS", "is_name", "right_row", "ascend", "right_table", "check_catalogue", "place_of", "table_at", "with_rows", "without_row", "ATOM_LIMIT", "VARIABLE_LIMIT", "PLACE_LIMIT", "all_variables", "right_atoms", "check_pattern"]
def nmz1 : List Str := ["check_fit", "Trie", "place_from", "common", "VISIT_LIMIT", "Branch", "Search", "joined", "FACT_LIMIT", "witnesses", "meets_all", "facts_in", "choices", "least_cut", "check_cut", "agreed", "plain_assignments", "plain_answers", "_law_begin", "_law_take", "_law_rows", "_law_catalogue", "_law_table", "_law_variables", "_law_pattern", "_law_agrees", "_law_partials", "_law_assignments", "_law_named", "_law_facts"]
def nmz2 : List Str := ["_law_cut", "_law_gone", "_law_sets"]
def names : List Str := nmz0 ++ nmz1 ++ nmz2
abbrev hkz : PySem.W.Hook := He.hookD 4 fa fn
def obz (s : PySem.W.SharedT) : He.AlD := He.obsDG 4 fa fn (HandSHeadRun.getT s)
theorem obz_eq (s : PySem.W.SharedT) : obz s = hkz.obs s.abs := He.obsDG_eq (HandSHeadRun.getT_eq s)
theorem top_run (w : World) : HandSHeadRun.RunEq lawR (PySem.W.view lawR.prog [71]) hkz obz 6000 names w := by
  intro os
  kernel_rfl
end JQ

-- part Wa
set_option Elab.async false
set_option linter.all false
set_option maxRecDepth 100000
set_option maxHeartbeats 0
open PySem PySem.W PySem.Calls PyProof.Rows
theorem PySem.Challenge.cw_joinhall_k28_whole_least_cuts_holds : PySem.Challenge.rw_joinhall_k28_whole_least_cuts.Holds := by
  w_on; o_law
  refine HandSHeadRun.head_any (r := OpenLaw.row PySem.Challenge.rw_joinhall_k28_whole_least_cuts) (q := view (OpenLaw.row PySem.Challenge.rw_joinhall_k28_whole_least_cuts).prog [71]) (H := JQ.hkz) (ob := JQ.obz) (M := 6000) (loose := JQ.names) (d := HandSHeadRun.topDef (OpenLaw.row PySem.Challenge.rw_joinhall_k28_whole_least_cuts).prog 71) (kwd := []) JQ.obz_eq
    (by kernel_rfl) (fun s => by kernel_rfl) JQ.top_run (by kernel_rfl) (by kernel_rfl) (by kernel_rfl) (by rfl) (by first | assumption | decide +kernel) (by decide +kernel) ⟨rfl, rfl, rfl, rfl, rfl, by decide +kernel⟩ ?hw ?hc
  case hw => w_witness2
  case hc =>
    refine L2.walk_ofE (l := PySem.Challenge.rw_joinhall_k28_whole_least_cuts) (n := 63) (k := 23) (x := "_law_script") (CX := C8.CX0) rfl (by decide) (by kernel_rfl) ⟨rfl, by decide, by decide⟩ ?F (fun _ _ _ _ z => z)
    intro w mg fa h Y G hmg0
    obtain ⟨K, KX, c⟩ := Y
    have T := JQ.tx_of KX G c
    have hmg : mg ("law" : PySem.Str) = some (.ref fa) := by
      have e : (HandSHeadRun.topDef (OpenLaw.row PySem.Challenge.rw_joinhall_k28_whole_least_cuts).prog 71).name = ("law" : PySem.Str) := by kernel_rfl
      rw [← e]
      exact hmg0
    have e := hmg.symm.trans T.m_law
    cases e
    obtain ⟨fd, hb, hF⟩ := JQ.ok_law (P := (PySem.Challenge.rw_joinhall_k28_whole_least_cuts).prog) (w := w) T c
    exact ⟨K, fd, JQ.spLaw K, KX, hb, fun H a ns hl _ hS => ⟨a, ns, rfl, hS, hl, fun _ => rfl⟩, fun base _ _ => hF base⟩
