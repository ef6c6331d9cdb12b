import PyProof.Rows.All
import Wide.All
import OpenK.AllK
import Wide.FinOn
import HandS.ForMost
import HandS.ForExc
import HandS.HeadHook1
import HandS.HeadHook2
import HandS.Deep
import HandS.TupAny
import HandS.TupLe
import HandS.IsInst
import HandS.Style
import HandS.Dict
import HandS.DictTup
import HandS.DictComp
import HandS.Conv
import HandS.CallSlots
import HandS.ExcOwn
import HandS.More
import HandS.Defaults
import HandS.Flow
import HandS.Comp
import HandS.SortRule
import HandS.SortInts
import HandS.TupLen
import HandS.WordsDict
import HandS.Head0
import HandS.Head1
import HandS.Head2
import HandS.HeadEnd
import HandS.WordsExc
import HandS.SlotsOwn
import OpenK.KMeth
import KE.SortData
import HandS.Codes
import HandS.Ends
import PySem.Challenge.RW_neverpenned_k46_landfast
set_option Elab.async false
set_option linter.all false
set_option maxRecDepth 100000
section
set_option maxHeartbeats 2000000
/-! A layer over the hand layer: values with tuples as data, a numbered store of lists, dicts and instances; every reading is a function of these. -/
namespace PD
open PySem PySem.Spec L2

inductive D where
  | non | bl (b : Bool) | int (i : Int) | str (s : Str) | tup (xs : List D) | wt (xs : List D) | wl (xs : List D) | ref (n : Nat) | rng (lo hi : Int) | glo (x : String) | ty (n : String)
inductive MO where
  | lst (xs : List D) | dT (kvs : List (List Key × D)) | dK (kvs : List (Key × D)) | ins (C : String) (fs : List (String × D))
abbrev M := List MO
abbrev DSt := List (Option D)
inductive Out (α : Type) where
  | ok (a : α) (m : M) | exc (c : String) (p : Option (String × D)) (m : M) | bad
def Out.bind {α β : Type} (o : Out α) (f : α → M → Out β) : Out β := match o with
  | .ok a m => f a m
  | .exc c p m => .exc c p m
  | .bad => .bad
@[simp] theorem bind_ok {α β : Type} {a : α} {m : M} {f : α → M → Out β} : (Out.ok a m).bind f = f a m := rfl
@[simp] theorem bind_exc {α β : Type} {c : String} {p : Option (String × D)} {m : M} {f : α → M → Out β} : (Out.exc c p m).bind f = .exc c p m := rfl
@[simp] theorem bind_bad {α β : Type} {f : α → M → Out β} : (Out.bad).bind f = .bad := rfl
abbrev DE := DSt → M → Out D

section
variable (K : PySem.W.Frag) (ρ : List Addr) (H : Hp)
mutual
def VR : D → V → Prop
  | .non, v => v = .non
  | .bl b, v => v = .bl b
  | .int i, v => v = .int i
  | .str s, v => v = .str s
  | .tup ds, v => ∃ a xs, v = .ref a ∧ H a = some (.tup xs) ∧ VRs ds xs
  | .wt ds, v => ∃ a xs, v = .ref a ∧ (∀ H' : Hp, SqT K H' a xs) ∧ VRs ds xs
  | .wl ds, v => ∃ a xs, v = .ref a ∧ ((∀ H' : Hp, SqL K H' a xs) ∨ ∃ o, H a = some (.frz o (.lst xs))) ∧ VRs ds xs
  | .ref n, v => ∃ a, v = .ref a ∧ ρ[n]? = some a
  | .rng lo hi, v => ∃ a, v = .ref a ∧ H a = some (.rng lo hi)
  | .glo x, v => v = .ref (He.ga K (Str.ofString x))
  | .ty n, v => v = .ty n
def VRs : List D → List V → Prop
  | [], xs => xs = []
  | d :: ds, xs => ∃ x r, xs = x :: r ∧ VR d x ∧ VRs ds r
end
/-- pairs of a key and a value -/
def KVs {κ : Type} : List (κ × D) → List (κ × V) → Prop
  | [], ys => ys = []
  | (k, d) :: r, ys => ∃ v ys', ys = (k, v) :: ys' ∧ VR K ρ H d v ∧ KVs r ys'
/-- fields by name -/
def FVs : List (String × D) → List (Str × V) → Prop
  | [], ys => ys = []
  | (f, d) :: r, ys => ∃ v ys', ys = (Str.ofString f, v) :: ys' ∧ VR K ρ H d v ∧ FVs r ys'
/-- what stands at an address -/
def OA (a : Addr) : MO → Prop
  | .lst ds => ∃ xs, H a = some (.lst xs) ∧ VRs K ρ H ds xs
  | .dT kvs => ∃ ks, H a = some (.dT ks) ∧ KVs K ρ H kvs ks
  | .dK kvs => ∃ ks, H a = some (.dK ks) ∧ KVs K ρ H kvs ks
  | .ins C fs => ∃ dx ys, H a = some (.ins (He.ga K (Str.ofString C)) dx ys) ∧ FVs K ρ H fs ys
structure HR (m : M) : Prop where
  len : ρ.length = m.length
  nd : ρ.Nodup
  ob : ∀ (i : Nat) (a : Addr) (o : MO), ρ[i]? = some a → m[i]? = some o → OA K ρ H a o
structure SR (σ : St) (δ : DSt) : Prop where
  len : σ.length = δ.length
  at_ : ∀ (i : Nat) (d : D), δ[i]? = some (some d) → ∃ v, σ[i]? = some (some v) ∧ VR K ρ H d v
end
theorem nodup_at {α : Type} : ∀ {l : List α} {i j : Nat} {a : α}, l.Nodup → l[i]? = some a → l[j]? = some a → i = j
  | [], _, _, _, _, h, _ => by simp at h
  | x :: l, 0, 0, _, _, _, _ => rfl
  | x :: l, 0, j + 1, a, n, h1, h2 => by
    simp at h1 h2
    subst h1
    exact absurd (List.mem_of_getElem? h2) (List.nodup_cons.mp n).1
  | x :: l, i + 1, 0, a, n, h1, h2 => by
    simp at h1 h2
    subst h2
    exact absurd (List.mem_of_getElem? h1) (List.nodup_cons.mp n).1
  | x :: l, i + 1, j + 1, a, n, h1, h2 => by
    simp at h1 h2
    exact congrArg Nat.succ (nodup_at (List.nodup_cons.mp n).2 h1 h2)
/-- from one state to a later one -/
structure Post (ρ : List Addr) (H : Hp) (ρ' : List Addr) (H' : Hp) : Prop where
  ext : ∃ l, ρ' = ρ ++ l
  fr : ∀ a o, H a = some o → a ∉ ρ → H' a = some o ∧ a ∉ ρ'
theorem Post.rfl' {ρ : List Addr} {H : Hp} : Post ρ H ρ H := ⟨⟨[], by simp⟩, fun a o e n => ⟨e, n⟩⟩
theorem Post.trans {ρ ρ1 ρ2 : List Addr} {H H1 H2 : Hp} (p : Post ρ H ρ1 H1) (q : Post ρ1 H1 ρ2 H2) : Post ρ H ρ2 H2 := by
  obtain ⟨l, e⟩ := p.ext
  obtain ⟨l', e'⟩ := q.ext
  refine ⟨⟨l ++ l', by rw [e', e, List.append_assoc]⟩, fun a o ea na => ?_⟩
  obtain ⟨h1, n1⟩ := p.fr a o ea na
  exact q.fr a o h1 n1
theorem Post.new {ρ : List Addr} {H : Hp} {p : Addr} {o : HO} (h : H p = none) : Post ρ H ρ (upd H p o) :=
  ⟨⟨[], by simp⟩, fun a u e n => ⟨by rw [upd_ne (ne_of_none e h)]; exact e, n⟩⟩
theorem Post.get {ρ ρ' : List Addr} {H H' : Hp} (p : Post ρ H ρ' H') {i : Nat} {a : Addr} (e : ρ[i]? = some a) : ρ'[i]? = some a := by
  obtain ⟨l, e'⟩ := p.ext
  rw [e', List.getElem?_append_left (List.getElem?_eq_some_iff.mp e).1]
  exact e
section
variable {K : PySem.W.Frag} {ρ ρ' : List Addr} {H H' : Hp} {m : M}
/-- what may stand at a numbered address -/
def Num : HO → Prop
  | .lst _ => True
  | .dT _ => True
  | .dK _ => True
  | .ins _ _ _ => True
  | _ => False
theorem OA.num {a : Addr} {o : MO} (h : OA K ρ H a o) : ∃ u, H a = some u ∧ Num u := by
  cases o with
  | lst ds => obtain ⟨ys, e, _⟩ := h; exact ⟨_, e, trivial⟩
  | dT ds => obtain ⟨ys, e, _⟩ := h; exact ⟨_, e, trivial⟩
  | dK ds => obtain ⟨ys, e, _⟩ := h; exact ⟨_, e, trivial⟩
  | ins C ds => obtain ⟨_, ys, e, _⟩ := h; exact ⟨_, e, trivial⟩
theorem HR.get (h : HR K ρ H m) {i : Nat} {a : Addr} (e : ρ[i]? = some a) : ∃ o, m[i]? = some o ∧ OA K ρ H a o := by
  have hi : i < m.length := by rw [← h.len]; exact (List.getElem?_eq_some_iff.mp e).1
  exact ⟨m[i], List.getElem?_eq_getElem hi, h.ob i a _ e (List.getElem?_eq_getElem hi)⟩
theorem HR.addr (h : HR K ρ H m) {i : Nat} {o : MO} (e : m[i]? = some o) : ∃ a, ρ[i]? = some a ∧ OA K ρ H a o := by
  have hi : i < ρ.length := by rw [h.len]; exact (List.getElem?_eq_some_iff.mp e).1
  exact ⟨ρ[i], List.getElem?_eq_getElem hi, h.ob i _ o (List.getElem?_eq_getElem hi) e⟩
theorem HR.off (h : HR K ρ H m) {a : Addr} {u : HO} (e : H a = some u) (n : ¬ Num u) : a ∉ ρ := fun hm => by
  obtain ⟨i, hi⟩ := List.mem_iff_getElem?.mp hm
  obtain ⟨o, _, q⟩ := h.get hi
  obtain ⟨w, e', q'⟩ := q.num
  rw [e] at e'
  cases e'
  exact n q'
theorem HR.offN (h : HR K ρ H m) {a : Addr} (e : H a = none) : a ∉ ρ := fun hm => by
  obtain ⟨i, hi⟩ := List.mem_iff_getElem?.mp hm
  obtain ⟨o, _, q⟩ := h.get hi
  obtain ⟨w, e', q'⟩ := q.num
  rw [e] at e'
  cases e'
/-- what values lean on -/
structure Leans (ρ : List Addr) (H : Hp) (ρ' : List Addr) (H' : Hp) : Prop where
  k : ∀ a u, H a = some u → ¬ Num u → H' a = some u
  g : ∀ (i : Nat) a, ρ[i]? = some a → ρ'[i]? = some a
theorem Post.leans (p : Post ρ H ρ' H') (h : HR K ρ H m) : Leans ρ H ρ' H' :=
  ⟨fun a u e n => (p.fr a _ e (h.off e n)).1, fun i a e => p.get e⟩
mutual
theorem VR.mono (l : Leans ρ H ρ' H') : ∀ (d : D) (v : V), VR K ρ H d v → VR K ρ' H' d v
  | .non, _, h => h
  | .bl _, _, h => h
  | .int _, _, h => h
  | .str _, _, h => h
  | .tup ds, _, ⟨a, xs, e, ha, hs⟩ => ⟨a, xs, e, l.k _ _ ha id, VRs.mono l ds xs hs⟩
  | .wt ds, _, ⟨a, xs, e, ha, hs⟩ => ⟨a, xs, e, ha, VRs.mono l ds xs hs⟩
  | .wl ds, _, ⟨a, xs, e, ha, hs⟩ => ⟨a, xs, e, ha.imp id fun ⟨o, h⟩ => ⟨o, l.k _ _ h id⟩, VRs.mono l ds xs hs⟩
  | .ref _, _, ⟨a, e, ha⟩ => ⟨a, e, l.g _ _ ha⟩
  | .rng _ _, _, ⟨a, e, ha⟩ => ⟨a, e, l.k _ _ ha id⟩
  | .glo _, _, h => h
  | .ty _, _, h => h
theorem VRs.mono (l : Leans ρ H ρ' H') : ∀ (ds : List D) (xs : List V), VRs K ρ H ds xs → VRs K ρ' H' ds xs
  | [], _, h => h
  | d :: ds, _, ⟨x, r, e, h1, h2⟩ => ⟨x, r, e, VR.mono l d x h1, VRs.mono l ds r h2⟩
end
theorem KVs.mono {κ : Type} (l : Leans ρ H ρ' H') : ∀ (ds : List (κ × D)) (xs : List (κ × V)), KVs K ρ H ds xs → KVs K ρ' H' ds xs
  | [], _, h => h
  | (k, d) :: ds, _, ⟨x, r, e, h1, h2⟩ => ⟨x, r, e, VR.mono l d x h1, KVs.mono l ds r h2⟩
theorem FVs.mono (l : Leans ρ H ρ' H') : ∀ (ds : List (String × D)) (xs : List (Str × V)), FVs K ρ H ds xs → FVs K ρ' H' ds xs
  | [], _, h => h
  | (k, d) :: ds, _, ⟨x, r, e, h1, h2⟩ => ⟨x, r, e, VR.mono l d x h1, FVs.mono l ds r h2⟩
theorem SR.mono {σ : St} {δ : DSt} (l : Leans ρ H ρ' H') (h : SR K ρ H σ δ) : SR K ρ' H' σ δ :=
  ⟨h.len, fun i d e => let ⟨v, e1, e2⟩ := h.at_ i d e; ⟨v, e1, VR.mono l d v e2⟩⟩
theorem VRs.length : ∀ {ds : List D} {xs : List V}, VRs K ρ H ds xs → ds.length = xs.length
  | [], _, h => by cases h; rfl
  | d :: ds, _, ⟨x, r, e, _, h2⟩ => by rw [e]; simp [VRs.length h2]
theorem VRs.get : ∀ {ds : List D} {xs : List V} {i : Nat} {d : D}, VRs K ρ H ds xs → ds[i]? = some d → ∃ v, xs[i]? = some v ∧ VR K ρ H d v
  | [], _, i, d, h, e => by simp at e
  | d :: ds, _, 0, d', ⟨x, r, e, h1, _⟩, e' => by
    simp at e'
    subst e'
    exact ⟨x, by rw [e]; rfl, h1⟩
  | d :: ds, _, i + 1, d', ⟨x, r, e, _, h2⟩, e' => by
    obtain ⟨v, e1, e2⟩ := VRs.get (i := i) (d := d') h2 (by simpa using e')
    exact ⟨v, by rw [e]; simpa using e1, e2⟩
theorem VRs.getV {ds : List D} {xs : List V} {i : Nat} {v : V} (h : VRs K ρ H ds xs) (e : xs[i]? = some v) : ∃ d, ds[i]? = some d ∧ VR K ρ H d v := by
  have hi : i < ds.length := by rw [h.length]; exact (List.getElem?_eq_some_iff.mp e).1
  obtain ⟨w, e1, e2⟩ := h.get (List.getElem?_eq_getElem hi)
  rw [e] at e1
  cases e1
  exact ⟨_, List.getElem?_eq_getElem hi, e2⟩
theorem VRs.append : ∀ {ds es : List D} {xs ys : List V}, VRs K ρ H ds xs → VRs K ρ H es ys → VRs K ρ H (ds ++ es) (xs ++ ys)
  | [], _, _, _, h, h' => by cases h; exact h'
  | d :: ds, _, _, _, ⟨x, r, e, h1, h2⟩, h' => by rw [e]; exact ⟨x, _, rfl, h1, VRs.append h2 h'⟩
theorem VRs.one {d : D} {v : V} (h : VR K ρ H d v) : VRs K ρ H [d] [v] := ⟨v, [], rfl, h, rfl⟩
theorem VRs.nil : VRs K ρ H [] [] := rfl
theorem VRs.cons {d : D} {v : V} {ds : List D} {xs : List V} (h : VR K ρ H d v) (h' : VRs K ρ H ds xs) : VRs K ρ H (d :: ds) (v :: xs) := ⟨v, xs, rfl, h, h'⟩
theorem VRs.take : ∀ {ds : List D} {xs : List V} (n : Nat), VRs K ρ H ds xs → VRs K ρ H (ds.take n) (xs.take n)
  | _, _, 0, _ => rfl
  | [], _, n + 1, h => by cases h; exact rfl
  | d :: ds, _, n + 1, ⟨x, r, e, h1, h2⟩ => by rw [e]; exact ⟨x, _, rfl, h1, VRs.take n h2⟩
theorem VRs.drop : ∀ {ds : List D} {xs : List V} (n : Nat), VRs K ρ H ds xs → VRs K ρ H (ds.drop n) (xs.drop n)
  | _, _, 0, h => h
  | [], _, n + 1, h => by cases h; exact rfl
  | d :: ds, _, n + 1, ⟨x, r, e, h1, h2⟩ => by rw [e]; exact VRs.drop n h2
theorem VRs.set : ∀ {ds : List D} {xs : List V} {d : D} {v : V} (i : Nat), VR K ρ H d v → VRs K ρ H ds xs → VRs K ρ H (ds.set i d) (xs.set i v)
  | [], _, _, _, _, _, h => by cases h; exact rfl
  | d :: ds, _, _, _, 0, hv, ⟨x, r, e, h1, h2⟩ => by rw [e]; exact ⟨_, r, rfl, hv, h2⟩
  | d :: ds, _, _, _, i + 1, hv, ⟨x, r, e, h1, h2⟩ => by rw [e]; exact ⟨x, _, rfl, h1, VRs.set i hv h2⟩
theorem VRs.reverse : ∀ {ds : List D} {xs : List V}, VRs K ρ H ds xs → VRs K ρ H ds.reverse xs.reverse
  | [], _, h => by cases h; exact rfl
  | d :: ds, _, ⟨x, r, e, h1, h2⟩ => by
    rw [e, List.reverse_cons, List.reverse_cons]
    exact VRs.append (VRs.reverse h2) (VRs.one h1)
theorem OA.mono (l : Leans ρ H ρ' H') {a : Addr} {o : MO} (e : H' a = H a) (h : OA K ρ H a o) : OA K ρ' H' a o := by
  cases o with
  | lst ds => obtain ⟨ys, e', q⟩ := h; exact ⟨ys, e.trans e', VRs.mono l _ _ q⟩
  | dT ds => obtain ⟨ys, e', q⟩ := h; exact ⟨ys, e.trans e', KVs.mono l _ _ q⟩
  | dK ds => obtain ⟨ys, e', q⟩ := h; exact ⟨ys, e.trans e', KVs.mono l _ _ q⟩
  | ins C ds => obtain ⟨dx, ys, e', q⟩ := h; exact ⟨dx, ys, e.trans e', FVs.mono l _ _ q⟩
/-- a new tuple, range, or other thing that has no number -/
theorem HR.aside (h : HR K ρ H m) {p : Addr} {u : HO} (hp : H p = none) : HR K ρ (upd H p u) m := by
  have l : Leans ρ H ρ (upd H p u) := ⟨fun a w e _ => by rw [upd_ne (ne_of_none e hp)]; exact e, fun _ _ e => e⟩
  refine ⟨h.len, h.nd, fun i a o e1 e2 => OA.mono l ?_ (h.ob i a o e1 e2)⟩
  have na : a ≠ p := fun z => h.offN hp (z ▸ List.mem_of_getElem? e1)
  exact upd_ne na
theorem leans_new {p : Addr} {u : HO} {l : List Addr} (hp : H p = none) : Leans ρ H (ρ ++ l) (upd H p u) :=
  ⟨fun a w e _ => by rw [upd_ne (ne_of_none e hp)]; exact e, fun i a e => by rw [List.getElem?_append_left (List.getElem?_eq_some_iff.mp e).1]; exact e⟩
/-- a new thing with a number -/
theorem HR.push (h : HR K ρ H m) {p : Addr} {u : HO} {o : MO} (hp : H p = none) (ho : OA K (ρ ++ [p]) (upd H p u) p o) : HR K (ρ ++ [p]) (upd H p u) (m ++ [o]) := by
  have l : Leans ρ H (ρ ++ [p]) (upd H p u) := leans_new hp
  have np := h.offN hp
  refine ⟨by simp [h.len], ?_, fun i a w e1 e2 => ?_⟩
  · rw [List.nodup_append]
    exact ⟨h.nd, by simp, fun a ha b hb => by simp at hb; subst hb; exact fun z => np (z ▸ ha)⟩
  · by_cases hi : i < ρ.length
    · rw [List.getElem?_append_left hi] at e1
      rw [List.getElem?_append_left (by rw [← h.len]; exact hi)] at e2
      have na : a ≠ p := fun z => np (z ▸ List.mem_of_getElem? e1)
      exact OA.mono l (upd_ne na) (h.ob i a w e1 e2)
    · have hz : i = ρ.length := by
        have := (List.getElem?_eq_some_iff.mp e1).1
        simp at this
        omega
      subst hz
      rw [List.getElem?_append_right (Nat.le_refl _)] at e1
      rw [h.len, List.getElem?_append_right (Nat.le_refl _)] at e2
      simp at e1 e2
      subst e1 e2
      exact ho
theorem HR.at_ (h : HR K ρ H m) {p : Addr} : (ρ ++ [p])[m.length]? = some p := by
  rw [← h.len, List.getElem?_append_right (Nat.le_refl _)]
  simp
theorem Post.push {p : Addr} {u : HO} (hp : H p = none) : Post ρ H (ρ ++ [p]) (upd H p u) :=
  ⟨⟨[p], rfl⟩, fun a w e n => ⟨by rw [upd_ne (ne_of_none e hp)]; exact e, by simp; exact ⟨n, ne_of_none e hp⟩⟩⟩
/-- a thing with a number changes -/
theorem HR.put (h : HR K ρ H m) {i : Nat} {p : Addr} {u : HO} {o : MO} (hp : ρ[i]? = some p) (ho : OA K ρ (upd H p u) p o) : HR K ρ (upd H p u) (m.set i o) := by
  have hi := (List.getElem?_eq_some_iff.mp hp).1
  obtain ⟨w0, _, q0⟩ := h.get hp
  obtain ⟨w1, e0, n0⟩ := q0.num
  have l : Leans ρ H ρ (upd H p u) := ⟨fun a w e n => by
    rw [upd_ne]
    · exact e
    · intro z
      subst z
      rw [e0] at e
      cases e
      exact n n0, fun _ _ e => e⟩
  refine ⟨by simp [h.len], h.nd, fun j a w e1 e2 => ?_⟩
  by_cases hj : j = i
  · subst hj
    rw [hp] at e1
    cases e1
    rw [List.getElem?_set_self (by rw [← h.len]; exact hi)] at e2
    cases e2
    exact ho
  · rw [List.getElem?_set_ne (Ne.symm hj)] at e2
    have na : a ≠ p := fun z => by
      subst z
      obtain ⟨h1, h2⟩ := List.getElem?_eq_some_iff.mp e1
      obtain ⟨h3, h4⟩ := List.getElem?_eq_some_iff.mp hp
      exact hj (nodup_at h.nd e1 hp)
    exact OA.mono l (upd_ne na) (h.ob j a w e1 e2)
theorem Leans.put (h : HR K ρ H m) {i : Nat} {p : Addr} {u : HO} (hp : ρ[i]? = some p) : Leans ρ H ρ (upd H p u) := by
  obtain ⟨w0, _, q0⟩ := h.get hp
  obtain ⟨w1, e0, n0⟩ := q0.num
  exact ⟨fun a w e n => by
    rw [upd_ne]
    · exact e
    · intro z
      subst z
      rw [e0] at e
      cases e
      exact n n0, fun _ _ e => e⟩
theorem Post.put {i : Nat} {p : Addr} {u : HO} (hp : ρ[i]? = some p) : Post ρ H ρ (upd H p u) :=
  ⟨⟨[], by simp⟩, fun a w e n => ⟨(upd_ne (fun z => n (by rw [z]; exact List.mem_of_getElem? hp))).trans e, n⟩⟩
end
end PD
end

section
set_option maxHeartbeats 2000000
/-! Readings as functions: expressions. -/
namespace PD
open PySem PySem.Spec L2

/-- an exception's dict -/
def XD (K : PySem.W.Frag) (ρ : List Addr) (H : Hp) : Option (String × D) → Option Addr → Prop
  | none, dd => dd = none
  | some (f, d), dd => ∃ a v, dd = some a ∧ H a = some (.xd [(Str.ofString f, v)]) ∧ VR K ρ H d v
section
variable (K : PySem.W.Frag)
def OG {α β : Type} (R : List Addr → Hp → α → β → Prop) (ρ : List Addr) (H : Hp) (o : Out α) (Q : β → Hp → Prop) (E : XK) : Prop := match o with
  | .ok a m' => ∀ (ρ' : List Addr) (b : β) (H' : Hp), Post ρ H ρ' H' → HR K ρ' H' m' → R ρ' H' a b → Q b H'
  | .exc c p m' => ∀ (ρ' : List Addr) (dd : Option Addr) (H' : Hp), Post ρ H ρ' H' → HR K ρ' H' m' → XD K ρ' H' p dd → E (.ref (He.ga K (Str.ofString c))) dd H'
  | .bad => False
def tG {α β : Type} (R : List Addr → Hp → α → β → Prop) (W : WX) (f : DSt → M → Out α) : L2.St → Hp → (β → Hp → Prop) → Prop := fun σ H Q =>
  ∃ (ρ : List Addr) (δ : DSt) (m : M), SR K ρ H σ δ ∧ HR K ρ H m ∧ OG K R ρ H (f δ m) Q fun c d H' => W c d σ H'
abbrev tD (W : WX) (f : DE) : TE := tG K (VR K) W f
abbrev tDA (W : WX) (f : DSt → M → Out (List D)) : TA := tG K (VRs K) W f
abbrev tDB (W : WX) (f : DSt → M → Out Bool) : TT := tG K (fun _ _ (a b : Bool) => a = b) W f
abbrev tDO (W : WX) (f : DSt → M → Out (Option Int)) : TO := tG K (fun _ _ (a b : Option Int) => a = b) W f
end
section
variable {K : PySem.W.Frag} {α β γ ε : Type} {R : List Addr → Hp → α → β → Prop} {R2 : List Addr → Hp → γ → ε → Prop} {ρ ρ' : List Addr} {H H' : Hp} {σ : L2.St} {δ : DSt} {m : M} {W : WX}
theorem OG.later {o : Out α} {Q : β → Hp → Prop} {E : XK} (p : Post ρ H ρ' H') (h : OG K R ρ H o Q E) : OG K R ρ' H' o Q E := by
  cases o with
  | ok a m' => exact fun ρ2 b H2 q r1 r2 => h ρ2 b H2 (p.trans q) r1 r2
  | exc c x m' => exact fun ρ2 b H2 q r1 r2 => h ρ2 b H2 (p.trans q) r1 r2
  | bad => exact h
theorem OG.imp {o : Out α} {Q Q' : β → Hp → Prop} {E : XK} (h : OG K R ρ H o Q E) (k : ∀ b H', Q b H' → Q' b H') : OG K R ρ H o Q' E := by
  cases o with
  | ok a m' => exact fun ρ2 b H2 q r1 r2 => k _ _ (h ρ2 b H2 q r1 r2)
  | exc c x m' => exact h
  | bad => exact h
/-- one part, then what follows -/
theorem OG.part {f : DSt → M → Out α} {g : α → M → Out γ} {Q : ε → Hp → Prop} {Q' : β → Hp → Prop} (sr : SR K ρ H σ δ) (hr : HR K ρ H m) (o : OG K R2 ρ H ((f δ m).bind g) Q fun c d H' => W c d σ H')
    (k : ∀ (a : α) (b : β) (ρ1 : List Addr) (H1 : Hp) (m1 : M), f δ m = .ok a m1 → Post ρ H ρ1 H1 → SR K ρ1 H1 σ δ → HR K ρ1 H1 m1 → R ρ1 H1 a b → OG K R2 ρ1 H1 (g a m1) Q (fun c d H' => W c d σ H') → Q' b H1) : tG K R W f σ H Q' := by
  refine ⟨ρ, δ, m, sr, hr, ?_⟩
  cases e : f δ m with
  | ok a m1 =>
    rw [e] at o
    exact fun ρ1 b H1 p hr1 r1 => k a b ρ1 H1 m1 e p (sr.mono (p.leans hr)) hr1 r1 (OG.later p o)
  | exc c x m1 =>
    rw [e] at o
    exact o
  | bad =>
    rw [e] at o
    exact o
theorem tG.of {f : DSt → M → Out α} {Q : β → Hp → Prop} (sr : SR K ρ H σ δ) (hr : HR K ρ H m) (o : OG K R ρ H (f δ m) Q fun c d H' => W c d σ H') : tG K R W f σ H Q := ⟨ρ, δ, m, sr, hr, o⟩
theorem OG.ok {a : α} {b : β} {Q : β → Hp → Prop} {E : XK} (h : OG K R ρ H (.ok a m) Q E) (hr : HR K ρ H m) (r : R ρ H a b) : Q b H := h ρ b H Post.rfl' hr r
end
theorem OG.guard {K : PySem.W.Frag} {α β : Type} {R : List Addr → Hp → α → β → Prop} {ρ : List Addr} {H : Hp} {c : Prop} [Decidable c] {o : Out α} {Q : β → Hp → Prop} {E : XK} (h : OG K R ρ H (if c then o else .bad) Q E) : c ∧ OG K R ρ H o Q E := by
  by_cases hc : c
  · rw [if_pos hc] at h
    exact ⟨hc, h⟩
  · rw [if_neg hc] at h
    exact h.elim
theorem PE.imp {X : Cx} {e : Expr} {t t' : TE} (h : PE X e t) (k : ∀ σ H Q, t' σ H Q → t σ H Q) : PE X e t' := ⟨fun pins s σ H Q I q => h.run pins s σ H Q I (k σ H Q q)⟩
theorem PT.imp {X : Cx} {e : Expr} {t t' : TT} (h : PT X e t) (k : ∀ σ H Q, t' σ H Q → t σ H Q) : PT X e t' := ⟨fun pins s σ H Q I q => h.run pins s σ H Q I (k σ H Q q)⟩
theorem PW.imp {X : Cx} {e : Expr} {t t' : TT} (h : PW X e t) (k : ∀ σ H Q, t' σ H Q → t σ H Q) : PW X e t' := ⟨fun w pins s σ H Q I q => h.run w pins s σ H Q I (k σ H Q q)⟩
theorem PA.imp {X : Cx} {e : List Expr} {t t' : TA} (h : PA X e t) (k : ∀ σ H Q, t' σ H Q → t σ H Q) : PA X e t' := ⟨fun w pins s σ H Q I q => h.run w pins s σ H Q I (k σ H Q q)⟩
theorem PO.imp {X : Cx} {e : Option Expr} {t t' : TO} (h : PO X e t) (k : ∀ σ H Q, t' σ H Q → t σ H Q) : PO X e t' := ⟨fun pins s σ H Q I q => h.run pins s σ H Q I (k σ H Q q)⟩
theorem PS.imp {X : Cx} {e : Stmt} {t t' : TS} (h : PS X e t) (k : ∀ D σ H, t' D σ H → t D σ H) : PS X e t' := ⟨fun pins s σ H D I q => h.run pins s σ H D I (k D σ H q)⟩
theorem PSs.imp {X : Cx} {e : List Stmt} {t t' : TS} (h : PSs X e t) (k : ∀ D σ H, t' D σ H → t D σ H) : PSs X e t' := ⟨fun pins s σ H D I q => h.run pins s σ H D I (k D σ H q)⟩
/-- pointwise in the slots -/
theorem PE.at {X : Cx} {e : Expr} {T : L2.St → TE} (h : ∀ σ, PE X e (T σ)) : PE X e (fun σ H Q => T σ σ H Q) := ⟨fun pins s σ H Q I q => (h σ).run pins s σ H Q I q⟩
/-- one of two -/
theorem PE.or {X : Cx} {e : Expr} {t u : TE} (h : PE X e t) (h' : PE X e u) : PE X e (fun σ H Q => t σ H Q ∨ u σ H Q) := ⟨fun pins s σ H Q I q => q.elim (h.run pins s σ H Q I) (h'.run pins s σ H Q I)⟩
theorem PT.or {X : Cx} {e : Expr} {t u : TT} (h : PT X e t) (h' : PT X e u) : PT X e (fun σ H Q => t σ H Q ∨ u σ H Q) := ⟨fun pins s σ H Q I q => q.elim (h.run pins s σ H Q I) (h'.run pins s σ H Q I)⟩

/-! ### names, constants -/
section
variable {X : Cx} {W : WX}
def dVar (i : Nat) : DE := fun δ m => match δ[i]? with
  | some (some d) => .ok d m
  | _ => .bad
def dC (d : D) : DE := fun _ m => .ok d m
theorem xe_var {i : Nat} {x : Str} {pos : Pos} (h : PE X (.Name x pos) (tVar i)) : PE X (.Name x pos) (tD X.K W (dVar i)) := by
  refine PE.imp h fun σ H Q ⟨ρ, δ, m, sr, hr, o⟩ => ?_
  unfold dVar at o
  cases e : δ[i]? with
  | none => rw [e] at o; exact o.elim
  | some z =>
    cases z with
    | none => rw [e] at o; exact o.elim
    | some d =>
      rw [e] at o
      obtain ⟨v, e1, e2⟩ := sr.at_ i d e
      exact ⟨v, e1, OG.ok o hr e2⟩
theorem xe_k {e : Expr} {v : V} {d : D} (h : PE X e (tC v)) (r : ∀ ρ H, VR X.K ρ H d v) : PE X e (tD X.K W (dC d)) :=
  PE.imp h fun σ H Q ⟨ρ, δ, m, sr, hr, o⟩ => OG.ok (a := d) o hr (r ρ H)
theorem xe_int {i j pos} : PE X (.Constant (.int i) j pos) (tD X.K W (dC (.int i))) := xe_k pe_int fun _ _ => rfl
theorem xe_bl {i j pos} : PE X (.Constant (.bool i) j pos) (tD X.K W (dC (.bl i))) := xe_k pe_bl fun _ _ => rfl
theorem xe_non {j pos} : PE X (.Constant .none j pos) (tD X.K W (dC .non)) := xe_k pe_non fun _ _ => rfl
theorem xe_str {i j pos} : PE X (.Constant (.str i) j pos) (tD X.K W (dC (.str i))) := xe_k pe_str fun _ _ => rfl
/-- a whole number, a text of the module -/
theorem xe_gint {x : Str} {pos : Pos} {i : Int} (hg : Gl X x) (hm : ∃ t, X.mg x = some (.int i t)) (hdb : (x == ("__debug__" : Str)) = false := by decide) : PE X (.Name x pos) (tD X.K W (dC (.int i))) := by
  obtain ⟨t, e⟩ := hm
  exact xe_k (v := .int i) (pe_glob hg e ⟨t, rfl⟩ hdb) fun _ _ => rfl
theorem xe_gstr {x : Str} {pos : Pos} {i : Str} (hg : Gl X x) (hm : ∃ t, X.mg x = some (.str i t)) (hdb : (x == ("__debug__" : Str)) = false := by decide) : PE X (.Name x pos) (tD X.K W (dC (.str i))) := by
  obtain ⟨t, e⟩ := hm
  exact xe_k (v := .str i) (pe_glob hg e ⟨t, rfl⟩ hdb) fun _ _ => rfl

/-! ### two-place operations -/
def d2 (op : D → D → M → Out D) (f g : DE) : DE := fun δ m => (f δ m).bind fun x m1 => (g δ m1).bind fun y m2 => op x y m2
/-- a rule of values does what the function says -/
def Does2 (X : Cx) (r : R2) (op : D → D → M → Out D) : Prop := ∀ (x y : D) (v u : V) (ρ : List Addr) (H : Hp) (m : M) (Q : VK) (E : XK), HR X.K ρ H m → VR X.K ρ H x v → VR X.K ρ H y u → OG X.K (VR X.K) ρ H (op x y m) Q E → r v u H Q
theorem tOp_d2 {r : R2} {op : D → D → M → Out D} {f g : DE} {σ : L2.St} {H : Hp} {Q : VK} (k : Does2 X r op) (h : tD X.K W (d2 op f g) σ H Q) : tOp r (tD X.K W f) (tD X.K W g) σ H Q := by
  obtain ⟨ρ, δ, m, sr, hr, o⟩ := h
  refine OG.part sr hr o fun x v ρ1 H1 m1 q1 p1 sr1 hr1 rx o1 => ?_
  refine OG.part sr1 hr1 o1 fun y u ρ2 H2 m2 q2 p2 sr2 hr2 ry o2 => ?_
  exact k x y v u ρ2 H2 m2 Q _ hr2 (VR.mono (p2.leans hr1) _ _ rx) ry o2
/-- two operands, the way chosen by what they are worth -/
theorem two_d2 {op : D → D → M → Out D} {f g : DE} {σ : L2.St} {H : Hp} {Q : VK} {Q2 : V → V → Hp → Prop} {ρ : List Addr} {δ : DSt} {m : M} (sr : SR X.K ρ H σ δ) (hr : HR X.K ρ H m) (o : OG X.K (VR X.K) ρ H (d2 op f g δ m) Q fun c d H' => W c d σ H')
    (k : ∀ (x y : D) (v u : V) (ρ2 : List Addr) (H2 : Hp) (m1 m2 : M), f δ m = .ok x m1 → g δ m1 = .ok y m2 → SR X.K ρ2 H2 σ δ → HR X.K ρ2 H2 m2 → VR X.K ρ2 H2 x v → VR X.K ρ2 H2 y u → OG X.K (VR X.K) ρ2 H2 (op x y m2) Q (fun c d H' => W c d σ H') → Q2 v u H2) :
    tD X.K W f σ H fun v H1 => tD X.K W g σ H1 fun u H2 => Q2 v u H2 := by
  refine OG.part sr hr o fun x v ρ1 H1 m1 q1 p1 sr1 hr1 rx o1 => ?_
  refine OG.part sr1 hr1 o1 fun y u ρ2 H2 m2 q2 p2 sr2 hr2 ry o2 => ?_
  exact k x y v u ρ2 H2 m1 m2 q1 q2 sr2 hr2 (VR.mono (p2.leans hr1) _ _ rx) ry o2
theorem xe_bin {r : R2} {op : D → D → M → Out D} {o : Operator} {a b : Expr} {f g : DE} {pos : Pos} (ho : OpR X (binaryOp o) r) (k : Does2 X r op) (pa : PE X a (tD X.K W f)) (pb : PE X b (tD X.K W g)) : PE X (.BinOp a o b pos) (tD X.K W (d2 op f g)) :=
  PE.imp (pe_op ho pa pb) fun _ _ _ h => tOp_d2 k h
theorem PC.imp {o : CmpOp} {a b : Expr} {t t' : TE} (h : PC X o a b t) (k : ∀ σ H Q, t' σ H Q → t σ H Q) : PC X o a b t' := ⟨fun pins s σ H Q I q => h.run pins s σ H Q I (k σ H Q q)⟩
theorem PC.or {o : CmpOp} {a b : Expr} {t u : TE} (h : PC X o a b t) (h' : PC X o a b u) : PC X o a b (fun σ H Q => t σ H Q ∨ u σ H Q) := ⟨fun pins s σ H Q I q => q.elim (h.run pins s σ H Q I) (h'.run pins s σ H Q I)⟩
theorem pc_op {r : R2} {o : CmpOp} {a b : Expr} {ta tb : TE} (ho : OpR X (compareOp o) r) (ha : PE X a ta) (hb : PE X b tb) : PC X o a b (tOp r ta tb) :=
  ⟨fun pins s σ H Q I h => bin ha hb I h fun v u s2 x y H2 I2 r1 r2 q => ho pins s2 σ H2 x y v u Q I2 r1 r2 q⟩
theorem xc_cmp {r : R2} {op : D → D → M → Out D} {o : CmpOp} {a b : Expr} {f g : DE} (ho : OpR X (compareOp o) r) (k : Does2 X r op) (pa : PE X a (tD X.K W f)) (pb : PE X b (tD X.K W g)) : PC X o a b (tD X.K W (d2 op f g)) :=
  PC.imp (pc_op ho pa pb) fun _ _ _ h => tOp_d2 k h
/-- a comparison as a value -/
theorem xe_c {o : CmpOp} {a b : Expr} {f : DE} {pos : Pos} (h : PC X o a b (tD X.K W f)) (hm : behindInMarks o b = false := by first | exact nomark _ | rfl) : PE X (.Compare a [o] [b] pos) (tD X.K W f) := pe_cmp h hm
end
end PD
end

section
set_option maxHeartbeats 2000000
/-! Operators as functions. -/
namespace PD
open PySem PySem.Spec L2

def cap : Nat := 1000000
theorem cap_line {n : Nat} (h : n ≤ cap) : n ≤ sizeLine := Nat.le_trans h (by rw [sizeLine_eq]; decide)
theorem cap_lt {n : Nat} (h : n < cap) : n < sizeLine := Nat.lt_of_lt_of_le h (by rw [sizeLine_eq]; decide)
/-- the list with a number -/
def lsAt (m : M) (n : Nat) : Option (List D) := match m[n]? with
  | some (.lst xs) => some xs
  | _ => none
/-- the items of a list or tuple -/
def itemsOf (x : D) (m : M) : Option (List D) := match x with
  | .tup xs => some xs
  | .wt xs => some xs
  | .wl xs => some xs
  | .ref n => lsAt m n
  | _ => none
section
variable {K : PySem.W.Frag} {ρ ρ' : List Addr} {H H' : Hp} {m : M}
theorem lsAt_ok {n : Nat} {xs : List D} (h : lsAt m n = some xs) : m[n]? = some (.lst xs) := by
  unfold lsAt at h
  split at h
  · next e => cases h; exact e
  · cases h
theorem lsAt_H (hr : HR K ρ H m) {n : Nat} {xs : List D} {v : V} (h : lsAt m n = some xs) (r : VR K ρ H (.ref n) v) : ∃ a ys, v = .ref a ∧ ρ[n]? = some a ∧ H a = some (.lst ys) ∧ VRs K ρ H xs ys := by
  obtain ⟨a, e, ea⟩ := r
  obtain ⟨ys, e1, e2⟩ := hr.ob n a _ ea (lsAt_ok h)
  exact ⟨a, ys, e, ea, e1, e2⟩
theorem items_H (hr : HR K ρ H m) {x : D} {xs : List D} {v : V} (h : itemsOf x m = some xs) (r : VR K ρ H x v) : ∃ a ys, v = .ref a ∧ (SqL K H a ys ∨ SqT K H a ys) ∧ VRs K ρ H xs ys := by
  cases x with
  | tup ds => cases h; obtain ⟨a, ys, e, ha, hs⟩ := r; exact ⟨a, ys, e, .inr (.inl (.inl ha)), hs⟩
  | wt ds => cases h; obtain ⟨a, ys, e, ha, hs⟩ := r; exact ⟨a, ys, e, .inr (ha H), hs⟩
  | wl ds =>
    cases h
    obtain ⟨a, ys, e, ha, hs⟩ := r
    exact ⟨a, ys, e, .inl (ha.elim (fun z => z H) fun ⟨o, z⟩ => .inl (.inr ⟨o, z⟩)), hs⟩
  | ref n =>
    obtain ⟨a, ys, e, _, e1, e2⟩ := lsAt_H hr h r
    exact ⟨a, ys, e, .inl (.inl (.inl e1)), e2⟩
  | _ => cases h
/-- a new list is handed on -/
theorem OG.newL {ds : List D} {xs : List V} {p : Addr} {Q : VK} {E : XK} (h : OG K (VR K) ρ H (.ok (.ref m.length) (m ++ [.lst ds])) Q E) (hr : HR K ρ H m) (hp : H p = none) (r : VRs K ρ H ds xs) : Q (.ref p) (upd H p (.lst xs)) :=
  h (ρ ++ [p]) (.ref p) _ (Post.push hp) (hr.push hp ⟨xs, upd_same, VRs.mono (leans_new hp) _ _ r⟩) ⟨p, rfl, hr.at_⟩
/-- a new tuple -/
theorem OG.newT {ds : List D} {xs : List V} {p : Addr} {Q : VK} {E : XK} (h : OG K (VR K) ρ H (.ok (.tup ds) m) Q E) (hr : HR K ρ H m) (hp : H p = none) (r : VRs K ρ H ds xs) : Q (.ref p) (upd H p (.tup xs)) :=
  h ρ (.ref p) _ (Post.new hp) (hr.aside hp) ⟨p, xs, rfl, upd_same, VRs.mono (by simpa using leans_new (l := []) hp) _ _ r⟩
end

/-! ### ints -/
def dInt2 (g : Int → Int → D) : D → D → M → Out D
  | .int i, .int j, m => .ok (g i j) m
  | _, _, _ => .bad
def dInt2c (C : Int → Int → Bool) (g : Int → Int → D) : D → D → M → Out D
  | .int i, .int j, m => if C i j = true then .ok (g i j) m else .bad
  | _, _, _ => .bad
theorem does_int2 {X : Cx} {g : Int → Int → D} {g' : Int → Int → V} (hg : ∀ i j ρ H, VR X.K ρ H (g i j) (g' i j)) : Does2 X (rI0 g') (dInt2 g) := by
  intro x y v u ρ H m Q E hr rx ry o
  cases x with
  | int i => cases y with
    | int j =>
      cases rx
      cases ry
      exact ⟨i, j, rfl, rfl, OG.ok o hr (hg i j ρ H)⟩
    | _ => exact o.elim
  | _ => exact o.elim
theorem does_int2c {X : Cx} {C : Int → Int → Bool} {C' : Int → Int → Prop} {g : Int → Int → D} {g' : Int → Int → V} (hC : ∀ i j, C i j = true → C' i j) (hg : ∀ i j ρ H, VR X.K ρ H (g i j) (g' i j)) : Does2 X (rI C' g') (dInt2c C g) := by
  intro x y v u ρ H m Q E hr rx ry o
  cases x with
  | int i => cases y with
    | int j =>
      cases rx
      cases ry
      by_cases c : C i j = true
      · refine ⟨i, j, rfl, rfl, hC i j c, ?_⟩
        have o' : OG X.K (VR X.K) ρ H (if C i j = true then .ok (g i j) m else .bad) Q E := o
        rw [if_pos c] at o'
        exact OG.ok o' hr (hg i j ρ H)
      · have o' : OG X.K (VR X.K) ρ H (if C i j = true then .ok (g i j) m else .bad) Q E := o
        rw [if_neg c] at o'
        exact o'.elim
    | _ => exact o.elim
  | _ => exact o.elim
/-! ### + -/
def dAdd : D → D → M → Out D
  | .int i, .int j, m => .ok (.int (i + j)) m
  | .str s, .str t, m => if s.length + t.length ≤ cap then .ok (.str (s ++ t)) m else .bad
  | .ref a, .ref b, m => match lsAt m a, lsAt m b with
    | some xs, some ys => if xs.length + ys.length ≤ cap then .ok (.ref m.length) (m ++ [.lst (xs ++ ys)]) else .bad
    | _, _ => .bad
  | .tup xs, .tup ys, m => if xs.length + ys.length ≤ cap then .ok (.tup (xs ++ ys)) m else .bad
  | _, _, _ => .bad
def rAddD (K : PySem.W.Frag) : R2 := fun x y H Q => rI0 (fun i j => .int (i + j)) x y H Q ∨ (∃ i j, x = .str i ∧ y = .str j ∧ i.length + j.length ≤ sizeLine ∧ Q (.str (i ++ j)) H) ∨ rCat x y H Q ∨ rCatA K x y H Q
theorem op_addD {X : Cx} : OpR X (binaryOp .Add) (rAddD X.K) := OpR.or op_add (OpR.or op_add_str (OpR.or op_cat op_catA))
theorem does_add {X : Cx} : Does2 X (rAddD X.K) dAdd := by
  intro x y v u ρ H m Q E hr rx ry o
  cases x with
  | int i => cases y with
    | int j => cases rx; cases ry; exact .inl ⟨i, j, rfl, rfl, OG.ok o hr rfl⟩
    | _ => exact o.elim
  | str s => cases y with
    | str t =>
      cases rx; cases ry
      have o' : OG X.K (VR X.K) ρ H (if s.length + t.length ≤ cap then .ok (.str (s ++ t)) m else .bad) Q E := o
      by_cases c : s.length + t.length ≤ cap
      · rw [if_pos c] at o'
        exact .inr (.inl ⟨s, t, rfl, rfl, cap_line c, OG.ok o' hr rfl⟩)
      · rw [if_neg c] at o'
        exact o'.elim
    | _ => exact o.elim
  | ref a => cases y with
    | ref b =>
      have o' : OG X.K (VR X.K) ρ H (match lsAt m a, lsAt m b with
        | some xs, some ys => if xs.length + ys.length ≤ cap then .ok (.ref m.length) (m ++ [.lst (xs ++ ys)]) else .bad
        | _, _ => .bad) Q E := o
      cases ea : lsAt m a with
      | none => rw [ea] at o'; exact o'.elim
      | some xs =>
        cases eb : lsAt m b with
        | none => rw [ea, eb] at o'; exact o'.elim
        | some ys =>
          rw [ea, eb] at o'
          by_cases c : xs.length + ys.length ≤ cap
          · have o2 : OG X.K (VR X.K) ρ H (if xs.length + ys.length ≤ cap then .ok (.ref m.length) (m ++ [.lst (xs ++ ys)]) else .bad) Q E := o'
            rw [if_pos c] at o2
            obtain ⟨p, us, e1, _, e2, e3⟩ := lsAt_H hr ea rx
            obtain ⟨q, ws, f1, _, f2, f3⟩ := lsAt_H hr eb ry
            refine .inr (.inr (.inl ⟨p, q, us, ws, e1, f1, e2, f2, cap_line (by rw [← e3.length, ← f3.length]; exact c), fun z hz => OG.newL o2 hr hz (e3.append f3)⟩))
          · have o2 : OG X.K (VR X.K) ρ H (if xs.length + ys.length ≤ cap then .ok (.ref m.length) (m ++ [.lst (xs ++ ys)]) else .bad) Q E := o'
            rw [if_neg c] at o2
            exact o2.elim
    | _ => exact o.elim
  | tup xs => cases y with
    | tup ys =>
      have o' : OG X.K (VR X.K) ρ H (if xs.length + ys.length ≤ cap then .ok (.tup (xs ++ ys)) m else .bad) Q E := o
      by_cases c : xs.length + ys.length ≤ cap
      · rw [if_pos c] at o'
        obtain ⟨a, us, e1, e2, e3⟩ := id rx
        obtain ⟨b, ws, f1, f2, f3⟩ := id ry
        refine .inr (.inr (.inr ⟨a, b, us, ws, e1, f1, .inl (.inl e2), .inl (.inl f2), cap_line (by rw [← e3.length, ← f3.length]; exact c), fun z => ?_, fun z1 z2 => ?_, fun z1 z2 p hp => OG.newT o' hr hp (e3.append f3)⟩))
        · subst z
          have : xs = [] := List.eq_nil_of_length_eq_zero (by rw [e3.length]; rfl)
          subst this
          subst f1
          exact OG.ok (a := D.tup ([] ++ ys)) o' hr ry
        · subst z2
          have : ys = [] := List.eq_nil_of_length_eq_zero (by rw [f3.length]; rfl)
          subst this
          subst e1
          rw [List.append_nil] at o'
          exact OG.ok (a := D.tup xs) o' hr rx
      · rw [if_neg c] at o'
        exact o'.elim
    | _ => exact o.elim
  | _ => exact o.elim
section
variable {X : Cx} {W : WX} {a b : Expr} {f g : DE} {pos : Pos}
theorem xe_add (pa : PE X a (tD X.K W f)) (pb : PE X b (tD X.K W g)) : PE X (.BinOp a .Add b pos) (tD X.K W (d2 dAdd f g)) := xe_bin op_addD does_add pa pb
abbrev dSub : D → D → M → Out D := dInt2 fun i j => .int (i - j)
theorem xe_sub (pa : PE X a (tD X.K W f)) (pb : PE X b (tD X.K W g)) : PE X (.BinOp a .Sub b pos) (tD X.K W (d2 dSub f g)) := xe_bin op_sub (does_int2 fun _ _ _ _ => rfl) pa pb
abbrev dLt : D → D → M → Out D := dInt2 fun i j => .bl (decide (i < j))
abbrev dLe : D → D → M → Out D := dInt2 fun i j => .bl (decide (i ≤ j))
abbrev dGt : D → D → M → Out D := dInt2 fun i j => .bl (decide (j < i))
abbrev dGe : D → D → M → Out D := dInt2 fun i j => .bl (decide (j ≤ i))
theorem xc_lt (pa : PE X a (tD X.K W f)) (pb : PE X b (tD X.K W g)) : PC X .Lt a b (tD X.K W (d2 dLt f g)) := xc_cmp op_lt (does_int2 fun _ _ _ _ => rfl) pa pb
theorem xc_le (pa : PE X a (tD X.K W f)) (pb : PE X b (tD X.K W g)) : PC X .LtE a b (tD X.K W (d2 dLe f g)) := xc_cmp op_le (does_int2 fun _ _ _ _ => rfl) pa pb
theorem xc_gt (pa : PE X a (tD X.K W f)) (pb : PE X b (tD X.K W g)) : PC X .Gt a b (tD X.K W (d2 dGt f g)) := xc_cmp op_gt (does_int2 fun _ _ _ _ => rfl) pa pb
theorem xc_ge (pa : PE X a (tD X.K W f)) (pb : PE X b (tD X.K W g)) : PC X .GtE a b (tD X.K W (d2 dGe f g)) := xc_cmp op_ge (does_int2 fun _ _ _ _ => rfl) pa pb
/-- floor division and remainder by a positive number below 2 ^ 30 -/
abbrev dFdiv : D → D → M → Out D := dInt2c (fun _ j => decide (0 < j ∧ j < 1073741824)) fun i j => .int (i / j)
abbrev dMod : D → D → M → Out D := dInt2c (fun _ j => decide (0 < j)) fun i j => .int (i % j)
def smallI (i : Int) : Bool := decide (-1000000000000 < i) && decide (i < 1000000000000)
theorem smallI_ok {i : Int} (h : smallI i = true) : -(2 ^ 64) < i ∧ i < 2 ^ 64 := by
  unfold smallI at h
  rw [Bool.and_eq_true, decide_eq_true_iff, decide_eq_true_iff] at h
  exact ⟨Int.lt_trans (by decide) h.1, Int.lt_trans h.2 (by decide)⟩
abbrev dMul : D → D → M → Out D := dInt2c (fun i j => smallI i || smallI j) fun i j => .int (i * j)
theorem xe_fdiv (pa : PE X a (tD X.K W f)) (pb : PE X b (tD X.K W g)) : PE X (.BinOp a .FloorDiv b pos) (tD X.K W (d2 dFdiv f g)) := xe_bin op_fdiv (does_int2c (fun i j h => show 0 < j ∧ j < 1073741824 from of_decide_eq_true h) fun _ _ _ _ => rfl) pa pb
theorem xe_mod (pa : PE X a (tD X.K W f)) (pb : PE X b (tD X.K W g)) : PE X (.BinOp a .Mod b pos) (tD X.K W (d2 dMod f g)) := xe_bin op_mod (does_int2c (fun i j h => of_decide_eq_true h) fun _ _ _ _ => rfl) pa pb
theorem xe_mul (pa : PE X a (tD X.K W f)) (pb : PE X b (tD X.K W g)) : PE X (.BinOp a .Mult b pos) (tD X.K W (d2 dMul f g)) := xe_bin op_mul (does_int2c (fun i j h => show (-(2 ^ 64) < i ∧ i < 2 ^ 64) ∨ (-(2 ^ 64) < j ∧ j < 2 ^ 64) from (Bool.or_eq_true_iff.mp h).imp smallI_ok smallI_ok) fun _ _ _ _ => rfl) pa pb
def d1 (op : D → M → Out D) (f : DE) : DE := fun δ m => (f δ m).bind op
def dNeg : D → M → Out D
  | .int i, m => .ok (.int (-i)) m
  | _, _ => .bad
theorem xe_neg (pa : PE X a (tD X.K W f)) : PE X (.UnaryOp .USub a pos) (tD X.K W (d1 dNeg f)) := by
  refine PE.imp (pe_un un_neg pa) fun σ H Q ⟨ρ, δ, m, sr, hr, o⟩ => ?_
  refine OG.part sr hr o fun x v ρ1 H1 m1 q1 p1 sr1 hr1 rx o1 => ?_
  cases x with
  | int i => cases rx; exact ⟨i, rfl, OG.ok o1 hr1 rfl⟩
  | _ => exact o1.elim
end
end PD
end

section
set_option maxHeartbeats 2000000
/-! Identity, equality, membership, truth. -/
namespace PD
open PySem PySem.Spec L2

/-! ### is, is not (None, True, False) -/
def sameC : D → D → Option Bool
  | .non, .non => some true
  | .bl a, .bl b => some (a == b)
  | _, .non => some false
  | _, .bl _ => some false
  | _, _ => none
def dIs (x y : D) (m : M) : Out D := match sameC x y with
  | some b => .ok (.bl b) m
  | none => .bad
def dIsNot (x y : D) (m : M) : Out D := match sameC x y with
  | some b => .ok (.bl (!b)) m
  | none => .bad
def rIsC (neg : Bool) : R2 := fun x y H Q => (y = .non ∨ ∃ b, y = .bl b) ∧ Q (.bl (if neg then !decide (x = y) else decide (x = y))) H
theorem plain_c {x y : V} {v u : Value} (hy : y = .non ∨ ∃ b, y = .bl b) (rx : RelV x v) (ry : RelV y u) : plainIs v u = true ∧ (v == u) = decide (x = y) := by
  rcases hy with rfl | ⟨b, rfl⟩
  · cases ry
    cases x <;> first
      | (cases rx; exact ⟨rfl, by simp⟩)
      | (obtain ⟨t, rfl⟩ := rx; exact ⟨rfl, by simp⟩)
  · cases ry
    cases x <;> first
      | (cases rx; rename_i c; exact ⟨rfl, by cases c <;> cases b <;> rfl⟩)
      | (cases rx; exact ⟨rfl, by simp⟩)
      | (obtain ⟨t, rfl⟩ := rx; exact ⟨rfl, by simp⟩)
theorem op_isC {X : Cx} : OpR X (compareOp .Is) (rIsC false) := by
  intro pins s σ H x y v u Q I rx ry h
  obtain ⟨hy, q⟩ := h
  obtain ⟨h1, h2⟩ := plain_c hy rx ry
  exact wpAny_is_plain h1 ⟨.bl (v == u), H, I, rfl, by rw [h2]; exact q⟩
theorem op_isNotC {X : Cx} : OpR X (compareOp .IsNot) (rIsC true) := by
  intro pins s σ H x y v u Q I rx ry h
  obtain ⟨hy, q⟩ := h
  obtain ⟨h1, h2⟩ := plain_c hy rx ry
  exact wpAny_isNot_plain h1 ⟨.bl (!(v == u)), H, I, rfl, by rw [h2]; exact q⟩
theorem VR.notC {K : PySem.W.Frag} {ρ : List Addr} {H : Hp} {x : D} {v : V} (r : VR K ρ H x v) : (v = .non → x = .non) ∧ ∀ c, v = .bl c → x = .bl c := by
  cases x with
  | non => cases r; exact ⟨fun _ => rfl, nofun⟩
  | bl b => cases r; exact ⟨nofun, fun c h => (by cases h; rfl)⟩
  | int i => cases r; exact ⟨nofun, nofun⟩
  | str i => cases r; exact ⟨nofun, nofun⟩
  | tup i => obtain ⟨a, xs, rfl, _⟩ := r; exact ⟨nofun, nofun⟩
  | wt i => obtain ⟨a, xs, rfl, _⟩ := r; exact ⟨nofun, nofun⟩
  | wl i => obtain ⟨a, xs, rfl, _⟩ := r; exact ⟨nofun, nofun⟩
  | ref i => obtain ⟨a, rfl, _⟩ := r; exact ⟨nofun, nofun⟩
  | rng i j => obtain ⟨a, rfl, _⟩ := r; exact ⟨nofun, nofun⟩
  | glo i => cases r; exact ⟨nofun, nofun⟩
  | ty i => cases r; exact ⟨nofun, nofun⟩
theorem sameC_ok {K : PySem.W.Frag} {ρ : List Addr} {H : Hp} {x y : D} {v u : V} {b : Bool} (h : sameC x y = some b) (rx : VR K ρ H x v) (ry : VR K ρ H y u) : (u = .non ∨ ∃ c, u = .bl c) ∧ decide (v = u) = b := by
  obtain ⟨n1, n2⟩ := rx.notC
  cases y with
  | non =>
    cases ry
    refine ⟨.inl rfl, ?_⟩
    cases x with
    | non => cases rx; cases h; rfl
    | _ =>
      cases h
      exact decide_eq_false fun z => by cases n1 z
  | bl c =>
    cases ry
    refine ⟨.inr ⟨c, rfl⟩, ?_⟩
    cases x with
    | bl a => cases rx; cases h; cases a <;> cases c <;> rfl
    | _ =>
      cases h
      exact decide_eq_false fun z => by cases n2 c z
  | _ => cases x <;> cases h
theorem does_is {X : Cx} : Does2 X (rIsC false) dIs := by
  intro x y v u ρ H m Q E hr rx ry o
  unfold dIs at o
  cases e : sameC x y with
  | none => rw [e] at o; exact o.elim
  | some b =>
    rw [e] at o
    obtain ⟨h1, h2⟩ := sameC_ok e rx ry
    refine ⟨h1, ?_⟩
    show Q (.bl (decide (v = u))) H
    rw [h2]
    exact OG.ok o hr rfl
theorem does_isNot {X : Cx} : Does2 X (rIsC true) dIsNot := by
  intro x y v u ρ H m Q E hr rx ry o
  unfold dIsNot at o
  cases e : sameC x y with
  | none => rw [e] at o; exact o.elim
  | some b =>
    rw [e] at o
    obtain ⟨h1, h2⟩ := sameC_ok e rx ry
    refine ⟨h1, ?_⟩
    show Q (.bl (!decide (v = u))) H
    rw [h2]
    exact OG.ok o hr rfl

/-! ### data -/
def pyAll (f : D → Option PyData) : List D → Option (List PyData)
  | [] => some []
  | x :: xs => match f x, pyAll f xs with
    | some d, some ds => some (d :: ds)
    | _, _ => none
def py : Nat → D → M → Option PyData
  | 0, _, _ => none
  | _ + 1, .non, _ => some .none
  | _ + 1, .bl b, _ => some (.bool b)
  | _ + 1, .int i, _ => some (.int i)
  | _ + 1, .str s, _ => if PyData.strOk s = true then some (.str s) else none
  | n + 1, .tup xs, m => (pyAll (fun d => py n d m) xs).map PyData.tuple
  | n + 1, .wt xs, m => (pyAll (fun d => py n d m) xs).map PyData.tuple
  | n + 1, .wl xs, m => (pyAll (fun d => py n d m) xs).map PyData.list
  | n + 1, .ref k, m => match lsAt m k with
    | some xs => (pyAll (fun d => py n d m) xs).map PyData.list
    | none => none
  | _ + 1, .rng _ _, _ => none
  | _ + 1, .glo _, _ => none
  | _ + 1, .ty _, _ => none
structure PyOk (K : PySem.W.Frag) (H : Hp) (n : Nat) (v : V) (d : PyData) : Prop where
  dp : Dp K H v d
  lay : d.canLay0 = true
  dep : d.depth ≤ n
section
variable {K : PySem.W.Frag} {ρ : List Addr} {H : Hp} {m : M}
theorem pyAll_ok {n : Nat} (ih : ∀ (x : D) (d : PyData) (v : V), py n x m = some d → VR K ρ H x v → PyOk K H n v d) : ∀ (xs : List D) (ds : List PyData) (vs : List V), pyAll (fun d => py n d m) xs = some ds → VRs K ρ H xs vs →
    DpAll K H vs ds ∧ PyData.canLayAll0 ds = true ∧ PyData.depthAll ds ≤ n
  | [], ds, vs, h, r => by
    cases h
    cases r
    exact ⟨.nil, by simp [PyData.canLayAll0], by simp [PyData.depthAll]⟩
  | x :: xs, ds, vs, h, r => by
    obtain ⟨v, vs', rfl, r1, r2⟩ := r
    have h' : (match py n x m, pyAll (fun d => py n d m) xs with
      | some d, some ds => some (d :: ds)
      | _, _ => none) = some ds := h
    cases e1 : py n x m with
    | none => rw [e1] at h'; cases h'
    | some d =>
      cases e2 : pyAll (fun d => py n d m) xs with
      | none => rw [e1, e2] at h'; cases h'
      | some es =>
        rw [e1, e2] at h'
        cases h'
        obtain ⟨q1, q2, q3⟩ := ih x d v e1 r1
        obtain ⟨q4, q5, q6⟩ := pyAll_ok ih xs es vs' e2 r2
        exact ⟨.cons q1 q4, by simp [PyData.canLayAll0, q2, q5], by simp only [PyData.depthAll]; omega⟩
theorem py_ok (hr : HR K ρ H m) : ∀ (n : Nat) (x : D) (d : PyData) (v : V), py n x m = some d → VR K ρ H x v → PyOk K H n v d
  | 0, _, _, _, h, _ => by cases h
  | n + 1, x, d, v, h, r => by
    cases x with
    | non => cases h; cases r; exact ⟨.non, rfl, by simp [PyData.depth]⟩
    | bl b => cases h; cases r; exact ⟨.bl b, rfl, by simp [PyData.depth]⟩
    | int i => cases h; cases r; exact ⟨.int i, rfl, by simp [PyData.depth]⟩
    | str s =>
      have h' : (if PyData.strOk s = true then some (PyData.str s) else none) = some d := h
      by_cases c : PyData.strOk s = true
      · rw [if_pos c] at h'
        cases h'
        cases r
        exact ⟨.str s, by simpa [PyData.canLay0] using c, by simp [PyData.depth]⟩
      · rw [if_neg c] at h'
        cases h'
    | tup xs =>
      have h' : (pyAll (fun d => py n d m) xs).map PyData.tuple = some d := h
      obtain ⟨ds, e, rfl⟩ := Option.map_eq_some_iff.mp h'
      obtain ⟨a, vs, rfl, h1, h2⟩ := r
      obtain ⟨q1, q2, q3⟩ := pyAll_ok (py_ok hr n) xs ds vs e h2
      exact ⟨.tup (.inl (.inl h1)) q1, by simpa [PyData.canLay0] using q2, by simp only [PyData.depth]; omega⟩
    | wt xs =>
      have h' : (pyAll (fun d => py n d m) xs).map PyData.tuple = some d := h
      obtain ⟨ds, e, rfl⟩ := Option.map_eq_some_iff.mp h'
      obtain ⟨a, vs, rfl, h1, h2⟩ := r
      obtain ⟨q1, q2, q3⟩ := pyAll_ok (py_ok hr n) xs ds vs e h2
      exact ⟨.tup (h1 H) q1, by simpa [PyData.canLay0] using q2, by simp only [PyData.depth]; omega⟩
    | wl xs =>
      have h' : (pyAll (fun d => py n d m) xs).map PyData.list = some d := h
      obtain ⟨ds, e, rfl⟩ := Option.map_eq_some_iff.mp h'
      obtain ⟨a, vs, rfl, h1, h2⟩ := r
      obtain ⟨q1, q2, q3⟩ := pyAll_ok (py_ok hr n) xs ds vs e h2
      exact ⟨.lst (h1.elim (fun z => z H) fun ⟨o, z⟩ => .inl (.inr ⟨o, z⟩)) q1, by simpa [PyData.canLay0] using q2, by simp only [PyData.depth]; omega⟩
    | ref k =>
      have h' : (match lsAt m k with
        | some xs => (pyAll (fun d => py n d m) xs).map PyData.list
        | none => none) = some d := h
      cases el : lsAt m k with
      | none => rw [el] at h'; cases h'
      | some xs =>
        rw [el] at h'
        obtain ⟨ds, e, rfl⟩ := Option.map_eq_some_iff.mp h'
        obtain ⟨a, vs, rfl, _, h1, h2⟩ := lsAt_H hr el r
        obtain ⟨q1, q2, q3⟩ := pyAll_ok (py_ok hr n) xs ds vs e h2
        exact ⟨.lst (.inl (.inl h1)) q1, by simpa [PyData.canLay0] using q2, by simp only [PyData.depth]; omega⟩
    | rng _ _ => cases h
    | glo _ => cases h
    | ty _ => cases h
theorem PyOk.shaped {n : Nat} {v : V} {d : PyData} (h : PyOk K H n v d) (hn : n ≤ 64) : SeqAt.shaped d = true := by
  unfold SeqAt.shaped
  rw [h.lay, Bool.true_and]
  exact decide_eq_true (Nat.le_trans h.dep hn)
end
def pyN (x : D) (m : M) : Option PyData := py 8 x m
/-- == of data -/
def eqD (x y : D) (m : M) : Option Bool := match pyN x m, pyN y m with
  | some d, some e => some (PyData.eqv d e)
  | _, _ => none
def dEq (x y : D) (m : M) : Out D := match eqD x y m with
  | some b => .ok (.bl b) m
  | none => .bad
def dNe (x y : D) (m : M) : Out D := match eqD x y m with
  | some b => .ok (.bl (!b)) m
  | none => .bad
theorem eqD_ok {K : PySem.W.Frag} {ρ : List Addr} {H : Hp} {m : M} {x y : D} {v u : V} {b : Bool} (hr : HR K ρ H m) (h : eqD x y m = some b) (rx : VR K ρ H x v) (ry : VR K ρ H y u) :
    ∃ d e, Dp K H v d ∧ Dp K H u e ∧ SeqAt.shaped d = true ∧ SeqAt.shaped e = true ∧ PyData.eqv d e = b := by
  unfold eqD at h
  cases e1 : pyN x m with
  | none => rw [e1] at h; cases h
  | some d =>
    cases e2 : pyN y m with
    | none => rw [e1, e2] at h; cases h
    | some e =>
      rw [e1, e2] at h
      cases h
      have q1 := py_ok hr 8 x d v e1 rx
      have q2 := py_ok hr 8 y e u e2 ry
      exact ⟨d, e, q1.dp, q2.dp, q1.shaped (by decide), q2.shaped (by decide), rfl⟩
theorem does_eq {X : Cx} : Does2 X (rEqD X.K) dEq := by
  intro x y v u ρ H m Q E hr rx ry o
  unfold dEq at o
  cases e : eqD x y m with
  | none => rw [e] at o; exact o.elim
  | some b =>
    rw [e] at o
    obtain ⟨d, e', h1, h2, h3, h4, h5⟩ := eqD_ok hr e rx ry
    exact ⟨d, e', h1, h2, h3, h4, by rw [h5]; exact OG.ok o hr rfl⟩
theorem does_ne {X : Cx} : Does2 X (rNeD X.K) dNe := by
  intro x y v u ρ H m Q E hr rx ry o
  unfold dNe at o
  cases e : eqD x y m with
  | none => rw [e] at o; exact o.elim
  | some b =>
    rw [e] at o
    obtain ⟨d, e', h1, h2, h3, h4, h5⟩ := eqD_ok hr e rx ry
    exact ⟨d, e', h1, h2, h3, h4, by rw [h5]; exact OG.ok o hr rfl⟩
section
variable {X : Cx} {W : WX} {a b : Expr} {f g : DE} {pos : Pos}
theorem xc_is (pa : PE X a (tD X.K W f)) (pb : PE X b (tD X.K W g)) : PC X .Is a b (tD X.K W (d2 dIs f g)) := xc_cmp op_isC does_is pa pb
theorem xc_isNot (pa : PE X a (tD X.K W f)) (pb : PE X b (tD X.K W g)) : PC X .IsNot a b (tD X.K W (d2 dIsNot f g)) := xc_cmp op_isNotC does_isNot pa pb
theorem xc_eq (hu : X.A.units + 64 < cLine) (pa : PE X a (tD X.K W f)) (pb : PE X b (tD X.K W g)) : PC X .Eq a b (tD X.K W (d2 dEq f g)) := xc_cmp (op_eqD hu) does_eq pa pb
theorem xc_ne (hu : X.A.units + 64 < cLine) (pa : PE X a (tD X.K W f)) (pb : PE X b (tD X.K W g)) : PC X .NotEq a b (tD X.K W (d2 dNe f g)) := xc_cmp (op_neD hu) does_ne pa pb
end
end PD
end

section
set_option maxHeartbeats 2000000
/-! Dicts: what the hand layer lacks (del of a tuple's entry), and readings as functions. -/
namespace PD
open PySem PySem.Spec L2

/-! ### del d[k], the keys tuples -/
theorem meets_delT {prog : Program} {w : World} {κ : Type} [DecidableEq κ] {knd : HeapKind prog w κ} {d b : Addr} {k : κ} :
    MeetsIn prog w (Builtin.«dict.__delitem__» ⟨[.ref d, .ref b], []⟩) (fun A R s => ∃ xs, knd.room A.in1 ∧ knd.is s.heap k b ∧ s.heap.DictOfH knd d xs ∧ xs.length ≤ sizeLine ∧ (atKey xs k).isSome = true ∧
      ∀ h' tk, h'.DictOfH knd d (DT.dropH xs k) → Heap.SameBut d s.heap h' → R (.ok (.ret .none)) { s with heap := h', toks := tk }) :=
  .of_wp fun A R s ⟨xs, hu, hkey, hm, hsz, there, h⟩ => by
    unfold Builtin.«dict.__delitem__»
    refine wpAny_bind ?_
    unfold Builtin.Dict.dictSlotArgs
    refine wpAny_bind (wpAny_notOrdered_dict hm.typeIs ?_)
    show wpAny _ _ (pure (Value.ref d, Value.ref b)) _ _ s
    refine wpAny_pure ?_
    show wpAny _ _ (Builtin.Dict.takeOut d (.ref b) >>= _) _ _ s
    refine wpAny_bind (DT.takeH hu hkey hm hsz (fun hn => by rw [hn] at there; exact absurd there (by decide)) fun p e hp hev h' hm' hs' => ?_)
    exact wpAny_bind (wpAny_letGo (wpAny_pure ⟨.none, rfl, h h' _ hm' hs'⟩))
theorem d_delItemT {X : Cx} {pins : List (Addr × Obj)} {σ : L2.St} {H : Hp} {s : Shared} {a b : Addr} {kvs : List (List Key × V)} {k : List Key} {E : Value → Shared → Prop} {Q : Unit → Shared → Prop} (hu : X.A.units + 1 < cLine) (I : Inv X pins σ H s)
    (e : H a = some (.dT kvs)) (eb : H b = some (.tup (k.map kV))) (l : (valV kvs k).isSome = true) (h : ∀ s', Inv X pins σ (upd H a (.dT (dropK kvs k))) s' → Q () s') :
    wpAny (model X.prog X.w) X.A (delItem (.ref a) (.ref b)) Q E s := by
  obtain ⟨z, hd, xs, rel, dd⟩ := dt_of I.hok e
  have hl : (atKey xs k).isSome = true := by
    have q := (rel.val k).isSome_eq
    rw [Option.isSome_map] at q
    rw [← q]
    exact l
  refine wpAny_delItem_slot dd.typeIs (by decide) PySem.F.slot_dict_delitem
    (call_meetsIn PySem.F.slot_dict_delitem dd.typeIs PySem.F.entry_dict_delitem (PySem.F.args_dict_delitem_2 _ _) (meets_delT (knd := tupleKind (mixKind X.prog X.w)) (k := k)) ⟨xs, tupleKind_room_in1 hu, key_of I.hok eb, dd, by rw [← Paired.length rel]; exact z, hl, fun h' tk dd' hs => h _ ?_⟩)
  obtain ⟨o, es, ep, hq, h2, h3, h4, _, h5⟩ := dd'
  refine d_write I (by rw [e]; exact True.intro) hs ⟨o, hq⟩ ⟨Nat.le_trans (dropK_le kvs k) z, hd, _, (DX.KT_drop k rel).keeps (fun c ys ec => ?_), o, es, ep, hq, h2, h3, h4, h5⟩
  rw [upd_ne (ne_of ec e (fun z => nomatch z))]
  exact ec
/-- del d[y], the keys tuples, or ints and texts -/
def sDDelA (td ty : TE) : TS := fun D σ H => td σ H fun x H1 => ty σ H1 fun y H2 =>
  (∃ a kvs k, x = .ref a ∧ H2 a = some (.dK kvs) ∧ y = kV k ∧ (valV kvs k).isSome = true ∧ D.nx σ (upd H2 a (.dK (dropK kvs k)))) ∨
  ∃ a b kvs k, x = .ref a ∧ y = .ref b ∧ H2 a = some (.dT kvs) ∧ H2 b = some (.tup (k.map kV)) ∧ (valV kvs k).isSome = true ∧ D.nx σ (upd H2 a (.dT (dropK kvs k)))
theorem ps_ddelA {X : Cx} {o i : Expr} {tpos pos : Pos} {td ty : TE} (hu : X.A.units + 1 < cLine) (ho : PE X o td) (hi : PE X i ty) : PS X (.Delete [.Subscript o i tpos] pos) (sDDelA td ty) := by
  refine ⟨fun pins s σ H D I h => ?_⟩
  refine wpAny_Delete (wpAny_deleteEach_cons (wpAny_delete_Subscript (thn (ho.run pins s σ H _ I h) fun u s1 ⟨x, H1, I1, rx, q1⟩ => thn (hi.run pins s1 σ H1 _ I1 q1) fun iv s2 ⟨y, H2, I2, ry, q2⟩ => ?_)))
  rcases q2 with ⟨a, kvs, k, ex, e, ey, l, q2⟩ | ⟨a, b, kvs, k, ex, ey, e, eb, l, q2⟩
  · subst ex ey
    obtain rfl : u = Value.ref a := rx
    exact d_delItem I2 e ry l fun s3 I3 => wpAny_deleteEach_nil ⟨σ, _, I3, q2⟩
  · subst ex ey
    obtain rfl : u = Value.ref a := rx
    obtain rfl : iv = Value.ref b := ry
    exact d_delItemT hu I2 e eb l fun s3 I3 => wpAny_deleteEach_nil ⟨σ, _, I3, q2⟩
end PD
end

section
set_option maxHeartbeats 2000000
namespace PD
open PySem PySem.Spec L2
section
variable {κ : Type} [DecidableEq κ]
def valD (kvs : List (κ × D)) (k : κ) : Option D := match kvs with
  | [] => none
  | (j, d) :: r => if j = k then some d else valD r k
def putD (kvs : List (κ × D)) (k : κ) (d : D) : List (κ × D) := match kvs with
  | [] => [(k, d)]
  | (j, e) :: r => if j = k then (j, d) :: r.map (fun kv => if kv.1 = k then (kv.1, d) else kv) else (j, e) :: putD r k d
def dropD (kvs : List (κ × D)) (k : κ) : List (κ × D) := match kvs with
  | [] => []
  | (j, e) :: r => if j = k then dropD r k else (j, e) :: dropD r k
variable {K : PySem.W.Frag} {ρ : List Addr} {H : Hp}
theorem KVs.val (k : κ) : ∀ {kvs : List (κ × D)} {ks : List (κ × V)}, KVs K ρ H kvs ks → (valV ks k).isSome = (valD kvs k).isSome ∧ ∀ d, valD kvs k = some d → ∃ v, valV ks k = some v ∧ VR K ρ H d v
  | [], _, h => by cases h; exact ⟨rfl, fun d h => by cases h⟩
  | (j, d) :: r, _, ⟨v, ys, e, h1, h2⟩ => by
    subst e
    obtain ⟨i1, i2⟩ := KVs.val k h2
    unfold valD
    by_cases c : j = k
    · rw [if_pos c, valV_pos (p := (j, v)) c]
      exact ⟨rfl, fun d' e => by cases e; exact ⟨v, rfl, h1⟩⟩
    · rw [if_neg c, valV_neg (p := (j, v)) c]
      exact ⟨i1, i2⟩
theorem KVs.length : ∀ {kvs : List (κ × D)} {ks : List (κ × V)}, KVs K ρ H kvs ks → kvs.length = ks.length
  | [], _, h => by cases h; rfl
  | (j, d) :: r, _, ⟨v, ys, e, h1, h2⟩ => by subst e; simp [KVs.length h2]
theorem KVs.repl (k : κ) {d : D} {v : V} (hv : VR K ρ H d v) : ∀ {kvs : List (κ × D)} {ks : List (κ × V)}, KVs K ρ H kvs ks → KVs K ρ H (kvs.map fun kv => if kv.1 = k then (kv.1, d) else kv) (ks.map fun kv => if kv.1 = k then (kv.1, v) else kv)
  | [], _, h => by cases h; rfl
  | (j, e) :: r, _, ⟨w, ys, e', h1, h2⟩ => by
    subst e'
    rw [List.map_cons, List.map_cons]
    by_cases c : j = k
    · simp only [if_pos c]
      exact ⟨v, _, rfl, hv, KVs.repl k hv h2⟩
    · simp only [if_neg c]
      exact ⟨w, _, rfl, h1, KVs.repl k hv h2⟩
theorem putK_cons_pos {k : κ} {v : V} {p : κ × V} {r : List (κ × V)} (c : p.1 = k) : putK (p :: r) k v = (p.1, v) :: r.map fun kv => if kv.1 = k then (kv.1, v) else kv := by
  unfold putK
  rw [if_pos (by simp [c]), List.map_cons, if_pos c]
theorem putK_cons_neg {k : κ} {v : V} {p : κ × V} {r : List (κ × V)} (c : ¬ p.1 = k) : putK (p :: r) k v = p :: putK r k v := by
  unfold putK
  by_cases h : (r.any fun kv => decide (kv.1 = k)) = true
  · rw [if_pos (by rw [List.any_cons, h, Bool.or_true]), if_pos h, List.map_cons, if_neg c]
  · rw [if_neg (by rw [List.any_cons, decide_eq_false c, Bool.false_or]; exact h), if_neg h]
    rfl
theorem KVs.put (k : κ) {d : D} {v : V} (hv : VR K ρ H d v) : ∀ {kvs : List (κ × D)} {ks : List (κ × V)}, KVs K ρ H kvs ks → KVs K ρ H (putD kvs k d) (putK ks k v)
  | [], _, h => by cases h; exact ⟨v, [], rfl, hv, rfl⟩
  | (j, e) :: r, _, ⟨w, ys, e', h1, h2⟩ => by
    subst e'
    unfold putD
    by_cases c : j = k
    · rw [if_pos c, putK_cons_pos (p := (j, w)) c]
      exact ⟨v, _, rfl, hv, KVs.repl k hv h2⟩
    · rw [if_neg c, putK_cons_neg (p := (j, w)) c]
      exact ⟨w, _, rfl, h1, KVs.put k hv h2⟩
theorem KVs.drop (k : κ) : ∀ {kvs : List (κ × D)} {ks : List (κ × V)}, KVs K ρ H kvs ks → KVs K ρ H (dropD kvs k) (dropK ks k)
  | [], _, h => by cases h; rfl
  | (j, e) :: r, _, ⟨w, ys, e', h1, h2⟩ => by
    subst e'
    unfold dropD
    by_cases c : j = k
    · rw [if_pos c, show dropK ((j, w) :: ys) k = dropK ys k from List.filter_cons_of_neg (by simp [c])]
      exact KVs.drop k h2
    · rw [if_neg c, show dropK ((j, w) :: ys) k = (j, w) :: dropK ys k from List.filter_cons_of_pos (by simp [c])]
      exact ⟨w, _, rfl, h1, KVs.drop k h2⟩
end
/-! ### keys -/
def keyK : D → Option Key
  | .int i => some (.inl i)
  | .str s => some (.inr s)
  | _ => none
def keysK : List D → Option (List Key)
  | [] => some []
  | d :: ds => match keyK d, keysK ds with
    | some k, some ks => some (k :: ks)
    | _, _ => none
def keyT : D → Option (List Key)
  | .tup ds => keysK ds
  | _ => none
section
variable {K : PySem.W.Frag} {ρ : List Addr} {H : Hp} {m : M}
theorem keyK_ok {d : D} {k : Key} {v : V} (h : keyK d = some k) (r : VR K ρ H d v) : v = kV k := by
  cases d with
  | int i => cases h; cases r; rfl
  | str i => cases h; cases r; rfl
  | _ => cases h
theorem keysK_ok : ∀ {ds : List D} {ks : List Key} {vs : List V}, keysK ds = some ks → VRs K ρ H ds vs → vs = ks.map kV
  | [], _, _, h, r => by cases h; cases r; rfl
  | d :: ds, _, _, h, ⟨x, r, e, h1, h2⟩ => by
    unfold keysK at h
    cases e1 : keyK d with
    | none => rw [e1] at h; cases h
    | some k =>
      cases e2 : keysK ds with
      | none => rw [e1, e2] at h; cases h
      | some ks =>
        rw [e1, e2] at h
        cases h
        rw [e, keyK_ok e1 h1, keysK_ok e2 h2]
        rfl
theorem keyT_ok {d : D} {k : List Key} {v : V} (h : keyT d = some k) (r : VR K ρ H d v) : ∃ b, v = .ref b ∧ H b = some (.tup (k.map kV)) := by
  cases d with
  | tup ds =>
    obtain ⟨b, xs, e, hb, hs⟩ := r
    exact ⟨b, e, by rw [hb, keysK_ok h hs]⟩
  | _ => cases h
end
/-- what the dict x holds at y -/
def dLook (x : D) (m : M) (y : D) : Option (Option D) := match x with
  | .ref n => match m[n]? with
    | some (.dT kvs) => (keyT y).map (valD kvs)
    | some (.dK kvs) => (keyK y).map (valD kvs)
    | _ => none
  | _ => none
theorem dLook_ok {K : PySem.W.Frag} {ρ : List Addr} {H : Hp} {m : M} {x y : D} {v u : V} {r : Option D} (hr : HR K ρ H m) (h : dLook x m y = some r) (rx : VR K ρ H x v) (ry : VR K ρ H y u) :
    ∃ a o, v = .ref a ∧ DGet H a u o ∧ o.isSome = r.isSome ∧ ∀ d, r = some d → ∃ z, o = some z ∧ VR K ρ H d z := by
  unfold dLook at h
  cases x with
  | ref n =>
    obtain ⟨a, e, ea⟩ := rx
    have h' : (match m[n]? with
      | some (.dT kvs) => (keyT y).map (valD kvs)
      | some (.dK kvs) => (keyK y).map (valD kvs)
      | _ => none) = some r := h
    cases em : m[n]? with
    | none => rw [em] at h'; cases h'
    | some o =>
      rw [em] at h'
      have q := hr.ob n a o ea em
      cases o with
      | dT kvs =>
        obtain ⟨k, ek, rfl⟩ := Option.map_eq_some_iff.mp (show (keyT y).map (valD kvs) = some r from h')
        obtain ⟨ks, e1, e2⟩ := q
        obtain ⟨b, eb, hb⟩ := keyT_ok ek ry
        obtain ⟨i1, i2⟩ := e2.val k
        subst eb
        exact ⟨a, valV ks k, e, .inr ⟨ks, k, b, .inl e1, rfl, hb, rfl⟩, i1, i2⟩
      | dK kvs =>
        obtain ⟨k, ek, rfl⟩ := Option.map_eq_some_iff.mp (show (keyK y).map (valD kvs) = some r from h')
        obtain ⟨ks, e1, e2⟩ := q
        have eb := keyK_ok ek ry
        obtain ⟨i1, i2⟩ := e2.val k
        subst eb
        exact ⟨a, valV ks k, e, .inl ⟨ks, k, .inl e1, rfl, rfl⟩, i1, i2⟩
      | _ => cases h'
  | _ => cases h
/-! ### in, not in -/
def anyEq (ds : List PyData) (d : PyData) : Bool := ds.any fun z => PyData.eqv z d
def inD (x y : D) (m : M) : Option Bool := match pyN x m, pyN y m with
  | some d, some (.list ds) => some (anyEq ds d)
  | _, _ => (dLook y m x).map (·.isSome)
def dIn (x y : D) (m : M) : Out D := match inD x y m with
  | some b => .ok (.bl b) m
  | none => .bad
def dNotIn (x y : D) (m : M) : Out D := match inD x y m with
  | some b => .ok (.bl (!b)) m
  | none => .bad
def isDeep (x y : D) (m : M) : Bool := match pyN x m, pyN y m with
  | some _, some (.list _) => true
  | _, _ => false
theorem inD_deep {K : PySem.W.Frag} {ρ : List Addr} {H : Hp} {m : M} {x y : D} {v u : V} {b : Bool} (hr : HR K ρ H m) (h : inD x y m = some b) (hd : isDeep x y m = true) (rx : VR K ρ H x v) (ry : VR K ρ H y u) :
    ∃ d ds, Dp K H v d ∧ Dp K H u (.list ds) ∧ SeqAt.shaped d = true ∧ SeqAt.shaped (.list ds) = true ∧ (ds.any fun z => PyData.eqv z d) = b := by
  unfold inD at h
  unfold isDeep at hd
  cases e1 : pyN x m with
  | none => rw [e1] at hd; cases hd
  | some d =>
    cases e2 : pyN y m with
    | none => rw [e1, e2] at hd; cases hd
    | some e =>
      rw [e1, e2] at h hd
      cases e with
      | list ds =>
        have q1 := py_ok hr 8 x d v e1 rx
        have q2 := py_ok hr 8 y _ u e2 ry
        exact ⟨d, ds, q1.dp, q2.dp, q1.shaped (by decide), q2.shaped (by decide), Option.some.inj h⟩
      | _ => cases hd
theorem inD_look {K : PySem.W.Frag} {ρ : List Addr} {H : Hp} {m : M} {x y : D} {v u : V} {b : Bool} (hr : HR K ρ H m) (h : inD x y m = some b) (hd : isDeep x y m = false) (rx : VR K ρ H x v) (ry : VR K ρ H y u) :
    ∃ a o, u = .ref a ∧ DGet H a v o ∧ o.isSome = b := by
  have alt : (dLook y m x).map (·.isSome) = some b → ∃ a o, u = .ref a ∧ DGet H a v o ∧ o.isSome = b := fun q => by
    obtain ⟨r, e, rfl⟩ := Option.map_eq_some_iff.mp q
    obtain ⟨a, o, e1, e2, e3, _⟩ := dLook_ok hr e ry rx
    exact ⟨a, o, e1, e2, e3⟩
  unfold inD at h
  unfold isDeep at hd
  cases e1 : pyN x m with
  | none => rw [e1] at h; exact alt h
  | some d =>
    cases e2 : pyN y m with
    | none => rw [e1, e2] at h; exact alt h
    | some e =>
      rw [e1, e2] at h hd
      cases e with
      | list ds => cases hd
      | _ => exact alt h
/-- which way -/
def way (p : D → D → M → Bool) (f g : DE) (δ : DSt) (m : M) : Bool := match f δ m with
  | .ok x m1 => match g δ m1 with
    | .ok y m2 => p x y m2
    | _ => true
  | _ => true
theorem way_of {p : D → D → M → Bool} {f g : DE} {δ : DSt} {m m1 m2 : M} {x y : D} (e1 : f δ m = .ok x m1) (e2 : g δ m1 = .ok y m2) : way p f g δ m = p x y m2 := by
  unfold way
  rw [e1]
  show (match g δ m1 with | .ok y m2 => p x y m2 | _ => true) = _
  rw [e2]
section
variable {X : Cx} {W : WX} {a b : Expr} {f g : DE} {pos : Pos}
theorem xc_in (hu : X.A.units + 65 < cLine) (pa : PE X a (tD X.K W f)) (pb : PE X b (tD X.K W g)) : PC X .In a b (tD X.K W (d2 dIn f g)) := by
  refine PC.imp (PC.or (pc_op (op_inD hu) pa pb) (pc_din (by omega) pa pb)) fun σ H Q ⟨ρ, δ, m, sr, hr, o⟩ => ?_
  cases hw : way isDeep f g δ m with
  | true =>
    refine .inl (two_d2 sr hr o fun x y v u ρ2 H2 m1 m2 e1 e2 sr2 hr2 rx ry o2 => ?_)
    rw [way_of e1 e2] at hw
    unfold dIn at o2
    cases ei : inD x y m2 with
    | none => rw [ei] at o2; exact o2.elim
    | some c =>
      rw [ei] at o2
      obtain ⟨d, ds, h1, h2, h3, h4, h5⟩ := inD_deep hr2 ei hw rx ry
      exact ⟨d, ds, h1, h2, h3, h4, by rw [h5]; exact OG.ok o2 hr2 rfl⟩
  | false =>
    refine .inr (two_d2 sr hr o fun x y v u ρ2 H2 m1 m2 e1 e2 sr2 hr2 rx ry o2 => ?_)
    rw [way_of e1 e2] at hw
    unfold dIn at o2
    cases ei : inD x y m2 with
    | none => rw [ei] at o2; exact o2.elim
    | some c =>
      rw [ei] at o2
      obtain ⟨p, r, h1, h2, h3⟩ := inD_look hr2 ei hw rx ry
      exact ⟨p, r, h1, h2, by rw [h3]; exact OG.ok o2 hr2 rfl⟩
theorem xc_notIn (hu : X.A.units + 65 < cLine) (pa : PE X a (tD X.K W f)) (pb : PE X b (tD X.K W g)) : PC X .NotIn a b (tD X.K W (d2 dNotIn f g)) := by
  refine PC.imp (PC.or (pc_op (op_notInD hu) pa pb) (pc_dnotin (by omega) pa pb)) fun σ H Q ⟨ρ, δ, m, sr, hr, o⟩ => ?_
  cases hw : way isDeep f g δ m with
  | true =>
    refine .inl (two_d2 sr hr o fun x y v u ρ2 H2 m1 m2 e1 e2 sr2 hr2 rx ry o2 => ?_)
    rw [way_of e1 e2] at hw
    unfold dNotIn at o2
    cases ei : inD x y m2 with
    | none => rw [ei] at o2; exact o2.elim
    | some c =>
      rw [ei] at o2
      obtain ⟨d, ds, h1, h2, h3, h4, h5⟩ := inD_deep hr2 ei hw rx ry
      exact ⟨d, ds, h1, h2, h3, h4, by rw [h5]; exact OG.ok o2 hr2 rfl⟩
  | false =>
    refine .inr (two_d2 sr hr o fun x y v u ρ2 H2 m1 m2 e1 e2 sr2 hr2 rx ry o2 => ?_)
    rw [way_of e1 e2] at hw
    unfold dNotIn at o2
    cases ei : inD x y m2 with
    | none => rw [ei] at o2; exact o2.elim
    | some c =>
      rw [ei] at o2
      obtain ⟨p, r, h1, h2, h3⟩ := inD_look hr2 ei hw rx ry
      exact ⟨p, r, h1, h2, by rw [h3]; exact OG.ok o2 hr2 rfl⟩
/-- d[y], the key there -/
def dItemD (x y : D) (m : M) : Out D := match dLook x m y with
  | some (some d) => .ok d m
  | _ => .bad
/-- {} -/
def dNewT : DE := fun _ m => .ok (.ref m.length) (m ++ [.dT []])
def dNewK : DE := fun _ m => .ok (.ref m.length) (m ++ [.dK []])
theorem xe_newT : PE X (.Dict [] [] pos) (tD X.K W dNewT) := by
  refine PE.imp pe_dnewT fun σ H Q ⟨ρ, δ, m, sr, hr, o⟩ p hp => ?_
  exact o (ρ ++ [p]) (.ref p) _ (Post.push hp) (hr.push hp ⟨[], upd_same, rfl⟩) ⟨p, rfl, hr.at_⟩
theorem xe_newK : PE X (.Dict [] [] pos) (tD X.K W dNewK) := by
  refine PE.imp pe_dnewK fun σ H Q ⟨ρ, δ, m, sr, hr, o⟩ p hp => ?_
  exact o (ρ ++ [p]) (.ref p) _ (Post.push hp) (hr.push hp ⟨[], upd_same, rfl⟩) ⟨p, rfl, hr.at_⟩
end
end PD
end

section
set_option maxHeartbeats 2000000
/-! Arguments, displays, tests, calls of own defs, methods, classes. -/
namespace PD
open PySem PySem.Spec L2

theorem ofString_inj {a b : String} (h : Str.ofString a = Str.ofString b) : a = b := by
  rw [Str.ofString_eq_toList, Str.ofString_eq_toList] at h
  injection h with h
  have h1 : a.toList.map Char.toNat = b.toList.map Char.toNat := by simpa using congrArg Array.toList h
  have h2 : ∀ (l l' : List Char), l.map Char.toNat = l'.map Char.toNat → l = l' := by
    intro l
    induction l with
    | nil => intro l' e; cases l' with
      | nil => rfl
      | cons _ _ => simp at e
    | cons c l ih => intro l' e; cases l' with
      | nil => simp at e
      | cons c' l' =>
        simp only [List.map_cons, List.cons.injEq] at e
        have hc : c = c' := Char.ext (UInt32.toNat.inj e.1)
        rw [hc, ih l' e.2]
  exact String.toList_injective (h2 _ _ h1)
/-! ### fields -/
def fldD (fs : List (String × D)) (f : String) : Option D := match fs with
  | [] => none
  | (g, d) :: r => if g = f then some d else fldD r f
def putFD (fs : List (String × D)) (f : String) (d : D) : List (String × D) := match fs with
  | [] => [(f, d)]
  | (g, e) :: r => if g = f then (g, d) :: r else (g, e) :: putFD r f d
section
variable {K : PySem.W.Frag} {ρ : List Addr} {H : Hp} {m : M}
theorem FVs.look {f : String} : ∀ {fs : List (String × D)} {ys : List (Str × V)}, FVs K ρ H fs ys → (fldD fs f = none → ys.lookup (Str.ofString f) = none) ∧ ∀ d, fldD fs f = some d → ∃ v, ys.lookup (Str.ofString f) = some v ∧ VR K ρ H d v
  | [], _, h => by cases h; exact ⟨fun _ => rfl, nofun⟩
  | (g, d) :: r, _, ⟨v, ys, e, h1, h2⟩ => by
    subst e
    obtain ⟨i1, i2⟩ := FVs.look (f := f) h2
    unfold fldD
    by_cases c : g = f
    · subst c
      rw [if_pos rfl]
      have q : List.lookup (Str.ofString g) ((Str.ofString g, v) :: ys) = some v := by simp [List.lookup]
      exact ⟨nofun, fun d' e => by cases e; exact ⟨v, q, h1⟩⟩
    · rw [if_neg c]
      have hb : (Str.ofString f == Str.ofString g) = false := beq_eq_false_iff_ne.mpr fun z => c (ofString_inj z).symm
      have q : List.lookup (Str.ofString f) ((Str.ofString g, v) :: ys) = ys.lookup (Str.ofString f) := by simp only [List.lookup, hb]
      rw [q]
      exact ⟨i1, i2⟩
theorem FVs.put {f : String} {d : D} {v : V} (hv : VR K ρ H d v) : ∀ {fs : List (String × D)} {ys : List (Str × V)}, FVs K ρ H fs ys → FVs K ρ H (putFD fs f d) (putF (Str.ofString f) v ys)
  | [], _, h => by cases h; exact ⟨v, [], rfl, hv, rfl⟩
  | (g, e) :: r, _, ⟨w, ys, e', h1, h2⟩ => by
    subst e'
    unfold putFD
    by_cases c : g = f
    · subst c
      rw [if_pos rfl, show putF (Str.ofString g) v ((Str.ofString g, w) :: ys) = (Str.ofString g, v) :: ys from if_pos rfl]
      exact ⟨v, ys, rfl, hv, h2⟩
    · rw [if_neg c, show putF (Str.ofString f) v ((Str.ofString g, w) :: ys) = (Str.ofString g, w) :: putF (Str.ofString f) v ys from if_neg fun z => c (ofString_inj z)]
      exact ⟨w, _, rfl, h1, FVs.put hv h2⟩
theorem FVs.length : ∀ {fs : List (String × D)} {ys : List (Str × V)}, FVs K ρ H fs ys → fs.length = ys.length
  | [], _, h => by cases h; rfl
  | (g, d) :: r, _, ⟨v, ys, e, h1, h2⟩ => by subst e; simp [FVs.length h2]
end
/-- the instance with a number, if it is of the class C -/
def insAt (C : String) (x : D) (m : M) : Option (Nat × List (String × D)) := match x with
  | .ref n => match m[n]? with
    | some (.ins C' fs) => if C' = C then some (n, fs) else none
    | _ => none
  | _ => none
theorem insAt_ok {K : PySem.W.Frag} {ρ : List Addr} {H : Hp} {m : M} {C : String} {x : D} {v : V} {n : Nat} {fs : List (String × D)} (hr : HR K ρ H m) (h : insAt C x m = some (n, fs)) (r : VR K ρ H x v) :
    x = .ref n ∧ m[n]? = some (.ins C fs) ∧ ∃ a dx ys, v = .ref a ∧ ρ[n]? = some a ∧ H a = some (.ins (He.ga K (Str.ofString C)) dx ys) ∧ FVs K ρ H fs ys := by
  unfold insAt at h
  cases x with
  | ref k =>
    have h' : (match m[k]? with
      | some (.ins C' fs) => if C' = C then some (k, fs) else none
      | _ => none) = some (n, fs) := h
    cases em : m[k]? with
    | none => rw [em] at h'; cases h'
    | some o =>
      rw [em] at h'
      cases o with
      | ins C' gs =>
        have h2 : (if C' = C then some (k, gs) else none) = some (n, fs) := h'
        by_cases c : C' = C
        · rw [if_pos c] at h2
          cases h2
          subst c
          obtain ⟨a, e, ea⟩ := r
          obtain ⟨dx, ys, e1, e2⟩ := hr.ob _ a _ ea em
          exact ⟨rfl, em, a, dx, ys, e, ea, e1, e2⟩
        · rw [if_neg c] at h2
          cases h2
      | _ => cases h'
  | _ => cases h

/-! ### arguments, displays -/
abbrev DA := DSt → M → Out (List D)
def aNil : DA := fun _ m => .ok [] m
def aCons (f : DE) (fs : DA) : DA := fun δ m => (f δ m).bind fun x m1 => (fs δ m1).bind fun xs m2 => .ok (x :: xs) m2
section
variable {X : Cx} {W : WX} {e : Expr} {es : List Expr} {f : DE} {fs : DA} {pos : Pos}
theorem xa_nil : PA X [] (tDA X.K W aNil) := PA.imp pa_nil fun σ H Q ⟨ρ, δ, m, sr, hr, o⟩ => OG.ok (R := VRs X.K) (a := []) o hr rfl
theorem xa_cons (pa : PE X e (tD X.K W f)) (pr : PA X es (tDA X.K W fs)) (hs : starEach (e :: es) X.env = (false, eval e X.env) :: starEach es X.env := by rfl) : PA X (e :: es) (tDA X.K W (aCons f fs)) := by
  refine PA.imp (pa_cons pa pr hs) fun σ H Q ⟨ρ, δ, m, sr, hr, o⟩ => ?_
  refine OG.part sr hr o fun x v ρ1 H1 m1 q1 p1 sr1 hr1 rx o1 => ?_
  refine OG.part sr1 hr1 o1 fun xs vs ρ2 H2 m2 q2 p2 sr2 hr2 rs o2 => ?_
  exact OG.ok (R := VRs X.K) o2 hr2 ⟨v, vs, rfl, VR.mono (p2.leans hr1) _ _ rx, rs⟩
def dTup (fs : DA) : DE := fun δ m => (fs δ m).bind fun xs m1 => if xs.length ≤ cap then .ok (.tup xs) m1 else .bad
def dLst (fs : DA) : DE := fun δ m => (fs δ m).bind fun xs m1 => if xs.length ≤ cap then .ok (.ref m1.length) (m1 ++ [.lst xs]) else .bad
theorem xe_tup {x1} (pa : PA X es (tDA X.K W fs)) : PE X (.Tuple es x1 pos) (tD X.K W (dTup fs)) := by
  refine PE.imp (pe_tup pa) fun σ H Q ⟨ρ, δ, m, sr, hr, o⟩ => ?_
  refine OG.part sr hr o fun xs vs ρ1 H1 m1 q1 p1 sr1 hr1 rx o1 => ?_
  obtain ⟨c, o2⟩ := OG.guard o1
  exact ⟨cap_line (by rw [← VRs.length rx]; exact c), fun p hp => OG.newT o2 hr1 hp rx⟩
theorem xe_lst (pa : PA X es (tDA X.K W fs)) : PE X (.List es pos) (tD X.K W (dLst fs)) := by
  refine PE.imp (pe_lst pa) fun σ H Q ⟨ρ, δ, m, sr, hr, o⟩ => ?_
  refine OG.part sr hr o fun xs vs ρ1 H1 m1 q1 p1 sr1 hr1 rx o1 => ?_
  obtain ⟨c, o2⟩ := OG.guard o1
  exact ⟨cap_line (by rw [← VRs.length rx]; exact c), fun p hp => OG.newL o2 hr1 hp rx⟩
end
/-! ### tests -/
abbrev DB := DSt → M → Out Bool
def boolD : D → M → Out Bool
  | .bl b, m => .ok b m
  | _, _ => .bad
def dB (f : DE) : DB := fun δ m => (f δ m).bind boolD
def truthD : D → M → Out Bool
  | .non, m => .ok false m
  | .bl b, m => .ok b m
  | .int i, m => .ok (i != 0) m
  | .str s, m => if s.length ≤ cap then .ok ((s.length : Int) != 0) m else .bad
  | .tup xs, m => .ok (!xs.isEmpty) m
  | .wt xs, m => .ok (!xs.isEmpty) m
  | .wl xs, m => .ok (!xs.isEmpty) m
  | .ref n, m => match m[n]? with
    | some (.lst xs) => .ok (!xs.isEmpty) m
    | some (.dK kvs) => .ok (!kvs.isEmpty) m
    | _ => .bad
  | _, _ => .bad
def dTru (f : DE) : DB := fun δ m => (f δ m).bind truthD
def bNot (f : DB) : DB := fun δ m => (f δ m).bind fun b m1 => .ok (!b) m1
def bAnd (f g : DB) : DB := fun δ m => (f δ m).bind fun b m1 => if b = true then g δ m1 else .ok false m1
def bOr (f g : DB) : DB := fun δ m => (f δ m).bind fun b m1 => if b = true then .ok true m1 else g δ m1
section
variable {X : Cx} {W : WX} {e a b c : Expr} {es : List Expr} {f g h : DE} {fb gb : DB} {pos : Pos}
theorem isEmpty_eq {K : PySem.W.Frag} {ρ : List Addr} {H : Hp} {xs : List D} {vs : List V} (r : VRs K ρ H xs vs) : xs.isEmpty = vs.isEmpty := by
  cases xs with
  | nil => cases r; rfl
  | cons x xs => obtain ⟨v, r, rfl, _⟩ := r; rfl
theorem isEmpty_kv' {κ : Type} {K : PySem.W.Frag} {ρ : List Addr} {H : Hp} {xs : List (κ × D)} {vs : List (κ × V)} (r : KVs K ρ H xs vs) : xs.isEmpty = vs.isEmpty := by
  cases xs with
  | nil => cases r; rfl
  | cons x xs => obtain ⟨k, d⟩ := x; obtain ⟨v, r, rfl, _⟩ := r; rfl
theorem xt_val (pa : PE X e (tD X.K W f)) (he : ∀ whole, isTrue e X.env whole = (do let v ← whole; standAt e.pos; holding [v] (truthy v)) := by intro _; rfl) : PT X e (tDB X.K W (dB f)) := by
  refine PT.imp (pt_val pa he) fun σ H Q ⟨ρ, δ, m, sr, hr, o⟩ => ?_
  refine OG.part sr hr o fun x v ρ1 H1 m1 q1 p1 sr1 hr1 rx o1 => ?_
  cases x with
  | bl b => cases rx; exact ⟨b, rfl, OG.ok (R := fun _ _ (a b : Bool) => a = b) o1 hr1 rfl⟩
  | _ => exact o1.elim
/-- a comparison as a test -/
theorem xt_c {o : CmpOp} (h : PC X o a b (tD X.K W f)) (hm : behindInMarks o b = false := by first | exact nomark _ | rfl) : PT X (.Compare a [o] [b] pos) (tDB X.K W (dB f)) := by
  refine PT.imp (pt_cmp h hm) fun σ H Q ⟨ρ, δ, m, sr, hr, o⟩ => ?_
  refine OG.part sr hr o fun x v ρ1 H1 m1 q1 p1 sr1 hr1 rx o1 => ?_
  cases x with
  | bl b => cases rx; exact ⟨b, rfl, OG.ok (R := fun _ _ (a b : Bool) => a = b) o1 hr1 rfl⟩
  | _ => exact o1.elim
theorem xt_tru (pa : PE X e (tD X.K W f)) (he : ∀ whole, isTrue e X.env whole = (do let v ← whole; standAt e.pos; holding [v] (truthy v)) := by intro _; rfl) : PT X e (tDB X.K W (dTru f)) := by
  refine PT.imp (pt_truth pa he) fun σ H Q ⟨ρ, δ, m, sr, hr, o⟩ => ?_
  refine OG.part sr hr o fun x v ρ1 H1 m1 q1 p1 sr1 hr1 rx o1 => ?_
  have fin : ∀ {c : Bool}, OG X.K (fun _ _ (a b : Bool) => a = b) ρ1 H1 (.ok c m1) Q (fun c d H' => W c d σ H') → Q c H1 := fun o => OG.ok (R := fun _ _ (a b : Bool) => a = b) o hr1 rfl
  cases x with
  | non => cases rx; exact ⟨_, rfl, fin o1⟩
  | bl b => cases rx; exact ⟨_, rfl, fin o1⟩
  | int i => cases rx; exact ⟨_, rfl, fin o1⟩
  | str s =>
    cases rx
    obtain ⟨c, o2⟩ := OG.guard (show OG X.K (fun _ _ (a b : Bool) => a = b) ρ1 H1 (if s.length ≤ cap then .ok ((s.length : Int) != 0) m1 else .bad) Q (fun c d H' => W c d σ H') from o1)
    exact ⟨_, ⟨cap_line c, rfl⟩, fin o2⟩
  | tup xs => obtain ⟨p, ys, rfl, h1, h2⟩ := rx; exact ⟨_, .inr (.inl ⟨ys, .inl (.inl h1), by rw [← isEmpty_eq h2]⟩), fin o1⟩
  | wt xs => obtain ⟨p, ys, rfl, h1, h2⟩ := rx; exact ⟨_, .inr (.inl ⟨ys, h1 _, by rw [← isEmpty_eq h2]⟩), fin o1⟩
  | wl xs => obtain ⟨p, ys, rfl, h1, h2⟩ := rx; exact ⟨_, .inl ⟨ys, h1.elim (fun z => z _) fun ⟨o, z⟩ => .inl (.inr ⟨o, z⟩), by rw [← isEmpty_eq h2]⟩, fin o1⟩
  | ref n =>
    obtain ⟨p, rfl, ep⟩ := rx
    have o2 : OG X.K (fun _ _ (a b : Bool) => a = b) ρ1 H1 (match m1[n]? with
      | some (.lst xs) => .ok (!xs.isEmpty) m1
      | some (.dK kvs) => .ok (!kvs.isEmpty) m1
      | _ => .bad) Q (fun c d H' => W c d σ H') := o1
    cases em : m1[n]? with
    | none => rw [em] at o2; exact o2.elim
    | some w =>
      rw [em] at o2
      have q := hr1.ob n p w ep em
      cases w with
      | lst xs => obtain ⟨ys, h1, h2⟩ := q; exact ⟨_, .inl ⟨ys, .inl (.inl h1), by rw [← isEmpty_eq h2]⟩, fin o2⟩
      | dK xs => obtain ⟨ys, h1, h2⟩ := q; exact ⟨_, .inr (.inr ⟨ys, h1, by rw [← isEmpty_kv' h2]⟩), fin o2⟩
      | _ => exact o2.elim
  | rng _ _ => exact o1.elim
  | glo _ => exact o1.elim
  | ty _ => exact o1.elim
theorem xt_not (pa : PT X a (tDB X.K W fb)) : PT X (.UnaryOp .Not a pos) (tDB X.K W (bNot fb)) := by
  refine PT.imp (pt_not pa) fun σ H Q ⟨ρ, δ, m, sr, hr, o⟩ => ?_
  refine OG.part sr hr o fun x v ρ1 H1 m1 q1 p1 sr1 hr1 rx o1 => ?_
  subst rx
  exact OG.ok (R := fun _ _ (a b : Bool) => a = b) o1 hr1 rfl
theorem xw_and1 (pa : PT X a (tDB X.K W fb)) : PW X (.BoolOp .And [a] pos) (tDB X.K W fb) := pw_and1 pa
theorem xw_or1 (pa : PT X a (tDB X.K W fb)) : PW X (.BoolOp .Or [a] pos) (tDB X.K W fb) := pw_or1 pa
theorem xw_and (pa : PT X a (tDB X.K W fb)) (pb : PW X (.BoolOp .And (b :: es) pos) (tDB X.K W gb)) : PW X (.BoolOp .And (a :: b :: es) pos) (tDB X.K W (bAnd fb gb)) := by
  refine PW.imp (pw_and pa pb) fun σ H Q ⟨ρ, δ, m, sr, hr, o⟩ => ?_
  refine OG.part sr hr o fun x v ρ1 H1 m1 q1 p1 sr1 hr1 rx o1 => ?_
  subst rx
  cases x with
  | true => rw [if_pos rfl]; exact tG.of sr1 hr1 o1
  | false => rw [if_neg Bool.false_ne_true]; exact OG.ok (R := fun _ _ (a b : Bool) => a = b) o1 hr1 rfl
theorem xw_or (pa : PT X a (tDB X.K W fb)) (pb : PW X (.BoolOp .Or (b :: es) pos) (tDB X.K W gb)) : PW X (.BoolOp .Or (a :: b :: es) pos) (tDB X.K W (bOr fb gb)) := by
  refine PW.imp (pw_or pa pb) fun σ H Q ⟨ρ, δ, m, sr, hr, o⟩ => ?_
  refine OG.part sr hr o fun x v ρ1 H1 m1 q1 p1 sr1 hr1 rx o1 => ?_
  subst rx
  cases x with
  | true => rw [if_pos rfl]; exact OG.ok (R := fun _ _ (a b : Bool) => a = b) o1 hr1 rfl
  | false => rw [if_neg Bool.false_ne_true]; exact tG.of sr1 hr1 o1
theorem xt_bool (p : PW X e (tDB X.K W fb)) : PT X e (tDB X.K W fb) := p.pt
/-- and, or, not as values -/
def dAndV (f g : DE) : DE := fun δ m => (f δ m).bind fun x m1 => match x with
  | .bl true => g δ m1
  | .bl false => .ok (.bl false) m1
  | _ => .bad
def dOrV (f g : DE) : DE := fun δ m => (f δ m).bind fun x m1 => match x with
  | .bl false => g δ m1
  | .bl true => .ok (.bl true) m1
  | _ => .bad
def dNotV (f : DE) : DE := fun δ m => (f δ m).bind fun x m1 => match x with
  | .bl b => .ok (.bl (!b)) m1
  | _ => .bad
theorem xe_one {op : BoolOp} (pa : PE X a (tD X.K W f)) : PE X (.BoolOp op [a] pos) (tD X.K W f) := pe_one pa
theorem xe_andV (pa : PE X a (tD X.K W f)) (pb : PE X (.BoolOp .And (b :: es) pos) (tD X.K W g)) : PE X (.BoolOp .And (a :: b :: es) pos) (tD X.K W (dAndV f g)) := by
  refine PE.imp (pe_and pa pb) fun σ H Q ⟨ρ, δ, m, sr, hr, o⟩ => ?_
  refine OG.part sr hr o fun x v ρ1 H1 m1 q1 p1 sr1 hr1 rx o1 => ?_
  cases x with
  | bl c =>
    cases rx
    refine ⟨c, rfl, ?_⟩
    cases c with
    | true => rw [if_pos rfl]; exact tG.of sr1 hr1 o1
    | false => rw [if_neg Bool.false_ne_true]; exact OG.ok (a := D.bl false) o1 hr1 rfl
  | _ => exact o1.elim
theorem xe_orV (pa : PE X a (tD X.K W f)) (pb : PE X (.BoolOp .Or (b :: es) pos) (tD X.K W g)) : PE X (.BoolOp .Or (a :: b :: es) pos) (tD X.K W (dOrV f g)) := by
  refine PE.imp (pe_or pa pb) fun σ H Q ⟨ρ, δ, m, sr, hr, o⟩ => ?_
  refine OG.part sr hr o fun x v ρ1 H1 m1 q1 p1 sr1 hr1 rx o1 => ?_
  cases x with
  | bl c =>
    cases rx
    refine ⟨c, rfl, ?_⟩
    cases c with
    | true => rw [if_pos rfl]; exact OG.ok (a := D.bl true) o1 hr1 rfl
    | false => rw [if_neg Bool.false_ne_true]; exact tG.of sr1 hr1 o1
  | _ => exact o1.elim
theorem xe_notV (pa : PE X a (tD X.K W f)) : PE X (.UnaryOp .Not a pos) (tD X.K W (dNotV f)) := by
  refine PE.imp (pe_not pa) fun σ H Q ⟨ρ, δ, m, sr, hr, o⟩ => ?_
  refine OG.part sr hr o fun x v ρ1 H1 m1 q1 p1 sr1 hr1 rx o1 => ?_
  cases x with
  | bl c => cases rx; exact ⟨c, rfl, OG.ok (a := D.bl (!c)) o1 hr1 rfl⟩
  | _ => exact o1.elim
def dIf (t : DB) (f g : DE) : DE := fun δ m => (t δ m).bind fun c m1 => if c = true then f δ m1 else g δ m1
theorem xe_if (pt : PT X c (tDB X.K W fb)) (pa : PE X a (tD X.K W f)) (pb : PE X b (tD X.K W g)) : PE X (.IfExp c a b pos) (tD X.K W (dIf fb f g)) := by
  refine PE.imp (pe_ifExp pt pa pb) fun σ H Q ⟨ρ, δ, m, sr, hr, o⟩ => ?_
  refine OG.part sr hr o fun x v ρ1 H1 m1 q1 p1 sr1 hr1 rx o1 => ?_
  subst rx
  cases x with
  | true => rw [if_pos rfl]; exact tG.of sr1 hr1 o1
  | false => rw [if_neg Bool.false_ne_true]; exact tG.of sr1 hr1 o1
/-- a op b op' c -/
def dChain (op op' : D → D → M → Out D) (f g h : DE) : DE := fun δ m => (f δ m).bind fun x m1 => (g δ m1).bind fun y m2 => (op x y m2).bind fun z m3 => match z with
  | .bl true => (h δ m3).bind fun w m4 => op' y w m4
  | .bl false => .ok (.bl false) m3
  | _ => .bad
/-- like Does2, and the wish learns where it stands -/
def Does2' (X : Cx) (r : R2) (op : D → D → M → Out D) : Prop := ∀ (x y : D) (v u : V) (ρ : List Addr) (H : Hp) (m : M) (Q : VK) (E : XK), HR X.K ρ H m → VR X.K ρ H x v → VR X.K ρ H y u → OG X.K (VR X.K) ρ H (op x y m) Q E → r v u H Q
theorem chain_run {o o' : CmpOp} {r r' : R2} {op op' : D → D → M → Out D} (k : Does2 X r op) (k' : Does2 X r' op') (pure_ : ∀ x y m z m', op x y m = .ok z m' → m' = m) (noexc : ∀ x y m c p m', op x y m ≠ .exc c p m')
    {σ : L2.St} {H : Hp} {Q : VK} (q : tD X.K W (dChain op op' f g h) σ H Q) : tChain r r' (tD X.K W f) (tD X.K W g) (tD X.K W h) σ H Q := by
  obtain ⟨ρ, δ, m, sr, hr, o⟩ := q
  refine OG.part sr hr o fun x v ρ1 H1 m1 q1 p1 sr1 hr1 rx o1 => ?_
  refine OG.part sr1 hr1 o1 fun y u ρ2 H2 m2 q2 p2 sr2 hr2 ry o2 => ?_
  refine k x y v u ρ2 H2 m2 _ (fun _ _ _ => True) hr2 (VR.mono (p2.leans hr1) _ _ rx) ry ?_
  cases eo : op x y m2 with
  | bad => rw [eo] at o2; exact o2.elim
  | exc c p m' => exact absurd eo (noexc _ _ _ _ _ _)
  | ok z m' =>
    have em := pure_ _ _ _ _ _ eo
    subst em
    rw [eo] at o2
    intro ρ3 w H3 p3 hr3 rw
    have o3 := OG.later p3 o2
    cases z with
    | bl c =>
      cases rw
      refine ⟨c, rfl, ?_⟩
      cases c with
      | true =>
        rw [if_pos rfl]
        refine OG.part (sr2.mono (p3.leans hr2)) hr3 o3 fun w' z' ρ4 H4 m4 q4 p4 sr4 hr4 rz o4 => ?_
        exact k' y w' u z' ρ4 H4 m4 Q _ hr4 (VR.mono (p4.leans hr3) _ _ (VR.mono (p3.leans hr2) _ _ ry)) rz o4
      | false => rw [if_neg Bool.false_ne_true]; exact OG.ok (a := D.bl false) o3 hr3 rfl
    | _ => exact o3.elim
theorem xe_chain {o o' : CmpOp} {r r' : R2} {op op' : D → D → M → Out D} (ho : OpR X (compareOp o) r) (ho' : OpR X (compareOp o') r') (k : Does2 X r op) (k' : Does2 X r' op') (pure_ : ∀ x y m z m', op x y m = .ok z m' → m' = m) (noexc : ∀ x y m c p m', op x y m ≠ .exc c p m')
    (pa : PE X a (tD X.K W f)) (pb : PE X b (tD X.K W g)) (pc : PE X c (tD X.K W h)) (hm : lastMarks [o, o'] [b, c] = false := by with_unfolding_all rfl) : PE X (.Compare a [o, o'] [b, c] pos) (tD X.K W (dChain op op' f g h)) :=
  PE.imp (pe_chain ho ho' pa pb pc hm) fun σ H Q q => chain_run (o := o) (o' := o') k k' pure_ noexc q
theorem tD_B {σ : L2.St} {H : Hp} {Q : Bool → Hp → Prop} (q : tDB X.K W (dB f) σ H Q) : tD X.K W f σ H fun x H' => ∃ k, x = .bl k ∧ Q k H' := by
  obtain ⟨ρ, δ, m, sr, hr, o⟩ := q
  refine OG.part sr hr o fun x v ρ1 H1 m1 q1 p1 sr1 hr1 rx o1 => ?_
  cases x with
  | bl b => cases rx; exact ⟨b, rfl, OG.ok (R := fun _ _ (a b : Bool) => a = b) o1 hr1 rfl⟩
  | _ => exact o1.elim
theorem xt_chain {o o' : CmpOp} {r r' : R2} {op op' : D → D → M → Out D} (ho : OpR X (compareOp o) r) (ho' : OpR X (compareOp o') r') (k : Does2 X r op) (k' : Does2 X r' op') (pure_ : ∀ x y m z m', op x y m = .ok z m' → m' = m) (noexc : ∀ x y m c p m', op x y m ≠ .exc c p m')
    (pa : PE X a (tD X.K W f)) (pb : PE X b (tD X.K W g)) (pc : PE X c (tD X.K W h)) (hm : lastMarks [o, o'] [b, c] = false := by with_unfolding_all rfl) : PT X (.Compare a [o, o'] [b, c] pos) (tDB X.K W (dB (dChain op op' f g h))) :=
  PT.imp (pt_chain ho ho' pa pb pc hm) fun σ H Q q => chain_run (o := o) (o' := o') k k' pure_ noexc (tD_B q)
theorem int2_pure {g : Int → Int → D} {x y : D} {m : M} {z : D} {m' : M} (h : dInt2 g x y m = .ok z m') : m' = m := by
  cases x <;> cases y <;> first
    | (cases h; rfl)
    | cases h
theorem int2_noexc {g : Int → Int → D} {x y : D} {m : M} {c : String} {p : Option (String × D)} {m' : M} : dInt2 g x y m ≠ .exc c p m' := by
  intro h
  cases x <;> cases y <;> cases h
/-- lo <= x <= hi and its like -/
theorem xe_chainI {o o' : CmpOp} {g1 g2 : Int → Int → Bool} (ho : OpR X (compareOp o) (rI0 fun i j => .bl (g1 i j))) (ho' : OpR X (compareOp o') (rI0 fun i j => .bl (g2 i j)))
    (pa : PE X a (tD X.K W f)) (pb : PE X b (tD X.K W g)) (pc : PE X c (tD X.K W h)) (hm : lastMarks [o, o'] [b, c] = false := by with_unfolding_all rfl) :
    PE X (.Compare a [o, o'] [b, c] pos) (tD X.K W (dChain (dInt2 fun i j => .bl (g1 i j)) (dInt2 fun i j => .bl (g2 i j)) f g h)) :=
  xe_chain ho ho' (does_int2 fun _ _ _ _ => rfl) (does_int2 fun _ _ _ _ => rfl) (fun _ _ _ _ _ e => int2_pure e) (fun _ _ _ _ _ _ => int2_noexc) pa pb pc hm
/-- .. as a test -/
theorem xt_chainI {o o' : CmpOp} {g1 g2 : Int → Int → Bool} (ho : OpR X (compareOp o) (rI0 fun i j => .bl (g1 i j))) (ho' : OpR X (compareOp o') (rI0 fun i j => .bl (g2 i j)))
    (pa : PE X a (tD X.K W f)) (pb : PE X b (tD X.K W g)) (pc : PE X c (tD X.K W h)) (hm : lastMarks [o, o'] [b, c] = false := by with_unfolding_all rfl) :
    PT X (.Compare a [o, o'] [b, c] pos) (tDB X.K W (dB (dChain (dInt2 fun i j => .bl (g1 i j)) (dInt2 fun i j => .bl (g2 i j)) f g h))) :=
  xt_chain ho ho' (does_int2 fun _ _ _ _ => rfl) (does_int2 fun _ _ _ _ => rfl) (fun _ _ _ _ _ e => int2_pure e) (fun _ _ _ _ _ _ => int2_noexc) pa pb pc hm
end
end PD
end

section
set_option maxHeartbeats 2000000
/-! Own defs, methods, classes: a def as a function of values and store. -/
namespace PD
open PySem PySem.Spec L2

abbrev FD := List D → M → Out D
def spD (K : PySem.W.Frag) (n : Nat) (F : FD) : Sp := fun vs H Q E => ∃ (ρ : List Addr) (ds : List D) (m : M), ds.length = n ∧ VRs K ρ H ds vs ∧ HR K ρ H m ∧ OG K (VR K) ρ H (F ds m) Q E
theorem spD_len {K : PySem.W.Frag} {n : Nat} {F : FD} : ∀ vs H Q E, spD K n F vs H Q E → vs.length = n := fun vs H Q E ⟨ρ, ds, m, h1, h2, _⟩ => by rw [← h2.length]; exact h1
/-- a def as it may be called -/
structure FnD (P : Program) (w : World) (K : PySem.W.Frag) (mg : Str → Option Value) (base : Heap) (k : Nat) (f : Addr) (F : FD) : Prop where
  ex : ∃ (fd : FuncData) (ps : List Str) (G : FD) (ds : List Value) (dvs : List V) (dds : List D), FnOk P w K mg base (CX P w) k f fd ps (spD K ps.length G) ∧ PySem.W.keepIn K (.ref f) = true ∧ Binds K fd ps ds ∧ Vals dvs ds ∧ (∀ ρ H, VRs K ρ H dds dvs) ∧
    ∀ xs m, F xs m = if xs.length + dds.length = ps.length then G (xs ++ dds) m else .bad
theorem FnD.mono {P : Program} {w : World} {K : PySem.W.Frag} {mg : Str → Option Value} {base : Heap} {j k : Nat} {f : Addr} {F : FD} (h : FnD P w K mg base j f F) (hj : j ≤ k) : FnD P w K mg base k f F := by
  obtain ⟨fd, ps, G, ds, dvs, dds, h1, h2⟩ := h.ex
  exact ⟨fd, ps, G, ds, dvs, dds, h1.mono hj, h2⟩

section
variable {X : Cx} {W : WX} {k : Nat} {f : Addr} {F : FD} {x mt : Str} {p pos apos : Pos} {e o : Expr} {es : List Expr} {fs : DA} {fo : DE}
def dCall (F : FD) (fs : DA) : DE := fun δ m => (fs δ m).bind F
theorem run_D {pins : List (Addr × Obj)} {σ : L2.St} {H : Hp} {s : Shared} {Q : VK} {us : List Value} {vs : List V} {xs : List D} {ρ : List Addr} {m : M} (G : FnD X.prog X.w X.K X.mg X.base k f F) (hr : Room k X.A) (tk : Takes X W)
    (I : Inv X pins σ H s) (r : Vals vs us) (rx : VRs X.K ρ H xs vs) (hm : HR X.K ρ H m) (o : OG X.K (VR X.K) ρ H (F xs m) Q fun c d H' => W c d σ H') : wpAny (model X.prog X.w) X.A (call (.ref f) us) (EP X pins σ Q) X.xe s := by
  obtain ⟨fd, ps, G', ds, dvs, dds, h1, h2, h3, h4, h5, h6⟩ := G.ex
  rw [h6] at o
  obtain ⟨c, o⟩ := OG.guard o
  exact run_fnSD (E := WE W) h1 hr h3 h4 (passAt tk σ) I r ⟨ρ, xs ++ dds, m, by rw [List.length_append]; exact c, rx.append (h5 ρ H), hm, o⟩
theorem FnD.kp {P : Program} {w : World} {K : PySem.W.Frag} {mg : Str → Option Value} {base : Heap} (G : FnD P w K mg base k f F) : PySem.W.keepIn K (.ref f) = true := by
  obtain ⟨fd, ps, G', ds, dvs, dds, h1, h2, _⟩ := G.ex
  exact h2
theorem xe_call (G : FnD X.prog X.w X.K X.mg X.base k f F) (hr : Room k X.A) (tk : Takes X W) (hg : Gl X x) (hm : X.mg x = some (.ref f)) (pa : PA X (e :: es) (tDA X.K W fs))
    (hdb : (x == ("__debug__" : Str)) = false := by decide) (he : starEach (e :: es) X.env = (false, eval e X.env) :: starEach es X.env := by rfl) (hpl : (backTo pos (starEach es X.env)).any (·.1) = false := by rfl) :
    PE X (.Call (.Name x p) (e :: es) [] pos) (tD X.K W (dCall F fs)) := by
  refine ⟨fun pins s σ H Q I ⟨ρ, δ, m, sr, h, o⟩ => ?_⟩
  refine wpAny_Call_Name_kw (ld_glob I hg hm ?_ hdb)
  refine PySem.W.callWith_K (h₀ := X.base) I.ok.mod.kin G.kp (thn (pa.run pos pins s σ H _ I (OG.part (Q' := fun vs H1 => ∃ ρ1 xs m1, VRs X.K ρ1 H1 xs vs ∧ HR X.K ρ1 H1 m1 ∧ OG X.K (VR X.K) ρ1 H1 (F xs m1) Q fun c d H' => W c d σ H') sr h o fun xs vs ρ1 H1 m1 q1 p1 sr1 hr1 rx o1 => ⟨ρ1, xs, m1, rx, hr1, o1⟩)) fun us s1 ⟨vs, H1, I1, r, ρ1, xs, m1, rx, hr1, o1⟩ => ⟨I1.kIn, ?_⟩) he hpl
  exact run_D G hr tk I1 r rx hr1 o1
theorem xe_call0 (G : FnD X.prog X.w X.K X.mg X.base k f F) (hr : Room k X.A) (tk : Takes X W) (hg : Gl X x) (hm : X.mg x = some (.ref f)) (hdb : (x == ("__debug__" : Str)) = false := by decide) : PE X (.Call (.Name x p) [] [] pos) (tD X.K W (dCall F aNil)) := by
  refine ⟨fun pins s σ H Q I ⟨ρ, δ, m, sr, h, o⟩ => ?_⟩
  refine wpAny_Call_Name_kw (ld_glob I hg hm ?_ hdb)
  exact PySem.W.callWith_K0 I.kIn G.kp (run_D (us := []) (vs := []) (xs := []) G hr tk I .nil rfl h o)
/-- o.m(..), o an instance of the class named C -/
def dMeth (C m : String) (F : FD) (fo : DE) (fs : DA) : DE := fun δ s => (fo δ s).bind fun x s1 => match insAt C x s1 with
  | some (_, fl) => if fldD fl m = none then (fs δ s1).bind fun xs s2 => F (x :: xs) s2 else .bad
  | none => .bad
variable {C nm : String}
theorem xe_meth {pl : Sem Bool} (c : Cls X.K (He.ga X.K (Str.ofString C))) (hm : Meth X.K (He.ga X.K (Str.ofString C)) (Str.ofString nm) f) (G : FnD X.prog X.w X.K X.mg X.base k f F) (hr : Room k X.A) (tk : Takes X W) (po : PE X o (tD X.K W fo)) (pa : PA X (e :: es) (tDA X.K W fs))
    (hst : starEach (e :: es) X.env = (false, eval e X.env) :: starEach es X.env := by rfl) (hpl : (backTo pos (starEach es X.env)).any (·.1) = false := by rfl)
    (ht : eval (.Call (.Attribute o (Str.ofString nm) apos) (e :: es) [] pos) X.env = (do
      let ov ← eval o X.env
      standAt apos.atName
      let (f, first) ← holding [ov] (getMethod ov (Str.ofString nm) pl)
      callWith pos f first (backTo pos (starEach (e :: es) X.env)) (backToKw pos (keywordEach [] X.env))) := by rfl) :
    PE X (.Call (.Attribute o (Str.ofString nm) apos) (e :: es) [] pos) (tD X.K W (dMeth C nm F fo fs)) := by
  refine ⟨fun pins s σ H Q I ⟨ρ, δ, m, sr, h, oo⟩ => ?_⟩
  refine PySem.W.methodCall_KW (pl := pl) (thn (po.run pins s σ H _ I (OG.part (Q' := fun v H1 => ∃ a dx ys x ρ1 m1, v = V.ref a ∧ H1 a = some (.ins (He.ga X.K (Str.ofString C)) dx ys) ∧ ys.lookup (Str.ofString nm) = none ∧ SR X.K ρ1 H1 σ δ ∧ HR X.K ρ1 H1 m1 ∧ VR X.K ρ1 H1 x (.ref a) ∧
    OG X.K (VR X.K) ρ1 H1 ((fs δ m1).bind fun xs s2 => F (x :: xs) s2) Q fun c d H' => W c d σ H') sr h oo fun x v ρ1 H1 m1 q1 p1 sr1 hr1 rx o1 => ?_)) fun u s1 ⟨x, H1, I1, rx, a, dx, ys, d, ρ1, m1, ex, ea, l, sr1, hr1, rd, o1⟩ => ?_) ht
  · cases ei : insAt C x m1 with
    | none => rw [ei] at o1; exact o1.elim
    | some w =>
      obtain ⟨n, fl⟩ := w
      rw [ei] at o1
      obtain ⟨c1, o2⟩ := OG.guard o1
      obtain ⟨_, _, a, dx, ys, e1, _, e2, e3⟩ := insAt_ok hr1 ei rx
      subst e1
      exact ⟨a, dx, ys, x, ρ1, m1, rfl, e2, e3.look.1 c1, sr1, hr1, rx, o2⟩
  · subst ex
    obtain rfl : u = Value.ref a := rx
    refine getmeth_ok I1 ea c hm l ?_
    refine PySem.W.callWith_K (first := [.ref a]) (h₀ := X.base) I.ok.mod.kin G.kp (thn (pa.run pos pins s1 σ H1 _ I1 (OG.part (Q' := fun vs H2 => ∃ ρ2 xs m2, VRs X.K ρ2 H2 (d :: xs) (V.ref a :: vs) ∧ HR X.K ρ2 H2 m2 ∧ OG X.K (VR X.K) ρ2 H2 (F (d :: xs) m2) Q fun c d H' => W c d σ H') sr1 hr1 o1
      fun xs vs ρ2 H2 m2 q2 p2 sr2 hr2 rs o2 => ⟨ρ2, xs, m2, .cons (VR.mono (p2.leans hr1) _ _ rd) rs, hr2, o2⟩)) fun us s2 ⟨vs, H2, I2, r, ρ2, xs, m2, rxs, hr2, o2⟩ => ⟨I2.kIn, ?_⟩) hst hpl
    exact run_D (us := .ref a :: us) (vs := .ref a :: vs) G hr tk I2 (.cons rfl r) rxs hr2 o2
theorem xe_meth0 {pl : Sem Bool} (c : Cls X.K (He.ga X.K (Str.ofString C))) (hm : Meth X.K (He.ga X.K (Str.ofString C)) (Str.ofString nm) f) (G : FnD X.prog X.w X.K X.mg X.base k f F) (hr : Room k X.A) (tk : Takes X W) (po : PE X o (tD X.K W fo))
    (ht : eval (.Call (.Attribute o (Str.ofString nm) apos) [] [] pos) X.env = (do
      let ov ← eval o X.env
      standAt apos.atName
      let (f, first) ← holding [ov] (getMethod ov (Str.ofString nm) pl)
      callWith pos f first (backTo pos (starEach [] X.env)) (backToKw pos (keywordEach [] X.env))) := by rfl) :
    PE X (.Call (.Attribute o (Str.ofString nm) apos) [] [] pos) (tD X.K W (dMeth C nm F fo aNil)) := by
  refine ⟨fun pins s σ H Q I ⟨ρ, δ, m, sr, h, oo⟩ => ?_⟩
  refine PySem.W.methodCall_KW (pl := pl) (thn (po.run pins s σ H _ I (OG.part (Q' := fun v H1 => ∃ a dx ys x ρ1 m1, v = V.ref a ∧ H1 a = some (.ins (He.ga X.K (Str.ofString C)) dx ys) ∧ ys.lookup (Str.ofString nm) = none ∧ HR X.K ρ1 H1 m1 ∧ VR X.K ρ1 H1 x (.ref a) ∧
    OG X.K (VR X.K) ρ1 H1 (F [x] m1) Q fun c d H' => W c d σ H') sr h oo fun x v ρ1 H1 m1 q1 p1 sr1 hr1 rx o1 => ?_)) fun u s1 ⟨x, H1, I1, rx, a, dx, ys, d, ρ1, m1, ex, ea, l, hr1, rd, o1⟩ => ?_) ht
  · cases ei : insAt C x m1 with
    | none => rw [ei] at o1; exact o1.elim
    | some w =>
      obtain ⟨n, fl⟩ := w
      rw [ei] at o1
      obtain ⟨c1, o2⟩ := OG.guard o1
      obtain ⟨_, _, a, dx, ys, e1, _, e2, e3⟩ := insAt_ok hr1 ei rx
      subst e1
      exact ⟨a, dx, ys, x, ρ1, m1, rfl, e2, e3.look.1 c1, hr1, rx, o2⟩
  · subst ex
    obtain rfl : u = Value.ref a := rx
    refine getmeth_ok I1 ea c hm l ?_
    exact PySem.W.callWith_K0 (first := [.ref a]) I1.kIn G.kp (run_D (us := [.ref a]) (vs := [.ref a]) G hr tk I1 (.cons rfl .nil) (VRs.one rd) hr1 o1)
/-! ### a new instance -/
/-- C(..) -/
def dMake (C : String) (F : FD) (fs : DA) : DE := fun δ m => (fs δ m).bind fun xs m1 => (F (.ref m1.length :: xs) (m1 ++ [.ins C []])).bind fun v m2 => match v with
  | .non => .ok (.ref m1.length) m2
  | _ => .bad
theorem run_makeD {pins : List (Addr × Obj)} {σ : L2.St} {H : Hp} {s : Shared} {Q : VK} {us : List Value} {vs : List V} {xs : List D} {ρ : List Addr} {m : M} (M' : Mk X.K (He.ga X.K (Str.ofString C)) f) (G : FnD X.prog X.w X.K X.mg X.base k f F) (hr : Room (k + 1) X.A) (tk : Takes X W)
    (I : Inv X pins σ H s) (r : Vals vs us) (rx : VRs X.K ρ H xs vs) (hm : HR X.K ρ H m) (o : OG X.K (VR X.K) ρ H ((F (.ref m.length :: xs) (m ++ [.ins C []])).bind fun v m2 => match v with
      | .non => .ok (.ref m.length) m2
      | _ => .bad) Q fun c d H' => W c d σ H') : wpAny (model X.prog X.w) X.A (call (.ref (He.ga X.K (Str.ofString C))) us) (EP X pins σ Q) X.xe s := by
  obtain ⟨fd, ps, G', ds, dvs, dds, h1, h2, h3, h4, h5, h6⟩ := G.ex
  rw [h6] at o
  have hx : H (s.heap.objs.size + 1) = none := I.hok.fresh (Nat.le_succ _)
  have hdx : H s.heap.objs.size = none := I.hok.fresh (Nat.le_refl _)
  have nxd : s.heap.objs.size + 1 ≠ s.heap.objs.size := Nat.succ_ne_self _
  have I2 := Inv.made (C := He.ga X.K (Str.ofString C)) I
  -- the new state
  have hm1 : HR X.K ρ (upd H s.heap.objs.size (.own (s.heap.objs.size + 1))) m := hm.aside hdx
  have hx1 : upd H s.heap.objs.size (.own (s.heap.objs.size + 1)) (s.heap.objs.size + 1) = none := by rw [upd_ne nxd]; exact hx
  have hm2 := hm1.push (p := s.heap.objs.size + 1) (u := .ins (He.ga X.K (Str.ofString C)) s.heap.objs.size []) (o := .ins C []) hx1 ⟨_, [], upd_same, rfl⟩
  have pst : Post ρ H (ρ ++ [s.heap.objs.size + 1]) (upd (upd H s.heap.objs.size (.own (s.heap.objs.size + 1))) (s.heap.objs.size + 1) (.ins (He.ga X.K (Str.ofString C)) s.heap.objs.size [])) := (Post.new hdx).trans (Post.push hx1)
  have rx2 : VRs X.K (ρ ++ [s.heap.objs.size + 1]) (upd (upd H s.heap.objs.size (.own (s.heap.objs.size + 1))) (s.heap.objs.size + 1) (.ins (He.ga X.K (Str.ofString C)) s.heap.objs.size [])) (.ref m.length :: xs) (.ref (s.heap.objs.size + 1) :: vs) :=
    .cons ⟨_, rfl, hm1.at_⟩ (VRs.mono (pst.leans hm) _ _ rx)
  by_cases c : (D.ref m.length :: xs).length + dds.length = ps.length
  · rw [if_pos c] at o
    have o1 := OG.later pst o
    have r2 : Vals (V.ref (s.heap.objs.size + 1) :: (vs ++ dvs)) (Value.ref (s.heap.objs.size + 1) :: (us ++ ds)) := .cons rfl (r.append h4)
    have hs : spD X.K ps.length G' (V.ref (s.heap.objs.size + 1) :: (vs ++ dvs)) (upd (upd H s.heap.objs.size (.own (s.heap.objs.size + 1))) (s.heap.objs.size + 1) (.ins (He.ga X.K (Str.ofString C)) s.heap.objs.size [])) (fun v H2 => v = .non ∧ Q (.ref (s.heap.objs.size + 1)) H2) (WE W σ) := by
      refine ⟨_, _, _, ?_, rx2.append (h5 _ _), hm2, ?_⟩
      · rw [List.length_append]
        exact c
      · cases eG : G' (D.ref m.length :: xs ++ dds) (m ++ [.ins C []]) with
        | bad => rw [eG] at o1; exact o1.elim
        | exc c p m' => rw [eG] at o1; exact o1
        | ok v m' =>
          rw [eG] at o1
          intro ρ' b H' p' hr' rv
          have o2 := OG.later p' o1
          cases v with
          | non => cases rv; exact ⟨rfl, OG.ok o2 hr' ⟨_, rfl, p'.get hm1.at_⟩⟩
          | _ => exact o2.elim
    have hl : (Value.ref (s.heap.objs.size + 1) :: us ++ ds).length = ps.length := by
      have e := r2.length
      rw [h1.len _ _ _ _ hs] at e
      exact e.symm
    refine wpAny_call (make_map (f := f) I.kIn M'.makes M'.init (beq_iff_eq.mp M'.fn) (codeAny_mono (h1.run _ X.stack _ _ ⟨Value.ref (s.heap.objs.size + 1) :: us, []⟩ (Value.ref (s.heap.objs.size + 1) :: (us ++ ds)) _ _ (WE W σ) (hr.make (He.ga X.K (Str.ofString C)) us [])
      (I2.env0.make (He.ga X.K (Str.ofString C)) us []) (h3 _ (Value.ref (s.heap.objs.size + 1) :: us) I2.kIn hl) r2 hs) fun r s' hq' => ?_))
    cases r with
    | error e => exact passAt tk σ pins _ _ e s' I2 hq'
    | ok fl =>
      cases fl with
      | ret u =>
        obtain ⟨v, H', I3, rv, ev, q3⟩ := I2.after hq'
        subst ev
        exact ⟨rv, ⟨V.ref (s.heap.objs.size + 1), H', I3, rfl, q3⟩⟩
      | next => exact False.elim hq'
      | brk => exact False.elim hq'
      | cont => exact False.elim hq'
  · rw [if_neg c] at o
    exact o.elim
theorem xe_make (M' : Mk X.K (He.ga X.K (Str.ofString C)) f) (G : FnD X.prog X.w X.K X.mg X.base k f F) (hr : Room (k + 1) X.A) (tk : Takes X W) (hg : Gl X (Str.ofString C)) (hm : X.mg (Str.ofString C) = some (.ref (He.ga X.K (Str.ofString C)))) (pa : PA X (e :: es) (tDA X.K W fs))
    (hdb : (Str.ofString C == ("__debug__" : Str)) = false := by decide) (he : starEach (e :: es) X.env = (false, eval e X.env) :: starEach es X.env := by rfl) (hpl : (backTo pos (starEach es X.env)).any (·.1) = false := by rfl) :
    PE X (.Call (.Name (Str.ofString C) p) (e :: es) [] pos) (tD X.K W (dMake C F fs)) := by
  refine ⟨fun pins s σ H Q I ⟨ρ, δ, m, sr, h, o⟩ => ?_⟩
  refine wpAny_Call_Name_kw (ld_glob I hg hm ?_ hdb)
  refine PySem.W.callWith_K (h₀ := X.base) I.ok.mod.kin M'.kp (thn (pa.run pos pins s σ H _ I (OG.part (Q' := fun vs H1 => ∃ ρ1 xs m1, VRs X.K ρ1 H1 xs vs ∧ HR X.K ρ1 H1 m1 ∧ OG X.K (VR X.K) ρ1 H1 ((F (.ref m1.length :: xs) (m1 ++ [.ins C []])).bind fun v m2 => match v with
      | .non => .ok (.ref m1.length) m2
      | _ => .bad) Q fun c d H' => W c d σ H') sr h o fun xs vs ρ1 H1 m1 q1 p1 sr1 hr1 rx o1 => ⟨ρ1, xs, m1, rx, hr1, o1⟩)) fun us s1 ⟨vs, H1, I1, r, ρ1, xs, m1, rx, hr1, o1⟩ => ⟨I1.kIn, ?_⟩) he hpl
  exact run_makeD M' G hr tk I1 r rx hr1 o1
theorem xe_make0 (M' : Mk X.K (He.ga X.K (Str.ofString C)) f) (G : FnD X.prog X.w X.K X.mg X.base k f F) (hr : Room (k + 1) X.A) (tk : Takes X W) (hg : Gl X (Str.ofString C)) (hm : X.mg (Str.ofString C) = some (.ref (He.ga X.K (Str.ofString C))))
    (hdb : (Str.ofString C == ("__debug__" : Str)) = false := by decide) : PE X (.Call (.Name (Str.ofString C) p) [] [] pos) (tD X.K W (dMake C F aNil)) := by
  refine ⟨fun pins s σ H Q I ⟨ρ, δ, m, sr, h, o⟩ => ?_⟩
  refine wpAny_Call_Name_kw (ld_glob I hg hm ?_ hdb)
  exact PySem.W.callWith_K0 I.kIn M'.kp (run_makeD (us := []) (vs := []) (xs := []) M' G hr tk I .nil rfl h o)
/-! ### fields -/
def dFld (C f : String) (fo : DE) : DE := fun δ m => (fo δ m).bind fun x m1 => match insAt C x m1 with
  | some (_, fl) => match fldD fl f with
    | some d => .ok d m1
    | none => .bad
  | none => .bad
theorem xe_fld (c : Cls X.K (He.ga X.K (Str.ofString C))) (n : NoAttr X.K (He.ga X.K (Str.ofString C)) (Str.ofString nm)) (po : PE X o (tD X.K W fo)) (hb : attributeBase o (Str.ofString nm) X.env (eval o X.env) = eval o X.env := by rfl) : PE X (.Attribute o (Str.ofString nm) pos) (tD X.K W (dFld C nm fo)) := by
  refine PE.imp (pe_fld po hb) fun σ H Q ⟨ρ, δ, m, sr, hr, oo⟩ => ?_
  refine OG.part sr hr oo fun x v ρ1 H1 m1 q1 p1 sr1 hr1 rx o1 => ?_
  cases ei : insAt C x m1 with
  | none => rw [ei] at o1; exact o1.elim
  | some w =>
    obtain ⟨i, fl⟩ := w
    rw [ei] at o1
    obtain ⟨_, _, a, dx, ys, e1, _, e2, e3⟩ := insAt_ok hr1 ei rx
    cases ef : fldD fl nm with
    | none =>
      have o2 : OG X.K (VR X.K) ρ1 H1 (match fldD fl nm with | some d => .ok d m1 | none => .bad) Q (fun c d H' => W c d σ H') := o1
      rw [ef] at o2
      exact o2.elim
    | some d =>
      have o2 : OG X.K (VR X.K) ρ1 H1 (match fldD fl nm with | some d => .ok d m1 | none => .bad) Q (fun c d H' => W c d σ H') := o1
      rw [ef] at o2
      obtain ⟨z, h1, h2⟩ := (e3.look (f := nm)).2 d ef
      exact ⟨a, _, dx, ys, z, e1, e2, c, n, h1, OG.ok o2 hr1 h2⟩
end
end PD
end

section
set_option maxHeartbeats 2000000
/-! Statements as functions. -/
namespace PD
open PySem PySem.Spec L2

inductive SO where
  | nx (δ : DSt) (m : M) | rt (d : D) (m : M) | bk (δ : DSt) (m : M) | ct (δ : DSt) (m : M) | exc (δ : DSt) (c : String) (p : Option (String × D)) (m : M) | bad
abbrev DS := DSt → M → SO
def Out.toS {α : Type} (o : Out α) (δ : DSt) (k : α → M → SO) : SO := match o with
  | .ok a m => k a m
  | .exc c p m => .exc δ c p m
  | .bad => .bad
@[simp] theorem toS_ok {α : Type} {a : α} {m : M} {δ : DSt} {k : α → M → SO} : (Out.ok a m).toS δ k = k a m := rfl
@[simp] theorem toS_exc {α : Type} {c : String} {p : Option (String × D)} {m : M} {δ : DSt} {k : α → M → SO} : (Out.exc c p m : Out α).toS δ k = .exc δ c p m := rfl
@[simp] theorem toS_bad {α : Type} {δ : DSt} {k : α → M → SO} : (Out.bad : Out α).toS δ k = .bad := rfl
section
variable (K : PySem.W.Frag) (W : WX)
def SG (ρ : List Addr) (H : Hp) (o : SO) (E : Ends) : Prop := match o with
  | .nx δ' m' => ∀ (ρ' : List Addr) (σ' : L2.St) (H' : Hp), Post ρ H ρ' H' → HR K ρ' H' m' → SR K ρ' H' σ' δ' → E.nx σ' H'
  | .bk δ' m' => ∀ (ρ' : List Addr) (σ' : L2.St) (H' : Hp), Post ρ H ρ' H' → HR K ρ' H' m' → SR K ρ' H' σ' δ' → E.bk σ' H'
  | .ct δ' m' => ∀ (ρ' : List Addr) (σ' : L2.St) (H' : Hp), Post ρ H ρ' H' → HR K ρ' H' m' → SR K ρ' H' σ' δ' → E.ct σ' H'
  | .rt d m' => ∀ (ρ' : List Addr) (v : V) (H' : Hp), Post ρ H ρ' H' → HR K ρ' H' m' → VR K ρ' H' d v → E.rt v H'
  | .exc δ' c p m' => ∀ (ρ' : List Addr) (σ' : L2.St) (dd : Option Addr) (H' : Hp), Post ρ H ρ' H' → HR K ρ' H' m' → SR K ρ' H' σ' δ' → XD K ρ' H' p dd → W (.ref (He.ga K (Str.ofString c))) dd σ' H'
  | .bad => False
def tDS (g : DS) : TS := fun E σ H => ∃ (ρ : List Addr) (δ : DSt) (m : M), SR K ρ H σ δ ∧ HR K ρ H m ∧ SG K W ρ H (g δ m) E
end
section
variable {K : PySem.W.Frag} {W : WX} {α β : Type} {R : List Addr → Hp → α → β → Prop} {ρ ρ' : List Addr} {H H' : Hp} {σ : L2.St} {δ : DSt} {m : M} {E E' : Ends}
theorem SG.later {o : SO} (p : Post ρ H ρ' H') (h : SG K W ρ H o E) : SG K W ρ' H' o E := by
  cases o with
  | nx δ m => exact fun ρ2 b H2 q r1 r2 => h ρ2 b H2 (p.trans q) r1 r2
  | bk δ m => exact fun ρ2 b H2 q r1 r2 => h ρ2 b H2 (p.trans q) r1 r2
  | ct δ m => exact fun ρ2 b H2 q r1 r2 => h ρ2 b H2 (p.trans q) r1 r2
  | rt d m => exact fun ρ2 b H2 q r1 r2 => h ρ2 b H2 (p.trans q) r1 r2
  | exc δ c x m => exact fun ρ2 b dd H2 q r1 r2 r3 => h ρ2 b dd H2 (p.trans q) r1 r2 r3
  | bad => exact h
theorem SG.part {f : DSt → M → Out α} {k : α → M → SO} {Q' : β → Hp → Prop} (sr : SR K ρ H σ δ) (hr : HR K ρ H m) (o : SG K W ρ H ((f δ m).toS δ k) E)
    (kk : ∀ (a : α) (b : β) (ρ1 : List Addr) (H1 : Hp) (m1 : M), f δ m = .ok a m1 → Post ρ H ρ1 H1 → SR K ρ1 H1 σ δ → HR K ρ1 H1 m1 → R ρ1 H1 a b → SG K W ρ1 H1 (k a m1) E → Q' b H1) : tG K R W f σ H Q' := by
  refine ⟨ρ, δ, m, sr, hr, ?_⟩
  cases e : f δ m with
  | ok a m1 =>
    rw [e] at o
    exact fun ρ1 b H1 p hr1 r1 => kk a b ρ1 H1 m1 e p (sr.mono (p.leans hr)) hr1 r1 (SG.later p o)
  | exc c x m1 =>
    rw [e] at o
    exact fun ρ1 dd H1 p hr1 r1 => o ρ1 σ dd H1 p hr1 (sr.mono (p.leans hr)) r1
  | bad =>
    rw [e] at o
    exact o.elim
theorem SG.nx (h : SG K W ρ H (.nx δ m) E) (hr : HR K ρ H m) (sr : SR K ρ H σ δ) : E.nx σ H := h ρ σ H Post.rfl' hr sr
theorem SG.nxA {ρ' : List Addr} {H' : Hp} {σ' : L2.St} (h : SG K W ρ H (.nx δ m) E) (p : Post ρ H ρ' H') (hr : HR K ρ' H' m) (sr : SR K ρ' H' σ' δ) : E.nx σ' H' := h ρ' σ' H' p hr sr
theorem SG.rt {d : D} {v : V} (h : SG K W ρ H (.rt d m) E) (hr : HR K ρ H m) (r : VR K ρ H d v) : E.rt v H := h ρ v H Post.rfl' hr r
theorem SG.guard {c : Prop} [Decidable c] {o : SO} (h : SG K W ρ H (if c then o else .bad) E) : c ∧ SG K W ρ H o E := by
  by_cases hc : c
  · rw [if_pos hc] at h
    exact ⟨hc, h⟩
  · rw [if_neg hc] at h
    exact h.elim
theorem SG.imp {o : SO} (h : SG K W ρ H o E) (h1 : ∀ σ H, E.nx σ H → E'.nx σ H) (h2 : ∀ v H, E.rt v H → E'.rt v H) (h3 : ∀ σ H, E.bk σ H → E'.bk σ H) (h4 : ∀ σ H, E.ct σ H → E'.ct σ H) : SG K W ρ H o E' := by
  cases o with
  | nx δ m => exact fun ρ2 b H2 q r1 r2 => h1 _ _ (h ρ2 b H2 q r1 r2)
  | bk δ m => exact fun ρ2 b H2 q r1 r2 => h3 _ _ (h ρ2 b H2 q r1 r2)
  | ct δ m => exact fun ρ2 b H2 q r1 r2 => h4 _ _ (h ρ2 b H2 q r1 r2)
  | rt d m => exact fun ρ2 b H2 q r1 r2 => h2 _ _ (h ρ2 b H2 q r1 r2)
  | exc δ c x m => exact h
  | bad => exact h
theorem SR.set {i : Nat} {d : D} {v : V} (h : SR K ρ H σ δ) (r : VR K ρ H d v) : SR K ρ H (σ.set i (some v)) (δ.set i (some d)) := by
  refine ⟨by simp [h.len], fun j e hj => ?_⟩
  by_cases hi : j = i
  · subst hi
    by_cases hl : j < δ.length
    · rw [List.getElem?_set_self hl] at hj
      cases hj
      exact ⟨v, by rw [List.getElem?_set_self (by rw [h.len]; exact hl)], r⟩
    · rw [List.getElem?_eq_none (by simpa using hl)] at hj
      cases hj
  · rw [List.getElem?_set_ne (Ne.symm hi)] at hj
    rw [List.getElem?_set_ne (Ne.symm hi)]
    exact h.at_ j e hj
end
/-! ### the statements -/
def sSkip : DS := fun δ m => .nx δ m
def sSeq (a b : DS) : DS := fun δ m => match a δ m with
  | .nx δ' m' => b δ' m'
  | o => o
def sAsg (i : Nat) (f : DE) : DS := fun δ m => (f δ m).toS δ fun d m1 => .nx (δ.set i (some d)) m1
def sExpr (f : DE) : DS := fun δ m => (f δ m).toS δ fun _ m1 => .nx δ m1
def sRet (f : DE) : DS := fun δ m => (f δ m).toS δ fun d m1 => .rt d m1
def sRetN : DS := fun _ m => .rt .non m
def sIf (t : DB) (a b : DS) : DS := fun δ m => (t δ m).toS δ fun c m1 => if c = true then a δ m1 else b δ m1
def sBrk : DS := fun δ m => .bk δ m
def sCont : DS := fun δ m => .ct δ m
def sBad : DS := fun _ _ => .bad
section
variable {X : Cx} {W : WX} {st : Stmt} {rest : List Stmt} {e o value i c : Expr} {a b : DS} {f g h : DE} {fb : DB} {pos pos' tpos : Pos}
theorem zs_nil : PSs X [] (tDS X.K W sSkip) := PSs.imp pss_nil fun E σ H ⟨ρ, δ, m, sr, hr, o⟩ => SG.nx o hr sr
theorem seq_run {E : Ends} {σ : L2.St} {H : Hp} (q : tDS X.K W (sSeq a b) E σ H) : tSeq (tDS X.K W a) (tDS X.K W b) E σ H := by
  obtain ⟨ρ, δ, m, sr, hr, o⟩ := q
  refine ⟨ρ, δ, m, sr, hr, ?_⟩
  unfold sSeq at o
  cases ea : a δ m with
  | nx δ' m' =>
    rw [ea] at o
    exact fun ρ1 σ1 H1 p r1 r2 => ⟨ρ1, δ', m', r2, r1, SG.later p o⟩
  | rt d m' => rw [ea] at o; exact o
  | bk d m' => rw [ea] at o; exact o
  | ct d m' => rw [ea] at o; exact o
  | exc d c x m' => rw [ea] at o; exact o
  | bad => rw [ea] at o; exact o
theorem zs_cons (h1 : PS X st (tDS X.K W a)) (h2 : PSs X rest (tDS X.K W b)) : PSs X (st :: rest) (tDS X.K W (sSeq a b)) := PSs.imp (pss_cons h1 h2) fun E σ H q => seq_run q
theorem zs_one (h1 : PS X st (tDS X.K W a)) : PSs X [st] (tDS X.K W a) := pss_one h1
theorem z_pass : PS X (.Pass pos) (tDS X.K W sSkip) := PS.imp ps_pass fun E σ H ⟨ρ, δ, m, sr, hr, o⟩ => SG.nx o hr sr
theorem z_brk : PS X (.Break pos) (tDS X.K W sBrk) := PS.imp ps_break fun E σ H ⟨ρ, δ, m, sr, hr, o⟩ => o ρ σ H Post.rfl' hr sr
theorem z_cont : PS X (.Continue pos) (tDS X.K W sCont) := PS.imp ps_continue fun E σ H ⟨ρ, δ, m, sr, hr, o⟩ => o ρ σ H Post.rfl' hr sr
theorem z_doc {x j} : PS X (.Expr (.Constant (.str x) j pos) pos') (tDS X.K W sSkip) := PS.imp ps_doc fun E σ H ⟨ρ, δ, m, sr, hr, o⟩ => SG.nx o hr sr
theorem z_never : PS X st (tDS X.K W sBad) := PS.imp ps_never fun E σ H ⟨ρ, δ, m, sr, hr, o⟩ => o
theorem z_expr (pe : PE X e (tD X.K W f)) (hs : swapsWith e none pos.line X.env = pure false := by rfl) : PS X (.Expr e pos) (tDS X.K W (sExpr f)) := by
  refine PS.imp (ps_expr pe hs) fun E σ H ⟨ρ, δ, m, sr, hr, o⟩ => ?_
  exact SG.part sr hr o fun x v ρ1 H1 m1 q1 p1 sr1 hr1 rx o1 => SG.nx o1 hr1 sr1
theorem z_ret (pe : PE X e (tD X.K W f)) : PS X (.Return (some e) pos) (tDS X.K W (sRet f)) := by
  refine PS.imp (ps_ret pe) fun E σ H ⟨ρ, δ, m, sr, hr, o⟩ => ?_
  exact SG.part sr hr o fun x v ρ1 H1 m1 q1 p1 sr1 hr1 rx o1 => SG.rt o1 hr1 rx
theorem z_retN : PS X (.Return none pos) (tDS X.K W sRetN) := PS.imp ps_retN fun E σ H ⟨ρ, δ, m, sr, hr, o⟩ => SG.rt (d := .non) o hr rfl
theorem z_if {sa sb : List Stmt} (pt : PT X c (tDB X.K W fb)) (pa : PSs X sa (tDS X.K W a)) (pb : PSs X sb (tDS X.K W b)) : PS X (.If c sa sb pos) (tDS X.K W (sIf fb a b)) := by
  refine PS.imp (ps_if pt pa pb) fun E σ H ⟨ρ, δ, m, sr, hr, o⟩ => ?_
  refine SG.part sr hr o fun x v ρ1 H1 m1 q1 p1 sr1 hr1 rx o1 => ?_
  subst rx
  cases x with
  | true => rw [if_pos rfl]; exact ⟨ρ1, δ, m1, sr1, hr1, o1⟩
  | false => rw [if_neg Bool.false_ne_true]; exact ⟨ρ1, δ, m1, sr1, hr1, o1⟩
theorem z_set {i : Nat} {x : Str} (hN : X.N.Nodup) (hi : X.N[i]? = some x) (hx : Loc X.env.scope x) (pe : PE X e (tD X.K W f)) (hs : swapsWith e (some (.Name x pos')) pos.line X.env = pure false := by rfl) (hf : X.fn x = true ∨ X.env.scope.names.lookup x = some .local := by first | exact .inl rfl | exact .inr rfl | assumption) :
    PS X (.Assign [.Name x pos'] e pos) (tDS X.K W (sAsg i f)) := by
  refine PS.imp (ps_set hN hi hx pe hs hf) fun E σ H ⟨ρ, δ, m, sr, hr, o⟩ => ?_
  exact SG.part sr hr o fun x v ρ1 H1 m1 q1 p1 sr1 hr1 rx o1 => SG.nx o1 hr1 (sr1.set rx)
/-! ### targets -/
abbrev TD := D → DSt → Option DSt
def DoesT (X : Cx) (g : TG) (t : TD) : Prop := ∀ (x : D) (v : V) (ρ : List Addr) (H : Hp) (m : M) (σ : L2.St) (δ δ' : DSt) (Q : L2.St → Hp → Prop), HR X.K ρ H m → SR X.K ρ H σ δ → VR X.K ρ H x v → t x δ = some δ' → (∀ σ', SR X.K ρ H σ' δ' → Q σ' H) → g v σ H Q
def DoesTs (X : Cx) (g : TGs) (t : List D → DSt → Option DSt) : Prop := ∀ (xs : List D) (vs : List V) (ρ : List Addr) (H : Hp) (m : M) (σ : L2.St) (δ δ' : DSt) (Q : L2.St → Hp → Prop), HR X.K ρ H m → SR X.K ρ H σ δ → VRs X.K ρ H xs vs → t xs δ = some δ' → (∀ σ', SR X.K ρ H σ' δ' → Q σ' H) → g vs σ H Q
def gN (i : Nat) : TD := fun d δ => some (δ.set i (some d))
def gsNil : List D → DSt → Option DSt := fun ds δ => match ds with
  | [] => some δ
  | _ => none
def gsCons (t : TD) (u : List D → DSt → Option DSt) : List D → DSt → Option DSt := fun ds δ => match ds with
  | [] => none
  | d :: r => (t d δ).bind fun δ1 => u r δ1
def tupItems : D → Option (List D)
  | .tup xs => some xs
  | .wt xs => some xs
  | _ => none
def gT (n : Nat) (u : List D → DSt → Option DSt) : TD := fun d δ => match tupItems d with
  | some ds => if ds.length = n then u ds δ else none
  | none => none
theorem doesT_name {i : Nat} : DoesT X (gName i) (gN i) := fun x v ρ H m σ δ δ' Q hr sr rx e k => by
  cases e
  exact k _ (sr.set rx)
theorem doesTs_nil : DoesTs X gNil gsNil := fun xs vs ρ H m σ δ δ' Q hr sr rx e k => by
  cases xs with
  | nil => cases e; exact ⟨rx, k _ sr⟩
  | cons _ _ => cases e
theorem doesTs_cons {g : TG} {t : TD} {gs : TGs} {u : List D → DSt → Option DSt} (h1 : DoesT X g t) (h2 : DoesTs X gs u) : DoesTs X (gCons g gs) (gsCons t u) := fun xs vs ρ H m σ δ δ' Q hr sr rx e k => by
  cases xs with
  | nil => cases e
  | cons x xs =>
    obtain ⟨v, r, rfl, r1, r2⟩ := rx
    obtain ⟨δ1, e1, e2⟩ := Option.bind_eq_some_iff.mp e
    exact ⟨v, r, rfl, h1 x v ρ H m σ δ δ1 _ hr sr r1 e1 fun σ' sr' => h2 xs r ρ H m σ' δ1 δ' Q hr sr' r2 e2 k⟩
theorem doesT_tup {n : Nat} {gs : TGs} {u : List D → DSt → Option DSt} (h : DoesTs X gs u) : DoesT X (gTup X.K n gs) (gT n u) := fun x v ρ H m σ δ δ' Q hr sr rx e k => by
  unfold gT at e
  cases et : tupItems x with
  | none => rw [et] at e; cases e
  | some ds =>
    rw [et] at e
    have e2 : (if ds.length = n then u ds δ else none) = some δ' := e
    by_cases c : ds.length = n
    · rw [if_pos c] at e2
      obtain ⟨a, ys, e3, e4, e5⟩ : ∃ a ys, v = .ref a ∧ SqT X.K H a ys ∧ VRs X.K ρ H ds ys := by
        cases x with
        | tup xs => cases et; obtain ⟨a, ys, h1, h2, h3⟩ := rx; exact ⟨a, ys, h1, .inl (.inl h2), h3⟩
        | wt xs => cases et; obtain ⟨a, ys, h1, h2, h3⟩ := rx; exact ⟨a, ys, h1, h2 H, h3⟩
        | _ => cases et
      exact ⟨a, ys, e3, e4, by rw [← e5.length]; exact c, h ds ys ρ H m σ δ δ' Q hr sr e5 e2 k⟩
    · rw [if_neg c] at e2
      cases e2
/-- target = value -/
def sTgt (t : TD) (f : DE) : DS := fun δ m => (f δ m).toS δ fun d m1 => match t d δ with
  | some δ' => .nx δ' m1
  | none => .bad
theorem z_tgt {tg : Expr} {g : TG} {t : TD} (dt : DoesT X g t) (pg : PG X tg g) (pe : PE X e (tD X.K W f)) (hs : swapsWithSole [tg] e pos.line X.env = pure false := by rfl) (hw : swappedStores [tg] e X.env = pure none := by rfl)
    (h1 : (assignEach [tg] X.env).map (·.2) = [assign tg X.env] := by rfl) : PS X (.Assign [tg] e pos) (tDS X.K W (sTgt t f)) := by
  refine PS.imp (ps_asg pe pg hs hw h1) fun E σ H ⟨ρ, δ, m, sr, hr, o⟩ => ?_
  refine SG.part sr hr o fun x v ρ1 H1 m1 q1 p1 sr1 hr1 rx o1 => ?_
  cases et : t x δ with
  | none => rw [et] at o1; exact o1.elim
  | some δ' =>
    rw [et] at o1
    exact dt x v ρ1 H1 m1 σ δ δ' _ hr1 sr1 rx et fun σ' sr' => SG.nx o1 hr1 sr'
/-- a, b = x, y -/
def sPar (i j : Nat) (fs : DA) : DS := fun δ m => (fs δ m).toS δ fun ds m1 => match ds with
  | [d, e] => .nx ((δ.set i (some d)).set j (some e)) m1
  | _ => .bad
theorem z_par {i j : Nat} {x y : Str} {a b : Expr} {fs : DA} {px py pt : Pos} {kt k2 pt2} (hc : X.calm = true) (hN : X.N.Nodup) (hi : X.N[i]? = some x) (hj : X.N[j]? = some y) (hij : i ≠ j)
    (hx : X.env.scope.names.lookup x = some .local) (hy : X.env.scope.names.lookup y = some .local) (pa : PA X [a, b] (tDA X.K W fs))
    (hw : swappedStores [.Tuple [.Name x px, .Name y py] kt pt] (.Tuple [a, b] k2 pt2) X.env = pure (some [x, y]))
    (hs : swapsWithSole [.Tuple [.Name x px, .Name y py] kt pt] (.Tuple [a, b] k2 pt2) pos.line X.env = pure false := by rfl) :
    PS X (.Assign [.Tuple [.Name x px, .Name y py] kt pt] (.Tuple [a, b] k2 pt2) pos) (tDS X.K W (sPar i j fs)) := by
  refine PS.imp (ps_par hc hN hi hj hij hx hy pa hw hs) fun E σ H ⟨ρ, δ, m, sr, hr, o⟩ => ?_
  refine SG.part sr hr o fun xs vs ρ1 H1 m1 q1 p1 sr1 hr1 rx o1 => ?_
  cases xs with
  | nil => exact o1.elim
  | cons d r => cases r with
    | nil => exact o1.elim
    | cons e r => cases r with
      | nil =>
        obtain ⟨v, vs', rfl, h1, w, vs2, rfl, h2, rfl⟩ := rx
        exact ⟨v, w, rfl, SG.nx o1 hr1 ((sr1.set h1).set h2)⟩
      | cons _ _ => exact o1.elim
/-! ### stores -/
/-- o[i] = v -/
def storeD (x y d : D) (m : M) : Option M := match x with
  | .ref n => match m[n]? with
    | some (.lst xs) => match y with
      | .int k => match ixN xs.length k with
        | some j => some (m.set n (.lst (xs.set j d)))
        | none => none
      | _ => none
    | some (.dT kvs) => match keyT y with
      | some k => if kvs.length < cap then some (m.set n (.dT (putD kvs k d))) else none
      | none => none
    | some (.dK kvs) => match keyK y with
      | some k => if kvs.length < cap then some (m.set n (.dK (putD kvs k d))) else none
      | none => none
    | _ => none
  | _ => none
def isLst (x : D) (m : M) : Bool := match x with
  | .ref n => match m[n]? with
    | some (.lst _) => true
    | _ => false
  | _ => false
/-- evaluation order: value, object, index -/
def sStore (fo fi fv : DE) : DS := fun δ m => (fv δ m).toS δ fun d m1 => (fo δ m1).toS δ fun x m2 => (fi δ m2).toS δ fun y m3 => match storeD x y d m3 with
  | some m4 => .nx δ m4
  | none => .bad
end
end PD
end

section
set_option maxHeartbeats 2000000
namespace PD
open PySem PySem.Spec L2
theorem PS.or {X : Cx} {e : Stmt} {t u : TS} (h : PS X e t) (h' : PS X e u) : PS X e (fun D σ H => t D σ H ∨ u D σ H) := ⟨fun pins s σ H D I q => q.elim (h.run pins s σ H D I) (h'.run pins s σ H D I)⟩
section
variable {X : Cx} {W : WX} {st : Stmt} {rest : List Stmt} {e o value i c : Expr} {a b : DS} {f g h fo fi fv : DE} {fb : DB} {pos pos' tpos : Pos}
def way3 (fo fi fv : DE) (δ : DSt) (m : M) : Bool := match fv δ m with
  | .ok d m1 => match fo δ m1 with
    | .ok x m2 => match fi δ m2 with
      | .ok y m3 => isLst x m3
      | _ => true
    | _ => true
  | _ => true
theorem way3_of {δ : DSt} {m m1 m2 m3 : M} {x y d : D} (e1 : fv δ m = .ok d m1) (e2 : fo δ m1 = .ok x m2) (e3 : fi δ m2 = .ok y m3) : way3 fo fi fv δ m = isLst x m3 := by
  unfold way3
  rw [e1]
  show (match fo δ m1 with | .ok x m2 => (match fi δ m2 with | .ok y m3 => isLst x m3 | _ => true) | _ => true) = _
  rw [e2]
  show (match fi δ m2 with | .ok y m3 => isLst x m3 | _ => true) = _
  rw [e3]
theorem three {E : Ends} {σ : L2.St} {H : Hp} {Q3 : V → V → V → Hp → Prop} {ρ : List Addr} {δ : DSt} {m : M} (sr : SR X.K ρ H σ δ) (hr : HR X.K ρ H m) (oo : SG X.K W ρ H (sStore fo fi fv δ m) E)
    (k : ∀ (d x y : D) (v u z : V) (ρ3 : List Addr) (H3 : Hp) (m1 m2 m3 m4 : M), fv δ m = .ok d m1 → fo δ m1 = .ok x m2 → fi δ m2 = .ok y m3 → SR X.K ρ3 H3 σ δ → HR X.K ρ3 H3 m3 → VR X.K ρ3 H3 d v → VR X.K ρ3 H3 x u → VR X.K ρ3 H3 y z → storeD x y d m3 = some m4 → SG X.K W ρ3 H3 (.nx δ m4) E → Q3 v u z H3) :
    tD X.K W fv σ H fun v H1 => tD X.K W fo σ H1 fun u H2 => tD X.K W fi σ H2 fun z H3 => Q3 v u z H3 := by
  refine SG.part sr hr oo fun d v ρ1 H1 m1 q1 p1 sr1 hr1 rd o1 => ?_
  refine SG.part sr1 hr1 o1 fun x u ρ2 H2 m2 q2 p2 sr2 hr2 rx o2 => ?_
  refine SG.part sr2 hr2 o2 fun y z ρ3 H3 m3 q3 p3 sr3 hr3 ry o3 => ?_
  cases es : storeD x y d m3 with
  | none => rw [es] at o3; exact o3.elim
  | some m4 =>
    rw [es] at o3
    exact k d x y v u z ρ3 H3 m1 m2 m3 m4 q1 q2 q3 sr3 hr3 (VR.mono (p3.leans hr2) _ _ (VR.mono (p2.leans hr1) _ _ rd)) (VR.mono (p3.leans hr2) _ _ rx) ry es o3
theorem store_lst {x y d : D} {m m4 : M} {ρ : List Addr} {H : Hp} {u z v : V} {δ : DSt} {E : Ends} {σ : L2.St} (hl : isLst x m = true) (h : storeD x y d m = some m4) (hr : HR X.K ρ H m) (sr : SR X.K ρ H σ δ) (rx : VR X.K ρ H x u) (ry : VR X.K ρ H y z) (rd : VR X.K ρ H d v) (oo : SG X.K W ρ H (.nx δ m4) E) :
    rSetL u z v H fun H4 => E.nx σ H4 := by
  cases x with
  | ref n =>
    obtain ⟨p, rfl, ep⟩ := rx
    have hl' : (match m[n]? with | some (.lst _) => true | _ => false) = true := hl
    cases em : m[n]? with
    | none => rw [em] at hl'; cases hl'
    | some w =>
      rw [em] at hl'
      cases w with
      | lst xs =>
        have h' := h
        simp only [storeD, em] at h'
        cases y with
        | int k =>
          cases ry
          have h2 : (match ixN xs.length k with
              | some j => some (m.set n (.lst (xs.set j d)))
              | none => none) = some m4 := h'
          cases ei : ixN xs.length k with
          | none => rw [ei] at h2; cases h2
          | some j =>
            rw [ei] at h2
            cases h2
            obtain ⟨ys, e1, e2⟩ := hr.ob n p _ ep em
            have ln := Leans.put hr ep (u := HO.lst (ys.set j v))
            refine ⟨p, ys, k, j, rfl, rfl, e1, by rw [← e2.length]; exact ei, SG.nxA oo (Post.put ep) (hr.put ep ⟨_, upd_same, VRs.set j (VR.mono ln _ _ rd) (VRs.mono ln _ _ e2)⟩) (sr.mono ln)⟩
        | _ => cases h'
      | _ => cases hl'
  | _ => cases hl
theorem store_dict {x y d : D} {m m4 : M} {ρ : List Addr} {H : Hp} {u z v : V} {δ : DSt} {E : Ends} {σ : L2.St} (hl : isLst x m = false) (h : storeD x y d m = some m4) (hr : HR X.K ρ H m) (sr : SR X.K ρ H σ δ) (rx : VR X.K ρ H x u) (ry : VR X.K ρ H y z) (rd : VR X.K ρ H d v) (oo : SG X.K W ρ H (.nx δ m4) E) :
    ∃ a H4, u = .ref a ∧ DPut H a z v H4 ∧ E.nx σ H4 := by
  cases x with
  | ref n =>
    obtain ⟨p, rfl, ep⟩ := rx
    have hl' : (match m[n]? with | some (.lst _) => true | _ => false) = false := hl
    have h' := h
    unfold storeD at h'
    simp only at h'
    cases em : m[n]? with
    | none => simp only [em] at h'; cases h'
    | some w =>
      rw [em] at hl'
      simp only [em] at h'
      cases w with
      | lst xs => cases hl'
      | dT kvs =>
        have h2 : (match keyT y with
          | some k => if kvs.length < cap then some (m.set n (.dT (putD kvs k d))) else none
          | none => none) = some m4 := h'
        cases ek : keyT y with
        | none => rw [ek] at h2; cases h2
        | some k =>
          rw [ek] at h2
          have h3 : (if kvs.length < cap then some (m.set n (.dT (putD kvs k d))) else none) = some m4 := h2
          by_cases c : kvs.length < cap
          · rw [if_pos c] at h3
            cases h3
            obtain ⟨ks, e1, e2⟩ := hr.ob n p _ ep em
            obtain ⟨bb, rfl, hb⟩ := keyT_ok ek ry
            have ln := Leans.put hr ep (u := HO.dT (putK ks k v))
            exact ⟨p, _, rfl, DPut.t e1 hb (cap_lt (by rw [← e2.length]; exact c)), SG.nxA oo (Post.put ep) (hr.put ep ⟨_, upd_same, KVs.put k (VR.mono ln _ _ rd) (KVs.mono ln _ _ e2)⟩) (sr.mono ln)⟩
          · rw [if_neg c] at h3
            cases h3
      | dK kvs =>
        have h2 : (match keyK y with
          | some k => if kvs.length < cap then some (m.set n (.dK (putD kvs k d))) else none
          | none => none) = some m4 := h'
        cases ek : keyK y with
        | none => rw [ek] at h2; cases h2
        | some k =>
          rw [ek] at h2
          have h3 : (if kvs.length < cap then some (m.set n (.dK (putD kvs k d))) else none) = some m4 := h2
          by_cases c : kvs.length < cap
          · rw [if_pos c] at h3
            cases h3
            obtain ⟨ks, e1, e2⟩ := hr.ob n p _ ep em
            have ez := keyK_ok ek ry
            subst ez
            have ln := Leans.put hr ep (u := HO.dK (putK ks k v))
            exact ⟨p, _, rfl, DPut.k e1 (cap_lt (by rw [← e2.length]; exact c)), SG.nxA oo (Post.put ep) (hr.put ep ⟨_, upd_same, KVs.put k (VR.mono ln _ _ rd) (KVs.mono ln _ _ e2)⟩) (sr.mono ln)⟩
          · rw [if_neg c] at h3
            cases h3
      | ins _ _ => cases h'
  | _ => cases h
theorem z_store (hu : X.A.units + 1 < cLine) (po : PE X o (tD X.K W fo)) (pi : PE X i (tD X.K W fi)) (pv : PE X value (tD X.K W fv)) (hs : swapsWith value (some (.Subscript o i pos')) pos.line X.env = pure false := by rfl)
    (hs1 : swapsWithSole [.Subscript o i pos'] value pos.line X.env = pure false := by rfl) (hw : swappedStores [.Subscript o i pos'] value X.env = pure none := by rfl) (h1 : (assignEach [.Subscript o i pos'] X.env).map (·.2) = [assign (.Subscript o i pos') X.env] := by rfl)
    (ha : ∀ v, assign (.Subscript o i pos') X.env v = (do
      let ov ← holding [v] (eval o X.env)
      let iv ← holding [v, ov] (eval i X.env)
      standAt pos'
      holding [v, ov, iv] (setItem ov iv v)
      release [v, ov, iv] []) := by intro _; rfl) : PS X (.Assign [.Subscript o i pos'] value pos) (tDS X.K W (sStore fo fi fv)) := by
  refine PS.imp (PS.or (ps_asg pv (pg_sub po pi set_list ha) hs1 hw h1) (ps_dput hu po pi pv hs)) fun E σ H ⟨ρ, δ, m, sr, hr, oo⟩ => ?_
  cases hway : way3 fo fi fv δ m with
  | true =>
    refine .inl (three (Q3 := fun v u z H3 => rSetL u z v H3 fun H4 => E.nx σ H4) sr hr oo fun d x y v u z ρ3 H3 m1 m2 m3 m4 q1 q2 q3 sr3 hr3 rd rx ry es o3 => ?_)
    rw [way3_of q1 q2 q3] at hway
    exact store_lst hway es hr3 sr3 rx ry rd o3
  | false =>
    refine .inr (three sr hr oo fun d x y v u z ρ3 H3 m1 m2 m3 m4 q1 q2 q3 sr3 hr3 rd rx ry es o3 => ?_)
    rw [way3_of q1 q2 q3] at hway
    exact store_dict hway es hr3 sr3 rx ry rd o3
/-- del o[i] of a dict -/
def delD (x y : D) (m : M) : Option M := match x with
  | .ref n => match m[n]? with
    | some (.dT kvs) => match keyT y with
      | some k => if (valD kvs k).isSome = true then some (m.set n (.dT (dropD kvs k))) else none
      | none => none
    | some (.dK kvs) => match keyK y with
      | some k => if (valD kvs k).isSome = true then some (m.set n (.dK (dropD kvs k))) else none
      | none => none
    | _ => none
  | _ => none
def sDel (fo fi : DE) : DS := fun δ m => (fo δ m).toS δ fun x m1 => (fi δ m1).toS δ fun y m2 => match delD x y m2 with
  | some m3 => .nx δ m3
  | none => .bad
theorem z_del (hu : X.A.units + 1 < cLine) (po : PE X o (tD X.K W fo)) (pi : PE X i (tD X.K W fi)) : PS X (.Delete [.Subscript o i tpos] pos) (tDS X.K W (sDel fo fi)) := by
  refine PS.imp (ps_ddelA hu po pi) fun E σ H ⟨ρ, δ, m, sr, hr, oo⟩ => ?_
  refine SG.part sr hr oo fun x u ρ1 H1 m1 q1 p1 sr1 hr1 rx o1 => ?_
  refine SG.part sr1 hr1 o1 fun y z ρ2 H2 m2 q2 p2 sr2 hr2 ry o2 => ?_
  have rx := VR.mono (p2.leans hr1) _ _ rx
  cases es : delD x y m2 with
  | none => rw [es] at o2; exact o2.elim
  | some m3 =>
    rw [es] at o2
    cases x with
    | ref n =>
      obtain ⟨p, rfl, ep⟩ := rx
      have h' : (match m2[n]? with
        | some (.dT kvs) => (match keyT y with
          | some k => if (valD kvs k).isSome = true then some (m2.set n (.dT (dropD kvs k))) else none
          | none => none)
        | some (.dK kvs) => (match keyK y with
          | some k => if (valD kvs k).isSome = true then some (m2.set n (.dK (dropD kvs k))) else none
          | none => none)
        | _ => none) = some m3 := es
      cases em : m2[n]? with
      | none => rw [em] at h'; cases h'
      | some w =>
        rw [em] at h'
        cases w with
        | dT kvs =>
          have h2 : (match keyT y with
            | some k => if (valD kvs k).isSome = true then some (m2.set n (.dT (dropD kvs k))) else none
            | none => none) = some m3 := h'
          cases ek : keyT y with
          | none => rw [ek] at h2; cases h2
          | some k =>
            rw [ek] at h2
            have h3 : (if (valD kvs k).isSome = true then some (m2.set n (.dT (dropD kvs k))) else none) = some m3 := h2
            by_cases c : (valD kvs k).isSome = true
            · rw [if_pos c] at h3
              cases h3
              obtain ⟨ks, e1, e2⟩ := hr2.ob n p _ ep em
              obtain ⟨bb, rfl, hb⟩ := keyT_ok ek ry
              have ln := Leans.put hr2 ep (u := HO.dT (dropK ks k))
              exact .inr ⟨p, bb, ks, k, rfl, rfl, e1, hb, by rw [(e2.val k).1]; exact c, SG.nxA o2 (Post.put ep) (hr2.put ep ⟨_, upd_same, KVs.drop k (KVs.mono ln _ _ e2)⟩) (sr2.mono ln)⟩
            · rw [if_neg c] at h3
              cases h3
        | dK kvs =>
          have h2 : (match keyK y with
            | some k => if (valD kvs k).isSome = true then some (m2.set n (.dK (dropD kvs k))) else none
            | none => none) = some m3 := h'
          cases ek : keyK y with
          | none => rw [ek] at h2; cases h2
          | some k =>
            rw [ek] at h2
            have h3 : (if (valD kvs k).isSome = true then some (m2.set n (.dK (dropD kvs k))) else none) = some m3 := h2
            by_cases c : (valD kvs k).isSome = true
            · rw [if_pos c] at h3
              cases h3
              obtain ⟨ks, e1, e2⟩ := hr2.ob n p _ ep em
              have ez := keyK_ok ek ry
              subst ez
              have ln := Leans.put hr2 ep (u := HO.dK (dropK ks k))
              exact .inl ⟨p, ks, k, rfl, e1, rfl, by rw [(e2.val k).1]; exact c, SG.nxA o2 (Post.put ep) (hr2.put ep ⟨_, upd_same, KVs.drop k (KVs.mono ln _ _ e2)⟩) (sr2.mono ln)⟩
            · rw [if_neg c] at h3
              cases h3
        | _ => cases h'
    | _ => cases es
/-- o.f = v -/
def sFld (C f : String) (fo fv : DE) : DS := fun δ m => (fv δ m).toS δ fun d m1 => (fo δ m1).toS δ fun x m2 => match insAt C x m2 with
  | some (n, fl) => if fl.length < 100 then .nx δ (m2.set n (.ins C (putFD fl f d))) else .bad
  | none => .bad
theorem z_fld {C nm : String} (cl : Cls X.K (He.ga X.K (Str.ofString C))) (na : NoAttr X.K (He.ga X.K (Str.ofString C)) (Str.ofString nm)) (po : PE X o (tD X.K W fo)) (pv : PE X value (tD X.K W fv))
    (hs : swapsWith value (some (.Attribute o (Str.ofString nm) pos')) pos.line X.env = pure false := by rfl) : PS X (.Assign [.Attribute o (Str.ofString nm) pos'] value pos) (tDS X.K W (sFld C nm fo fv)) := by
  refine PS.imp (ps_fld po pv hs) fun E σ H ⟨ρ, δ, m, sr, hr, oo⟩ => ?_
  refine SG.part sr hr oo fun d v ρ1 H1 m1 q1 p1 sr1 hr1 rd o1 => ?_
  refine SG.part sr1 hr1 o1 fun x u ρ2 H2 m2 q2 p2 sr2 hr2 rx o2 => ?_
  have rd := VR.mono (p2.leans hr1) _ _ rd
  cases ei : insAt C x m2 with
  | none => rw [ei] at o2; exact o2.elim
  | some w =>
    obtain ⟨n, fl⟩ := w
    rw [ei] at o2
    obtain ⟨c, o3⟩ := SG.guard o2
    obtain ⟨rfl, em, p, dx, ys, rfl, ep, e1, e2⟩ := insAt_ok hr2 ei rx
    have ln := Leans.put hr2 ep (u := HO.ins (He.ga X.K (Str.ofString C)) dx (putF (Str.ofString nm) v ys))
    exact ⟨p, _, dx, ys, rfl, e1, cl, na, by rw [← e2.length]; omega, SG.nxA o3 (Post.put ep) (hr2.put ep ⟨dx, _, upd_same, FVs.put (VR.mono ln _ _ rd) (FVs.mono ln _ _ e2)⟩) (sr2.mono ln)⟩
/-- x op= e -/
def sAug (op : D → D → M → Out D) (i : Nat) (f : DE) : DS := fun δ m => match δ[i]? with
  | some (some x) => (f δ m).toS δ fun y m1 => (op x y m1).toS δ fun z m2 => .nx (δ.set i (some z)) m2
  | _ => .bad
def DoesIp (X : Cx) (r : TIp) (op : D → D → M → Out D) : Prop := ∀ (x y : D) (v u : V) (ρ : List Addr) (H : Hp) (m : M) (Q : VK) (E : XK), HR X.K ρ H m → VR X.K ρ H x v → VR X.K ρ H y u → OG X.K (VR X.K) ρ H (op x y m) Q E → r v u H Q
theorem z_aug {i : Nat} {x : Str} {op : Operator} {r : TIp} {opd : D → D → M → Out D} (hN : X.N.Nodup) (hi : X.N[i]? = some x) (hx : Loc X.env.scope x) (ho : PIp X op r) (k : DoesIp X r opd) (pe : PE X e (tD X.K W f)) (hf : X.fn x = true ∨ X.env.scope.names.lookup x = some .local := by first | exact .inl rfl | exact .inr rfl | assumption) :
    PS X (.AugAssign (.Name x pos') op e pos) (tDS X.K W (sAug opd i f)) := by
  refine PS.imp (ps_aug hN hi hx pe ho hf) fun E σ H ⟨ρ, δ, m, sr, hr, oo⟩ => ?_
  unfold sAug at oo
  cases ed : δ[i]? with
  | none => rw [ed] at oo; exact oo.elim
  | some w =>
    cases w with
    | none => rw [ed] at oo; exact oo.elim
    | some d =>
      rw [ed] at oo
      obtain ⟨v, e1, e2⟩ := sr.at_ i d ed
      refine ⟨v, e1, ?_⟩
      refine SG.part sr hr oo fun y u ρ1 H1 m1 q1 p1 sr1 hr1 ry o1 => ?_
      refine k d y v u ρ1 H1 m1 _ (fun c dd H' => W c dd σ H') hr1 (VR.mono (p1.leans hr) _ _ e2) ry ?_
      cases eo : opd d y m1 with
      | bad => rw [eo] at o1; exact o1.elim
      | exc c x m2 => rw [eo] at o1; exact fun ρ2 dd H2 p2 hr2 xd => o1 ρ2 σ dd H2 p2 hr2 (sr1.mono (p2.leans hr1)) xd
      | ok z m2 =>
        rw [eo] at o1
        exact fun ρ2 w H2 p2 hr2 rw => SG.nxA o1 p2 hr2 ((sr1.mono (p2.leans hr1)).set rw)
theorem doesIp_add : DoesIp X (ipI (· + ·)) (dInt2 fun i j => .int (i + j)) := by
  intro x y v u ρ H m Q E hr rx ry o
  cases x with
  | int i => cases y with
    | int j => cases rx; cases ry; exact ⟨i, j, rfl, rfl, OG.ok o hr rfl⟩
    | _ => exact o.elim
  | _ => exact o.elim
theorem doesIp_sub : DoesIp X (ipI (· - ·)) (dInt2 fun i j => .int (i - j)) := by
  intro x y v u ρ H m Q E hr rx ry o
  cases x with
  | int i => cases y with
    | int j => cases rx; cases ry; exact ⟨i, j, rfl, rfl, OG.ok o hr rfl⟩
    | _ => exact o.elim
  | _ => exact o.elim
end
end PD
end

section
set_option maxHeartbeats 100000
/-! Loops as functions. -/
namespace PD
open PySem PySem.Spec L2
theorem PI.imp {X : Cx} {tg e : Expr} {t t' : TI} (h : PI X tg e t) (k : ∀ σ H R, t' σ H R → t σ H R) : PI X tg e t' := ⟨fun pins s σ H R I q => h.run pins s σ H R I (k σ H R q)⟩
theorem PI.or {X : Cx} {tg e : Expr} {t u : TI} (h : PI X tg e t) (h' : PI X tg e u) : PI X tg e (fun σ H R => t σ H R ∨ u σ H R) := ⟨fun pins s σ H R I q => q.elim (h.run pins s σ H R I) (h'.run pins s σ H R I)⟩

/-- what is walked: items, or the list with a number as it stands at each turn -/
inductive ItD where
  | items (xs : List D) | live (n : Nat)
/-- items that an iterator of the layer yields -/
structure Gives (K : PySem.W.Frag) (J : It) (P : List Addr → Hp → Prop) (xs : List D) : Prop where
  mono : ∀ ρ H ρ' H', P ρ H → Leans ρ H ρ' H' → P ρ' H'
  stop : ∀ ρ H i, P ρ H → xs.length ≤ i → J.stop i H
  go : ∀ ρ H i x, P ρ H → xs[i]? = some x → J.go i H
  yld : ∀ ρ H i x y H', P ρ H → xs[i]? = some x → J.yld i H y H' → H' = H ∧ VR K ρ H x y
def RI (K : PySem.W.Frag) (ρ : List Addr) (H : Hp) : ItD → It → Prop
  | .items xs, J => ∃ P : List Addr → Hp → Prop, P ρ H ∧ Gives K J P xs
  | .live n, J => ∃ a, J = Itl K a ∧ ρ[n]? = some a
abbrev tDI (K : PySem.W.Frag) (W : WX) (f : DSt → M → Out ItD) : TI := tG K (RI K) W f
theorem gives_rng {K : PySem.W.Frag} {lo : Int} {n : Nat} : Gives K (Itr lo n) (fun _ _ => True) ((List.range n).map fun (i : Nat) => D.int (lo + i)) where
  mono := fun _ _ _ _ _ _ => trivial
  stop := fun _ _ i _ h => by show n ≤ i; simpa using h
  go := fun _ _ i x _ h => by
    have := (List.getElem?_eq_some_iff.mp h).1
    simp at this
    exact this
  yld := fun ρ H i x y H' _ h e => by
    obtain ⟨e1, e2⟩ := e
    obtain ⟨h1, h2⟩ := List.getElem?_eq_some_iff.mp h
    simp at h2
    subst h2
    exact ⟨e1, e2⟩
theorem gives_tup {K : PySem.W.Frag} {a : Addr} {vs : List V} {xs : List D} (P : List Addr → Hp → Prop) (hm : ∀ ρ H ρ' H', P ρ H → Leans ρ H ρ' H' → P ρ' H') (ht : ∀ ρ H, P ρ H → SqT K H a vs ∧ VRs K ρ H xs vs) : Gives K (Itt K a) P xs where
  mono := hm
  stop := fun ρ H i p hi => by
    obtain ⟨h1, h2⟩ := ht ρ H p
    exact ⟨vs, h1, by rw [← h2.length]; exact hi⟩
  go := fun ρ H i x p h => by
    obtain ⟨h1, h2⟩ := ht ρ H p
    obtain ⟨v, e, _⟩ := h2.get h
    exact ⟨vs, v, h1, e⟩
  yld := fun ρ H i x y H' p h e => by
    obtain ⟨h1, h2⟩ := ht ρ H p
    obtain ⟨e1, e2⟩ := e
    obtain ⟨v, e3, r⟩ := h2.get h
    have e4 := e2 vs h1
    rw [e3] at e4
    cases e4
    exact ⟨e1, r⟩
theorem gives_lst {K : PySem.W.Frag} {a : Addr} {vs : List V} {xs : List D} (P : List Addr → Hp → Prop) (hm : ∀ ρ H ρ' H', P ρ H → Leans ρ H ρ' H' → P ρ' H') (ht : ∀ ρ H, P ρ H → SqL K H a vs ∧ VRs K ρ H xs vs) : Gives K (Itl K a) P xs where
  mono := hm
  stop := fun ρ H i p hi => by
    obtain ⟨h1, h2⟩ := ht ρ H p
    exact ⟨vs, h1, by rw [← h2.length]; exact hi⟩
  go := fun ρ H i x p h => by
    obtain ⟨h1, h2⟩ := ht ρ H p
    obtain ⟨v, e, _⟩ := h2.get h
    exact ⟨vs, v, h1, e⟩
  yld := fun ρ H i x y H' p h e => by
    obtain ⟨h1, h2⟩ := ht ρ H p
    obtain ⟨e1, e2⟩ := e
    obtain ⟨v, e3, r⟩ := h2.get h
    have e4 := e2 vs h1
    rw [e3] at e4
    cases e4
    exact ⟨e1, r⟩
section
variable {X : Cx} {W : WX} {tg iter e c a b : Expr} {f g : DE} {fs : DA} {fb : DB} {pos p : Pos}
/-- a list, a tuple -/
def iterD : D → M → Out ItD
  | .tup xs, m => .ok (.items xs) m
  | .wt xs, m => .ok (.items xs) m
  | .wl xs, m => .ok (.items xs) m
  | .ref n, m => match lsAt m n with
    | some _ => .ok (.live n) m
    | none => .bad
  | _, _ => .bad
def iSeq (f : DE) : DSt → M → Out ItD := fun δ m => (f δ m).bind iterD
def isTup : D → Bool
  | .tup _ => true
  | .wt _ => true
  | _ => false
theorem xi_seq (pe : PE X e (tD X.K W f)) : PI X tg e (tDI X.K W (iSeq f)) := by
  refine PI.imp (PI.or (pi_list pe) (pi_tup pe)) fun σ H R ⟨ρ, δ, m, sr, hr, o⟩ => ?_
  cases hw : (match f δ m with | .ok x _ => isTup x | _ => false) with
  | true =>
    refine .inr (OG.part sr hr o fun x v ρ1 H1 m1 q1 p1 sr1 hr1 rx o1 => ?_)
    rw [q1] at hw
    cases x with
    | tup xs =>
      obtain ⟨a, vs, rfl, h1, h2⟩ := rx
      exact ⟨a, rfl, ⟨vs, .inl (.inl h1)⟩, OG.ok (R := RI X.K) (a := .items xs) o1 hr1 ⟨fun ρ H => H a = some (.tup vs) ∧ VRs X.K ρ H xs vs, ⟨h1, h2⟩, gives_tup _ (fun _ _ _ _ h l => ⟨l.k _ _ h.1 id, VRs.mono l _ _ h.2⟩) fun _ _ h => ⟨.inl (.inl h.1), h.2⟩⟩⟩
    | wt xs =>
      obtain ⟨a, vs, rfl, h1, h2⟩ := rx
      exact ⟨a, rfl, ⟨vs, h1 _⟩, OG.ok (R := RI X.K) (a := .items xs) o1 hr1 ⟨fun ρ H => VRs X.K ρ H xs vs, h2, gives_tup _ (fun _ _ _ _ h l => VRs.mono l _ _ h) fun _ _ h => ⟨h1 _, h⟩⟩⟩
    | _ => cases hw
  | false =>
    refine .inl (OG.part sr hr o fun x v ρ1 H1 m1 q1 p1 sr1 hr1 rx o1 => ?_)
    rw [q1] at hw
    cases x with
    | wl xs =>
      obtain ⟨a, vs, rfl, h1, h2⟩ := rx
      refine ⟨a, rfl, ⟨vs, h1.elim (fun z => z _) fun ⟨o, z⟩ => .inl (.inr ⟨o, z⟩)⟩, OG.ok (R := RI X.K) (a := .items xs) o1 hr1 ⟨fun ρ H => ((∀ H' : Hp, SqL X.K H' a vs) ∨ ∃ o, H a = some (.frz o (.lst vs))) ∧ VRs X.K ρ H xs vs, ⟨h1, h2⟩, gives_lst _ (fun _ _ _ _ h l => ⟨h.1.imp id fun ⟨o, z⟩ => ⟨o, l.k _ _ z id⟩, VRs.mono l _ _ h.2⟩) fun _ _ h => ⟨h.1.elim (fun z => z _) fun ⟨o, z⟩ => .inl (.inr ⟨o, z⟩), h.2⟩⟩⟩
    | ref n =>
      have o2 : OG X.K (RI X.K) ρ1 H1 (match lsAt m1 n with | some _ => .ok (.live n) m1 | none => .bad) R (fun c d H' => W c d σ H') := o1
      cases el : lsAt m1 n with
      | none => rw [el] at o2; exact o2.elim
      | some xs =>
        rw [el] at o2
        obtain ⟨a, vs, rfl, ea, e1, e2⟩ := lsAt_H hr1 el rx
        exact ⟨a, rfl, ⟨vs, .inl (.inl e1)⟩, OG.ok (R := RI X.K) (a := .live n) o2 hr1 ⟨a, rfl, ea⟩⟩
    | tup _ => cases hw
    | wt _ => cases hw
    | _ => exact o1.elim
/-- range(a), range(a, b) -/
def rngD (lo hi : Int) : List D := (List.range (hi - lo).toNat).map fun (i : Nat) => D.int (lo + i)
def rngOk (j : Int) : Bool := decide (-1000000 ≤ j) && decide (j ≤ 1000000)
theorem rngOk_of {j : Int} (h : rngOk j = true) : -1000000 ≤ j ∧ j ≤ 1000000 := by
  unfold rngOk at h
  simpa using h
def iRange1 : List D → M → Out ItD
  | [.int j], m => if rngOk j = true then .ok (.items (rngD 0 j)) m else .bad
  | _, _ => .bad
def iRange2 : List D → M → Out ItD
  | [.int i, .int j], m => if (rngOk i && rngOk j) = true then .ok (.items (rngD i j)) m else .bad
  | _, _ => .bad
def iRng1 (fs : DA) : DSt → M → Out ItD := fun δ m => (fs δ m).bind iRange1
def iRng2 (fs : DA) : DSt → M → Out ItD := fun δ m => (fs δ m).bind iRange2
theorem iRange1_ok {xs : List D} {m m' : M} {I : ItD} (h : iRange1 xs m = .ok I m') : ∃ j, xs = [.int j] ∧ rngOk j = true ∧ I = .items (rngD 0 j) ∧ m' = m := by
  unfold iRange1 at h
  split at h
  · next j =>
    by_cases c : rngOk j = true
    · rw [if_pos c] at h
      cases h
      exact ⟨j, rfl, c, rfl, rfl⟩
    · rw [if_neg c] at h
      cases h
  · cases h
theorem iRange1_noexc {xs : List D} {m m' : M} {c : String} {p : Option (String × D)} : iRange1 xs m ≠ .exc c p m' := by
  intro h
  unfold iRange1 at h
  split at h
  · split at h <;> cases h
  · cases h
theorem iRange2_ok {xs : List D} {m m' : M} {I : ItD} (h : iRange2 xs m = .ok I m') : ∃ i j, xs = [.int i, .int j] ∧ (rngOk i && rngOk j) = true ∧ I = .items (rngD i j) ∧ m' = m := by
  unfold iRange2 at h
  split at h
  · next i j =>
    by_cases c : (rngOk i && rngOk j) = true
    · rw [if_pos c] at h
      cases h
      exact ⟨i, j, rfl, c, rfl, rfl⟩
    · rw [if_neg c] at h
      cases h
  · cases h
theorem iRange2_noexc {xs : List D} {m m' : M} {c : String} {p : Option (String × D)} : iRange2 xs m ≠ .exc c p m' := by
  intro h
  unfold iRange2 at h
  split at h
  · split at h <;> cases h
  · cases h
theorem OG.cases {K : PySem.W.Frag} {α β : Type} {R : List Addr → Hp → α → β → Prop} {ρ : List Addr} {H : Hp} {o : Out α} {Q : β → Hp → Prop} {E : XK} (h : OG K R ρ H o Q E) (hn : ∀ c p m, o ≠ .exc c p m) : ∃ a m, o = .ok a m := by
  cases o with
  | ok a m => exact ⟨a, m, rfl⟩
  | exc c p m => exact absurd rfl (hn c p m)
  | bad => exact h.elim
theorem xi_range1 (hg : Gl X "range") (hm : X.mg "range" = none) (pa : PA X [a] (tDA X.K W fs)) (hs : starEach [a] X.env = [(false, eval a X.env)] := by rfl) : PI X tg (.Call (.Name "range" p) [a] [] pos) (tDI X.K W (iRng1 fs)) := by
  refine PI.imp (pi_range1 hg hm pa hs) fun σ H R ⟨ρ, δ, m, sr, hr, o⟩ => ?_
  refine OG.part sr hr o fun xs vs ρ1 H1 m1 q1 p1 sr1 hr1 rx o1 => ?_
  obtain ⟨I, m2, e⟩ := o1.cases fun _ _ _ => iRange1_noexc
  rw [e] at o1
  obtain ⟨j, rfl, c, rfl, rfl⟩ := iRange1_ok e
  obtain ⟨v, r, rfl, h1, h2⟩ := rx
  cases h1
  cases h2
  have c := rngOk_of c
  have e : (j - 0).toNat = j.toNat := by rw [Int.sub_zero]
  have g : Gives X.K (Itr 0 j.toNat) (fun _ _ => True) (rngD 0 j) := by
    unfold rngD
    rw [e]
    exact gives_rng
  refine ⟨j, rfl, ?_, ?_, OG.ok (R := RI X.K) (a := .items (rngD 0 j)) o1 hr1 ⟨fun _ _ => True, trivial, g⟩⟩
  · exact Int.le_trans (by decide) c.1
  · exact Int.lt_of_le_of_lt c.2 (by decide)
theorem xi_range2 (hg : Gl X "range") (hm : X.mg "range" = none) (pa : PA X [a, b] (tDA X.K W fs)) (hs : starEach [a, b] X.env = [(false, eval a X.env), (false, eval b X.env)] := by rfl) (hs2 : starEach [b] X.env = [(false, eval b X.env)] := by rfl) : PI X tg (.Call (.Name "range" p) [a, b] [] pos) (tDI X.K W (iRng2 fs)) := by
  refine PI.imp (pi_range2 hg hm pa hs hs2) fun σ H R ⟨ρ, δ, m, sr, hr, o⟩ => ?_
  refine OG.part sr hr o fun xs vs ρ1 H1 m1 q1 p1 sr1 hr1 rx o1 => ?_
  obtain ⟨I, m2, e⟩ := o1.cases fun _ _ _ => iRange2_noexc
  rw [e] at o1
  obtain ⟨i, j, rfl, c, rfl, rfl⟩ := iRange2_ok e
  obtain ⟨v, r, rfl, h1, v2, r2, rfl, h3, h2⟩ := rx
  cases h1
  cases h3
  cases h2
  obtain ⟨c1, c2⟩ := Bool.and_eq_true_iff.mp c
  have c1 := rngOk_of c1
  have c2 := rngOk_of c2
  refine ⟨i, j, rfl, ⟨?_, ?_, ?_, ?_⟩, OG.ok (R := RI X.K) (a := .items (rngD i j)) o1 hr1 ⟨fun _ _ => True, trivial, gives_rng⟩⟩
  · exact Int.le_trans (by decide) c1.1
  · exact Int.lt_of_le_of_lt c1.2 (by decide)
  · exact Int.le_trans (by decide) c2.1
  · exact Int.lt_of_le_of_lt c2.2 (by decide)
/-! ### for -/
/-- behind a turn's body -/
def after (o : SO) (k : DSt → M → SO) : SO := match o with
  | .nx δ m => k δ m
  | .ct δ m => k δ m
  | .bk δ m => .nx δ m
  | .rt d m => .rt d m
  | .exc δ c p m => .exc δ c p m
  | .bad => .bad
@[simp] theorem after_nx {δ : DSt} {m : M} {k : DSt → M → SO} : after (.nx δ m) k = k δ m := rfl
@[simp] theorem after_ct {δ : DSt} {m : M} {k : DSt → M → SO} : after (.ct δ m) k = k δ m := rfl
@[simp] theorem after_bk {δ : DSt} {m : M} {k : DSt → M → SO} : after (.bk δ m) k = .nx δ m := rfl
@[simp] theorem after_rt {d : D} {m : M} {k : DSt → M → SO} : after (.rt d m) k = .rt d m := rfl
theorem after_ok {K : PySem.W.Frag} {W : WX} {ρ : List Addr} {H : Hp} {m : M} {E : Ends} {o : SO} {k : DSt → M → SO} {N : L2.St → Hp → Prop} (hr : HR K ρ H m) (h : SG K W ρ H (after o k) E)
    (hN : ∀ δ2 m2 ρ3 σ3 H3, Post ρ H ρ3 H3 → HR K ρ3 H3 m2 → SR K ρ3 H3 σ3 δ2 → SG K W ρ3 H3 (k δ2 m2) E → N σ3 H3) : SG K W ρ H o { E with nx := N, ct := N, bk := E.nx } := by
  cases o with
  | nx δ2 m2 => exact fun ρ3 σ3 H3 p3 hr3 sr3 => hN δ2 m2 ρ3 σ3 H3 p3 hr3 sr3 (SG.later p3 h)
  | ct δ2 m2 => exact fun ρ3 σ3 H3 p3 hr3 sr3 => hN δ2 m2 ρ3 σ3 H3 p3 hr3 sr3 (SG.later p3 h)
  | bk δ2 m2 => exact h
  | rt d m2 => exact h
  | exc δ2 c x m2 => exact h
  | bad => exact h
def loopI (t : TD) (body : DS) : List D → DSt → M → SO
  | [], δ, m => .nx δ m
  | x :: xs, δ, m => match t x δ with
    | none => .bad
    | some δ1 => after (body δ1 m) (loopI t body xs)
def loopL (t : TD) (body : DS) (n : Nat) : Nat → Nat → DSt → M → SO
  | 0, i, δ, m => match lsAt m n with
    | none => .bad
    | some xs => match xs[i]? with
      | none => .nx δ m
      | some _ => .bad
  | k + 1, i, δ, m => match lsAt m n with
    | none => .bad
    | some xs => match xs[i]? with
      | none => .nx δ m
      | some x => match t x δ with
        | none => .bad
        | some δ1 => after (body δ1 m) (loopL t body n k (i + 1))
def sFor (it : DSt → M → Out ItD) (t : TD) (body : DS) : DS := fun δ m => (it δ m).toS δ fun I m1 => match I with
  | .items xs => loopI t body xs δ m1
  | .live n => match lsAt m1 n with
    | some xs => loopL t body n xs.length 0 δ m1
    | none => .bad
theorem z_for {body : List Stmt} {it : DSt → M → Out ItD} {gt : TG} {t : TD} {bd : DS} (hp : PassesOwn (model X.prog X.w) X.A X.env X.xe) (hc : X.calm = true) (pi : PI X tg iter (tDI X.K W it)) (dt : DoesT X gt t) (pg : PG X tg gt) (pb : PSs X body (tDS X.K W bd))
    (hs : ∀ x, foldedSetIterable iter X.env x = pure x := by intro _; rfl) : PS X (.For tg iter body [] pos) (tDS X.K W (sFor it t bd)) := by
  refine PS.imp (ps_for hp hc pi pg pb hs) fun E σ H ⟨ρ, δ, m, sr, hr, o⟩ => ?_
  refine SG.part sr hr o fun I J ρ1 H1 m1 q1 p1 sr1 hr1 rI o1 => ?_
  cases I with
  | items xs =>
    obtain ⟨P, hP, G⟩ := rI
    refine ⟨fun i k σ H => ∃ ρ δ m, P ρ H ∧ SR X.K ρ H σ δ ∧ HR X.K ρ H m ∧ k = xs.length - i ∧ i ≤ xs.length ∧ SG X.K W ρ H (loopI t bd (xs.drop i) δ m) E, ⟨xs.length, ρ1, δ, m1, hP, sr1, hr1, by simp, Nat.zero_le _, by simpa using o1⟩, ?_⟩
    rintro i k σ H ⟨ρ, δ, m, hP, sr, hr, rfl, hi, o⟩
    by_cases hl : i < xs.length
    · refine .inr ⟨G.go ρ H i xs[i] hP (List.getElem?_eq_getElem hl), fun σ' H' => ∃ ρ' δ' m', P ρ' H' ∧ SR X.K ρ' H' σ' δ' ∧ HR X.K ρ' H' m' ∧ SG X.K W ρ' H' (loopI t bd (xs.drop (i + 1)) δ' m') E, fun σ' H' ⟨ρ', δ', m', h1, h2, h3, h4⟩ => ⟨xs.length - (i + 1), by omega, ρ', δ', m', h1, h2, h3, rfl, hl, h4⟩, fun y H' hy => ?_⟩
      obtain ⟨rfl, ry⟩ := G.yld ρ H i xs[i] y H' hP (List.getElem?_eq_getElem hl) hy
      rw [List.drop_eq_getElem_cons hl] at o
      simp only [loopI] at o
      cases et : t xs[i] δ with
      | none => simp only [et] at o; exact o.elim
      | some δ1 =>
        simp only [et] at o
        refine dt xs[i] y ρ _ m σ δ δ1 _ hr sr ry et fun σ2 sr2 => ⟨ρ, δ1, m, sr2, hr, ?_⟩
        exact after_ok hr o fun δ2 m2 ρ3 σ3 H3 p3 hr3 sr3 o3 => ⟨ρ3, δ2, m2, G.mono _ _ _ _ hP (p3.leans hr), sr3, hr3, o3⟩
    · have e : i = xs.length := by omega
      subst e
      rw [List.drop_length] at o
      exact .inl ⟨G.stop ρ H _ hP (Nat.le_refl _), SG.nx o hr sr⟩
  | live n =>
    obtain ⟨a, rfl, ea⟩ := rI
    have o2 : SG X.K W ρ1 H1 (match lsAt m1 n with
      | some xs => loopL t bd n xs.length 0 δ m1
      | none => .bad) E := o1
    cases el : lsAt m1 n with
    | none => rw [el] at o2; exact o2.elim
    | some xs0 =>
      rw [el] at o2
      refine ⟨fun i k σ H => ∃ ρ δ m, ρ[n]? = some a ∧ SR X.K ρ H σ δ ∧ HR X.K ρ H m ∧ SG X.K W ρ H (loopL t bd n k i δ m) E, ⟨xs0.length, ρ1, δ, m1, ea, sr1, hr1, o2⟩, ?_⟩
      rintro i k σ H ⟨ρ, δ, m, ea, sr, hr, o⟩
      cases el : lsAt m n with
      | none => cases k <;> (simp only [loopL, el] at o; exact o.elim)
      | some xs =>
        obtain ⟨ys, e1, e2⟩ := hr.ob n a _ ea (lsAt_ok el)
        cases ex : xs[i]? with
        | none =>
          have o3 : SG X.K W ρ H (.nx δ m) E := by cases k <;> (simp only [loopL, el, ex] at o; exact o)
          exact .inl ⟨⟨ys, .inl (.inl e1), by rw [← e2.length]; exact List.getElem?_eq_none_iff.mp ex⟩, SG.nx o3 hr sr⟩
        | some x =>
          obtain ⟨v, e3, rv⟩ := e2.get ex
          cases k with
          | zero => simp only [loopL, el, ex] at o; exact o.elim
          | succ k =>
            simp only [loopL, el, ex] at o
            refine .inr ⟨⟨ys, v, .inl (.inl e1), e3⟩, fun σ' H' => ∃ ρ' δ' m', ρ'[n]? = some a ∧ SR X.K ρ' H' σ' δ' ∧ HR X.K ρ' H' m' ∧ SG X.K W ρ' H' (loopL t bd n k (i + 1) δ' m') E, fun σ' H' h => ⟨k, Nat.lt_succ_self k, h⟩, fun y H' hy => ?_⟩
            obtain ⟨e4, e5⟩ := hy
            subst e4
            have e6 := e5 ys (.inl (.inl e1))
            rw [e3] at e6
            cases e6
            cases et : t x δ with
            | none => simp only [et] at o; exact o.elim
            | some δ1 =>
              simp only [et] at o
              refine dt x v ρ _ m σ δ δ1 _ hr sr rv et fun σ2 sr2 => ⟨ρ, δ1, m, sr2, hr, ?_⟩
              exact after_ok hr o fun δ2 m2 ρ3 σ3 H3 p3 hr3 sr3 o3 => ⟨ρ3, δ2, m2, p3.get ea, sr3, hr3, o3⟩
/-! ### while -/
def loopW (t : DB) (body : DS) : Nat → DSt → M → SO
  | 0, _, _ => .bad
  | k + 1, δ, m => (t δ m).toS δ fun b m1 => if b = true then after (body δ m1) (loopW t body k) else .nx δ m1
/-- N: more than the turns -/
def sWhile (N : Nat) (t : DB) (body : DS) : DS := loopW t body N
theorem z_while {body : List Stmt} {bd : DS} (N : Nat) (hp : PassesOwn (model X.prog X.w) X.A X.env X.xe) (pt : PT X c (tDB X.K W fb)) (pb : PSs X body (tDS X.K W bd)) : PS X (.While c body [] pos) (tDS X.K W (sWhile N fb bd)) := by
  refine PS.imp (ps_while hp pt pb) fun E σ H ⟨ρ, δ, m, sr, hr, o⟩ => ?_
  refine ⟨fun k σ H => ∃ ρ δ m, SR X.K ρ H σ δ ∧ HR X.K ρ H m ∧ SG X.K W ρ H (loopW fb bd k δ m) E, ⟨N, ρ, δ, m, sr, hr, o⟩, ?_⟩
  rintro k σ H ⟨ρ, δ, m, sr, hr, o⟩
  cases k with
  | zero => exact o.elim
  | succ k =>
    simp only [loopW] at o
    refine SG.part sr hr o fun x v ρ1 H1 m1 q1 p1 sr1 hr1 rx o1 => ?_
    subst rx
    cases x with
    | false =>
      rw [if_neg Bool.false_ne_true] at o1 ⊢
      exact SG.nx o1 hr1 sr1
    | true =>
      rw [if_pos rfl] at o1 ⊢
      refine ⟨fun σ' H' => ∃ ρ' δ' m', SR X.K ρ' H' σ' δ' ∧ HR X.K ρ' H' m' ∧ SG X.K W ρ' H' (loopW fb bd k δ' m') E, fun σ' H' h => ⟨k, Nat.lt_succ_self k, h⟩, ρ1, δ, m1, sr1, hr1, ?_⟩
      exact after_ok hr1 o1 fun δ2 m2 ρ3 σ3 H3 p3 hr3 sr3 o3 => ⟨ρ3, δ2, m2, sr3, hr3, o3⟩
end
end PD
end

section
set_option maxHeartbeats 200000
/-! Comprehensions as functions. -/
namespace PD
open PySem PySem.Spec L2
/-! ### targets that touch some slots alone -/
structure Off (is : List Nat) (σ σ' : L2.St) : Prop where
  len : σ'.length = σ.length
  at_ : ∀ i, i ∉ is → σ'[i]? = σ[i]?
theorem Off.rfl' {is : List Nat} {σ : L2.St} : Off is σ σ := ⟨rfl, fun _ _ => rfl⟩
theorem Off.trans {is js : List Nat} {σ σ1 σ2 : L2.St} (h : Off is σ σ1) (h' : Off js σ1 σ2) : Off (is ++ js) σ σ2 :=
  ⟨h'.len.trans h.len, fun i hi => by
    simp only [List.mem_append, not_or] at hi
    exact (h'.at_ i hi.2).trans (h.at_ i hi.1)⟩
def DoesA (X : Cx) (g : TG) (t : TD) (is : List Nat) : Prop := ∀ (x : D) (v : V) (ρ : List Addr) (H : Hp) (m : M) (σ : L2.St) (δ δ' : DSt) (Q : L2.St → Hp → Prop), HR X.K ρ H m → SR X.K ρ H σ δ → VR X.K ρ H x v → t x δ = some δ' → (∀ σ', SR X.K ρ H σ' δ' → Off is σ σ' → Q σ' H) → g v σ H Q
def DoesAs (X : Cx) (g : TGs) (t : List D → DSt → Option DSt) (is : List Nat) : Prop := ∀ (xs : List D) (vs : List V) (ρ : List Addr) (H : Hp) (m : M) (σ : L2.St) (δ δ' : DSt) (Q : L2.St → Hp → Prop), HR X.K ρ H m → SR X.K ρ H σ δ → VRs X.K ρ H xs vs → t xs δ = some δ' → (∀ σ', SR X.K ρ H σ' δ' → Off is σ σ' → Q σ' H) → g vs σ H Q
section
variable {X : Cx}
theorem doesA_name {i : Nat} : DoesA X (gName i) (gN i) [i] := fun x v ρ H m σ δ δ' Q hr sr rx e k => by
  cases e
  exact k _ (sr.set rx) ⟨by simp, fun j hj => List.getElem?_set_ne (fun z => hj (by simp [z]))⟩
theorem doesAs_nil : DoesAs X gNil gsNil [] := fun xs vs ρ H m σ δ δ' Q hr sr rx e k => by
  cases xs with
  | nil => cases e; exact ⟨rx, k _ sr Off.rfl'⟩
  | cons _ _ => cases e
theorem doesAs_cons {g : TG} {t : TD} {gs : TGs} {u : List D → DSt → Option DSt} {is js : List Nat} (h1 : DoesA X g t is) (h2 : DoesAs X gs u js) : DoesAs X (gCons g gs) (gsCons t u) (is ++ js) := fun xs vs ρ H m σ δ δ' Q hr sr rx e k => by
  cases xs with
  | nil => cases e
  | cons x xs =>
    obtain ⟨v, r, rfl, r1, r2⟩ := rx
    obtain ⟨δ1, e1, e2⟩ := Option.bind_eq_some_iff.mp e
    exact ⟨v, r, rfl, h1 x v ρ H m σ δ δ1 _ hr sr r1 e1 fun σ' sr' o1 => h2 xs r ρ H m σ' δ1 δ' Q hr sr' r2 e2 fun σ2 sr2 o2 => k σ2 sr2 (o1.trans o2)⟩
theorem doesA_tup {n : Nat} {gs : TGs} {u : List D → DSt → Option DSt} {is : List Nat} (h : DoesAs X gs u is) : DoesA X (gTup X.K n gs) (gT n u) is := fun x v ρ H m σ δ δ' Q hr sr rx e k => by
  unfold gT at e
  cases et : tupItems x with
  | none => rw [et] at e; cases e
  | some ds =>
    rw [et] at e
    have e2 : (if ds.length = n then u ds δ else none) = some δ' := e
    by_cases c : ds.length = n
    · rw [if_pos c] at e2
      obtain ⟨a, ys, e3, e4, e5⟩ : ∃ a ys, v = .ref a ∧ SqT X.K H a ys ∧ VRs X.K ρ H ds ys := by
        cases x with
        | tup xs => cases et; obtain ⟨a, ys, h1, h2, h3⟩ := rx; exact ⟨a, ys, h1, .inl (.inl h2), h3⟩
        | wt xs => cases et; obtain ⟨a, ys, h1, h2, h3⟩ := rx; exact ⟨a, ys, h1, h2 H, h3⟩
        | _ => cases et
      exact ⟨a, ys, e3, e4, by rw [← e5.length]; exact c, h ds ys ρ H m σ δ δ' Q hr sr e5 e2 k⟩
    · rw [if_neg c] at e2
      cases e2
end
theorem wipe_at {σ : L2.St} {i : Nat} : ∀ {vs : List Nat}, (wipe σ vs)[i]? = if i ∈ vs ∧ i < σ.length then some none else σ[i]?
  | [] => by simp [wipe]
  | v :: vs => by
    unfold wipe
    by_cases hv : v = i
    · subst hv
      by_cases hl : v < σ.length
      · rw [List.getElem?_set_self (by rw [wipe_length]; exact hl), if_pos ⟨by simp, hl⟩]
      · rw [List.getElem?_eq_none (by simpa [wipe_length] using hl), if_neg (fun z => hl z.2), List.getElem?_eq_none (by simpa using hl)]
    · rw [List.getElem?_set_ne hv, wipe_at (vs := vs)]
      have : (i ∈ v :: vs) = (i ∈ vs) := by
        simp only [List.mem_cons, eq_iff_iff]
        exact ⟨fun z => z.elim (fun w => absurd w.symm hv) id, .inr⟩
      simp only [this]
theorem wipe_off {is vs : List Nat} {σ σ' : L2.St} (h : Off is (wipe σ vs) σ') (hs : ∀ i ∈ is, i ∈ vs) : wipe σ' vs = wipe σ vs := by
  have hl : σ'.length = σ.length := by rw [h.len, wipe_length]
  refine List.ext_getElem? fun i => ?_
  rw [wipe_at, wipe_at, hl]
  by_cases c : i ∈ vs ∧ i < σ.length
  · rw [if_pos c, if_pos c]
  · rw [if_neg c, if_neg c]
    by_cases hi : i ∈ vs
    · have hn : ¬ i < σ.length := fun z => c ⟨hi, z⟩
      rw [List.getElem?_eq_none (by omega), List.getElem?_eq_none (by omega)]
    · rw [h.at_ i (fun z => hi (hs i z)), wipe_at, if_neg (fun z => hi z.1)]
def wipeD (δ : DSt) : List Nat → DSt
  | [] => δ
  | v :: vs => (wipeD δ vs).set v none
theorem SR.wipe {K : PySem.W.Frag} {ρ : List Addr} {H : Hp} {σ : L2.St} {δ : DSt} (h : SR K ρ H σ δ) : ∀ vs : List Nat, SR K ρ H (wipe σ vs) (wipeD δ vs)
  | [] => h
  | v :: vs => by
    have ih := SR.wipe h vs
    refine ⟨by simp [L2.wipe, wipeD, ih.len], fun i d e => ?_⟩
    unfold wipeD at e
    by_cases hv : v = i
    · subst hv
      by_cases hl : v < (wipeD δ vs).length
      · rw [List.getElem?_set_self hl] at e; cases e
      · rw [List.getElem?_eq_none (by simpa using hl)] at e; cases e
    · rw [List.getElem?_set_ne hv] at e
      obtain ⟨w, e1, e2⟩ := ih.at_ i d e
      exact ⟨w, by unfold L2.wipe; rw [List.getElem?_set_ne hv]; exact e1, e2⟩
/-! ### [elt for target in iter if test] -/
def itemAt (I : ItD) (i : Nat) (m : M) : Option (Option D) := match I with
  | .items xs => some xs[i]?
  | .live n => (lsAt m n).map (·[i]?)
def itemsN (I : ItD) (m : M) : Nat := match I with
  | .items xs => xs.length
  | .live n => match lsAt m n with
    | some xs => xs.length
    | none => 0
/-- one element more -/
def pushD (nD : Nat) (y : D) (m : M) : Option M := match lsAt m nD with
  | some acc => if acc.length < cap then some (m.set nD (.lst (acc ++ [y]))) else none
  | none => none
def compG (I : ItD) (t : TD) (test : DB) (elt : DE) (nD : Nat) (δw : DSt) : Nat → Nat → M → Out Unit
  | 0, i, m => match itemAt I i m with
    | none => .bad
    | some none => .ok () m
    | some (some _) => .bad
  | k + 1, i, m => match itemAt I i m with
    | none => .bad
    | some none => .ok () m
    | some (some x) => match t x δw with
      | none => .bad
      | some δ1 => match test δ1 m with
        | .ok true m1 => match elt δ1 m1 with
          | .ok y m2 => match pushD nD y m2 with
            | some m3 => compG I t test elt nD δw k (i + 1) m3
            | none => .bad
          | _ => .bad
        | .ok false m1 => compG I t test elt nD δw k (i + 1) m1
        | _ => .bad
def dLc (it : DSt → M → Out ItD) (t : TD) (vs : List Nat) (test : DB) (elt : DE) : DE := fun δ m => (it δ m).bind fun I m1 => (compG I t test elt m1.length (wipeD δ vs) (itemsN I m1) 0 (m1 ++ [.lst []])).bind fun _ m2 => .ok (.ref m1.length) m2
abbrev W0 : WX := fun _ _ _ _ => False
/-- an iterator of the layer and its items -/
structure Src (K : PySem.W.Frag) (J : It) (I : ItD) (P : List Addr → Hp → Prop) : Prop where
  mono : ∀ ρ H ρ' H', P ρ H → Leans ρ H ρ' H' → P ρ' H'
  stop : ∀ ρ H m i, P ρ H → HR K ρ H m → itemAt I i m = some none → J.stop i H
  go : ∀ ρ H m i x, P ρ H → HR K ρ H m → itemAt I i m = some (some x) → J.go i H
  yld : ∀ ρ H m i x y H', P ρ H → HR K ρ H m → itemAt I i m = some (some x) → J.yld i H y H' → H' = H ∧ VR K ρ H x y
theorem RI.src {K : PySem.W.Frag} {ρ : List Addr} {H : Hp} {I : ItD} {J : It} (h : RI K ρ H I J) : ∃ P, P ρ H ∧ Src K J I P := by
  cases I with
  | items xs =>
    obtain ⟨P, hP, G⟩ := h
    refine ⟨P, hP, G.mono, fun ρ H m i p hr e => ?_, fun ρ H m i x p hr e => ?_, fun ρ H m i x y H' p hr e hy => ?_⟩
    · exact G.stop ρ H i p (List.getElem?_eq_none_iff.mp (Option.some.inj e))
    · exact G.go ρ H i x p (Option.some.inj e)
    · exact G.yld ρ H i x y H' p (Option.some.inj e) hy
  | live n =>
    obtain ⟨a, rfl, ea⟩ := h
    have key : ∀ (ρ : List Addr) (H : Hp) (m : M) (i : Nat) (o : Option D), ρ[n]? = some a → HR K ρ H m → itemAt (.live n) i m = some o → ∃ xs ys, xs[i]? = o ∧ H a = some (.lst ys) ∧ VRs K ρ H xs ys := fun ρ H m i o e hr q => by
      obtain ⟨xs, e1, e2⟩ := Option.map_eq_some_iff.mp (show (lsAt m n).map (·[i]?) = some o from q)
      obtain ⟨ys, h1, h2⟩ := hr.ob n a _ e (lsAt_ok e1)
      exact ⟨xs, ys, e2, h1, h2⟩
    refine ⟨fun ρ _ => ρ[n]? = some a, ea, fun ρ H ρ' H' e l => l.g _ _ e, fun ρ H m i p hr e => ?_, fun ρ H m i x p hr e => ?_, fun ρ H m i x y H' p hr e hy => ?_⟩
    · obtain ⟨xs, ys, h1, h2, h3⟩ := key ρ H m i _ p hr e
      exact ⟨ys, .inl (.inl h2), by rw [← h3.length]; exact List.getElem?_eq_none_iff.mp h1⟩
    · obtain ⟨xs, ys, h1, h2, h3⟩ := key ρ H m i _ p hr e
      obtain ⟨v, h4, _⟩ := h3.get h1
      exact ⟨ys, v, .inl (.inl h2), h4⟩
    · obtain ⟨xs, ys, h1, h2, h3⟩ := key ρ H m i _ p hr e
      obtain ⟨v, h4, h5⟩ := h3.get h1
      obtain ⟨e1, e2⟩ := hy
      have e3 := e2 ys (.inl (.inl h2))
      rw [h4] at e3
      cases e3
      exact ⟨e1, h5⟩
theorem PTs.imp {X : Cx} {e : List Expr} {t t' : TT} (h : PTs X e t) (k : ∀ σ H Q, t' σ H Q → t σ H Q) : PTs X e t' := ⟨fun pins s σ H Q I q => h.run pins s σ H Q I (k σ H Q q)⟩
def bYes : DB := fun _ m => .ok true m
section
variable {X : Cx} {W : WX}
theorem xts_nil : PTs X [] (tDB X.K W bYes) := PTs.imp pts_nil fun σ H Q ⟨ρ, δ, m, sr, hr, o⟩ => OG.ok (R := fun _ _ (a b : Bool) => a = b) (a := true) o hr rfl
theorem xts_one {c : Expr} {fb : DB} (h : PT X c (tDB X.K W fb)) : PTs X [c] (tDB X.K W fb) := pts_one h
theorem lc_run {it : DSt → M → Out ItD} {gt : TG} {t : TD} {is vs : List Nat} {test : DB} {elt : DE} (dt : DoesA X gt t is) (hiv : ∀ i ∈ is, i ∈ vs) {σ : L2.St} {H : Hp} {Q : VK} (q : tD X.K W (dLc it t vs test elt) σ H Q) :
    tLc (tDI X.K W it) gt (tDB X.K W0 test) (tD X.K W0 elt) vs σ H Q := by
  obtain ⟨ρ, δ, m, sr, hr, o⟩ := q
  refine OG.part sr hr o fun I J ρ1 H1 m1 q1 p1 sr1 hr1 rI o1 => ?_
  obtain ⟨P, hP, S⟩ := RI.src rI
  intro Dn hD
  have hr2 := hr1.push (o := .lst []) hD ⟨[], upd_same, rfl⟩
  have pp : Post ρ1 H1 (ρ1 ++ [Dn]) (upd H1 Dn (.lst [])) := Post.push hD
  have ln : Leans ρ1 H1 (ρ1 ++ [Dn]) (upd H1 Dn (.lst [])) := pp.leans hr1
  have o2 := OG.later pp o1
  -- what holds at each turn
  refine ⟨fun i k H => ∃ ρ m, P ρ H ∧ SR X.K ρ H σ δ ∧ HR X.K ρ H m ∧ ρ[m1.length]? = some Dn ∧ OG X.K (VR X.K) ρ H ((compG I t test elt m1.length (wipeD δ vs) k i m).bind fun _ m2 => .ok (.ref m1.length) m2) Q (fun c d H' => W c d σ H'),
    ⟨itemsN I m1, ρ1 ++ [Dn], m1 ++ [.lst []], S.mono _ _ _ _ hP ln, sr1.mono ln, hr2, hr1.at_, o2⟩, ?_⟩
  rintro i k H2 ⟨ρ2, m2, hP2, sr2, hr2, eD, o3⟩
  cases ei : itemAt I i m2 with
  | none => cases k <;> (simp only [compG, ei] at o3; exact o3.elim)
  | some oo =>
    cases oo with
    | none =>
      refine .inl ⟨S.stop ρ2 H2 m2 i hP2 hr2 ei, ?_⟩
      have o4 : OG X.K (VR X.K) ρ2 H2 (.ok (.ref m1.length) m2) Q (fun c d H' => W c d σ H') := by cases k <;> (simp only [compG, ei] at o3; exact o3)
      exact OG.ok o4 hr2 ⟨Dn, rfl, eD⟩
    | some x =>
      cases k with
      | zero => simp only [compG, ei] at o3; exact o3.elim
      | succ k =>
        simp only [compG, ei] at o3
        refine .inr ⟨S.go ρ2 H2 m2 i x hP2 hr2 ei, fun H' => ∃ ρ m, P ρ H' ∧ SR X.K ρ H' σ δ ∧ HR X.K ρ H' m ∧ ρ[m1.length]? = some Dn ∧ OG X.K (VR X.K) ρ H' ((compG I t test elt m1.length (wipeD δ vs) k (i + 1) m).bind fun _ m2 => .ok (.ref m1.length) m2) Q (fun c d H' => W c d σ H'), fun H' h => ⟨k, Nat.lt_succ_self k, h⟩, fun y H' hy => ?_⟩
        obtain ⟨rfl, ry⟩ := S.yld ρ2 H2 m2 i x y H' hP2 hr2 ei hy
        cases et : t x (wipeD δ vs) with
        | none => simp only [et] at o3; exact o3.elim
        | some δ1 =>
          simp only [et] at o3
          refine dt x y ρ2 _ m2 _ (wipeD δ vs) δ1 _ hr2 (sr2.wipe vs) ry et fun σ3 sr3 off => ⟨wipe_off off hiv, ρ2, δ1, m2, sr3, hr2, ?_⟩
          cases eb : test δ1 m2 with
          | bad => simp only [eb] at o3; exact o3.elim
          | exc c p m3 => simp only [eb] at o3; exact o3.elim
          | ok b m3 =>
            simp only [eb] at o3
            intro ρ4 b' H4 p4 hr4 rb
            subst rb
            cases b with
            | false =>
              rw [if_neg Bool.false_ne_true]
              exact ⟨ρ4, m3, S.mono _ _ _ _ hP2 (p4.leans hr2), sr2.mono (p4.leans hr2), hr4, p4.get eD, OG.later p4 o3⟩
            | true =>
              rw [if_pos rfl]
              refine ⟨ρ4, δ1, m3, sr3.mono (p4.leans hr2), hr4, ?_⟩
              cases ee : elt δ1 m3 with
              | bad => simp only [ee] at o3; exact o3.elim
              | exc c p m4 => simp only [ee] at o3; exact o3.elim
              | ok z m4 =>
                simp only [ee] at o3
                intro ρ5 v H5 p5 hr5 rv
                cases ep : pushD m1.length z m4 with
                | none => simp only [ep] at o3; exact o3.elim
                | some m5 =>
                  simp only [ep] at o3
                  unfold pushD at ep
                  cases el : lsAt m4 m1.length with
                  | none => rw [el] at ep; cases ep
                  | some acc =>
                    rw [el] at ep
                    have ep2 : (if acc.length < cap then some (m4.set m1.length (.lst (acc ++ [z]))) else none) = some m5 := ep
                    by_cases c : acc.length < cap
                    · rw [if_pos c] at ep2
                      cases ep2
                      have p45 := p4.trans p5
                      have eD5 := p45.get eD
                      obtain ⟨ys, h1, h2⟩ := hr5.ob _ Dn _ eD5 (lsAt_ok el)
                      have l5 := Leans.put hr5 eD5 (u := HO.lst (ys ++ [v]))
                      have hr6 := hr5.put eD5 (u := HO.lst (ys ++ [v])) (o := .lst (acc ++ [z])) ⟨_, upd_same, (VRs.mono l5 _ _ h2).append (VRs.one (VR.mono l5 _ _ rv))⟩
                      refine ⟨ys, h1, cap_lt (by rw [← h2.length]; exact c), ρ5, _, S.mono _ _ _ _ (S.mono _ _ _ _ hP2 (p45.leans hr2)) l5, (sr2.mono (p45.leans hr2)).mono l5, hr6, eD5, OG.later (p45.trans (Post.put eD5)) o3⟩
                    · rw [if_neg c] at ep2
                      cases ep2
variable {elt tg iter : Expr} {ifs : List Expr} {scope : Scope} {own : List (Str × Nat)} {pos spos py : Pos} {y : Str}
theorem xe_lc {it : DSt → M → Out ItD} {gt : TG} {t : TD} {is : List Nat} {test : DB} {el : DE} (hc : X.calm = true) (hN : X.N.Nodup) (hi : PI X tg iter (tDI X.K W it)) (ok : BlkOk X.N X.env.scope scope own) (dt : DoesA X gt t is) (hiv : ∀ i ∈ is, i ∈ own.map (·.2))
    (hg : ∀ (s : Shared) (H : Hp) (C : Addr) (cl : List (Str × Addr)) (fp : List Addr), PG (X.blk s H scope (compEnvC scope cl C X.env) fp) tg gt) (ht : ∀ (s : Shared) (H : Hp) (C : Addr) (cl : List (Str × Addr)) (fp : List Addr), PTs (X.blk s H scope (compEnvC scope cl C X.env) fp) ifs (tDB X.K W0 test))
    (he : ∀ (s : Shared) (H : Hp) (C : Addr) (cl : List (Str × Addr)) (fp : List Addr), PE (X.blk s H scope (compEnvC scope cl C X.env) fp) elt (tD X.K W0 el)) (hs : ∀ x, foldedSetIterable iter X.env x = pure x := by intro _; rfl) :
    PE X (.ListComp elt [⟨tg, iter, ifs, 0⟩] scope pos) (tD X.K W (dLc it t (own.map (·.2)) test el)) :=
  PE.imp (pe_lc hc hN hi ok hg ht he hs) fun σ H Q q => lc_run dt hiv q
theorem z_setLc {i : Nat} {it : DSt → M → Out ItD} {gt : TG} {t : TD} {is : List Nat} {test : DB} {el : DE} (hc : X.calm = true) (hN : X.N.Nodup) (hy : X.N[i]? = some y) (hyl : X.env.scope.names.lookup y = some .local)
    (hsw : swapsWith (.ListComp elt [⟨tg, iter, ifs, 0⟩] scope pos) (some (.Name y py)) spos.line X.env = pure true) (hi : PI X tg iter (tDI X.K W it)) (ok : BlkOk X.N X.env.scope scope own) (dt : DoesA X gt t is) (hiv : ∀ i ∈ is, i ∈ own.map (·.2))
    (hg : ∀ (s : Shared) (H : Hp) (C : Addr) (cl : List (Str × Addr)) (fp : List Addr), PG (X.blk s H scope (compEnvC scope cl C X.env) fp) tg gt) (ht : ∀ (s : Shared) (H : Hp) (C : Addr) (cl : List (Str × Addr)) (fp : List Addr), PTs (X.blk s H scope (compEnvC scope cl C X.env) fp) ifs (tDB X.K W0 test))
    (he : ∀ (s : Shared) (H : Hp) (C : Addr) (cl : List (Str × Addr)) (fp : List Addr), PE (X.blk s H scope (compEnvC scope cl C X.env) fp) elt (tD X.K W0 el)) (hs : ∀ x, foldedSetIterable iter X.env x = pure x := by intro _; rfl) :
    PS X (.Assign [.Name y py] (.ListComp elt [⟨tg, iter, ifs, 0⟩] scope pos) spos) (tDS X.K W (sAsg i (dLc it t (own.map (·.2)) test el))) := by
  refine PS.imp (ps_setLc hc hN hy hyl hsw hi ok hg ht he hs) fun E σ H ⟨ρ, δ, m, sr, hr, o⟩ => ?_
  refine lc_run (W := W) dt hiv ?_
  exact SG.part sr hr o fun x v ρ1 H1 m1 q1 p1 sr1 hr1 rx o1 => SG.nx o1 hr1 (sr1.set rx)
theorem z_tgtA {tg e : Expr} {f : DE} {g : TG} {t : TD} {is : List Nat} (dt : DoesA X g t is) : DoesT X g t := fun x v ρ H m σ δ δ' Q hr sr rx e k => dt x v ρ H m σ δ δ' Q hr sr rx e fun σ' sr' _ => k σ' sr'
end
end PD
end

section
set_option maxHeartbeats 200000
/-! Dict comprehensions, the keys tuples or not. -/
namespace PD
open PySem PySem.Spec PyProof.Rows L2
/-- one pair put by a comprehension -/
theorem d_dictPut {X : Cx} {pins : List (Addr × Obj)} {σ : L2.St} {H H' : Hp} {s : Shared} {E : Value → Shared → Prop} {a : Addr} {y v : V} {u r : Value} {Q : Unit → Shared → Prop} (hu : X.A.units + 1 < cLine) (I : Inv X pins σ H s) (g : DPut H a y v H')
    (ry : RelV y u) (rv : RelV v r) (h : ∀ s', Inv X pins σ H' s' → Q () s') : wpAny (model X.prog X.w) X.A (dictSet a u r) Q E s := by
  rcases g with ⟨kvs, k, e, ey, l, eH⟩ | ⟨kvs, k, b, e, ey, eb, l, eH⟩
  · subst ey eH
    exact d_dictSet I e l ry rv h
  · subst ey eH
    cases (show u = Value.ref b from ry)
    obtain ⟨z, hd, xs, rel, dd⟩ := dt_of I.hok e
    have hz : xs.length ≤ sizeLine := by rw [← Paired.length rel]; exact z
    have hl : (putK kvs k v).length ≤ sizeLine := by have := length_putK kvs k v; omega
    refine wpAny_dictSet_heap (hsz := hz) (show (tupleKind (mixKind X.prog X.w)).room X.A from Nat.lt_of_succ_lt hu) (key_of I.hok eb) dd fun h' dd' hs => h _ ?_
    obtain ⟨q, es, ep, hq, h2, h3, h4, _, h5⟩ := dd'
    refine d_write I (by rw [e]; exact True.intro) hs ⟨q, hq⟩ ⟨hl, hd, _, (rel.put k eb rv).keeps fun c ys ec => ?_, q, es, ep, hq, h2, h3, h4, h5⟩
    rw [upd_ne (ne_of ec e (fun z => nomatch z))]
    exact ec
section
variable {X : Cx}
def tDcG (o0 : HO) (wi : TI) (g : TG) (tt : TT) (tk tv : TE) (vs : List Nat) : TE := fun σ H Q => wi σ H fun J H1 => ∀ D, H1 D = none → ∃ W : Nat → Nat → Hp → Prop, (∃ m, W 0 m (upd H1 D o0)) ∧ ∀ i m H, W i m H →
  (J.stop i H ∧ Q (.ref D) H) ∨ (J.go i H ∧ ∃ Nx : Hp → Prop, (∀ H', Nx H' → ∃ m', m' < m ∧ W (i + 1) m' H') ∧ ∀ x H', J.yld i H x H' → g x (wipe σ vs) H' fun σ2 H2 => wipe σ2 vs = wipe σ vs ∧ tt σ2 H2 fun b H3 =>
    if b = true then tk σ2 H3 fun y H4 => tv σ2 H4 fun z H5 => ∃ H6, DPut H5 D y z H6 ∧ Nx H6 else Nx H3)
theorem dcg_core {pins : List (Addr × Obj)} {s : Shared} {σ : L2.St} {H : Hp} {Q : VK} {kx vx tg iter : Expr} {ifs : List Expr} {scope : Scope} {own : List (Str × Nat)} {pos pos' : Pos} {wi : TI} {g : TG} {tt : TT} {tk tv : TE} {o0 : HO} {use : Option (Value → Sem Unit)} {Qf : Value → Shared → Prop}
    (h0 : o0 = .dK [] ∨ o0 = .dT []) (hu : X.A.units + 1 < cLine) (hc : X.calm = true) (hN : X.N.Nodup) (I : Inv X pins σ H s) (hi : PI X tg iter wi) (ok : BlkOk X.N X.env.scope scope own)
    (hg : ∀ (s : Shared) (H : Hp) (C : Addr) (cl : List (Str × Addr)) (fp : List Addr), PG (X.blk s H scope (compEnvC scope cl C X.env) fp) tg g) (ht : ∀ (s : Shared) (H : Hp) (C : Addr) (cl : List (Str × Addr)) (fp : List Addr), PTs (X.blk s H scope (compEnvC scope cl C X.env) fp) ifs tt)
    (hk : ∀ (s : Shared) (H : Hp) (C : Addr) (cl : List (Str × Addr)) (fp : List Addr), PE (X.blk s H scope (compEnvC scope cl C X.env) fp) kx tk)
    (he : ∀ (s : Shared) (H : Hp) (C : Addr) (cl : List (Str × Addr)) (fp : List Addr), PE (X.blk s H scope (compEnvC scope cl C X.env) fp) vx tv) (hs : ∀ x, foldedSetIterable iter X.env x = pure x)
    (h : tDcG o0 wi g tt tk tv (own.map (·.2)) σ H Q)
    (hRR : ∀ D C s' m H', Inv X pins σ H' s' → Q (.ref D) H' → s'.heap.Ns C m → FpOk X pins H' C → compPost (model X.prog X.w) X.A X.xe use Qf (.ref D) C (.ok .next) s') :
    wpAny (model X.prog X.w) X.A (comprehension (.DictComp kx vx [⟨tg, iter, ifs, 0⟩] scope pos) scope X.env pos' newDict false (eval iter X.env) use) Qf X.xe s := by
  have hfree : ∀ y ∈ scope.names, y.2 = .free → ∃ c, X.env.cells.lookup y.1 = some c := fun y hy e => by
    rcases ok.free y hy e with k | k
    · exact I.ok.has _ (.inl k)
    · exact I.ok.has _ (.inr k)
  refine wpAny_comprehension_free (use := use) rfl hs (closure_ok hfree) ok.kind (fun y hy e => by rw [ok.uniq y hy, e])
    (thn (hi.run pins s σ H _ I h) fun xv s1 hx => thn hx fun itv s2 h2 => ?_)
  obtain ⟨it, fp, tn, J, H2, e, I2, T, st2, f2, q⟩ := h2
  subst e
  refine wpAny_newObj_type (newEnv_comp ?_)
  generalize hD : s2.heap.objs.size = D
  have hDn : H2 D = none := I2.hok.fresh (Nat.le_of_eq hD)
  obtain ⟨W, ⟨m0, w0⟩, turn⟩ := q D hDn
  -- the new list
  generalize hs3 : ({ s2 with heap := s2.heap.push { cls := .type "dict", data := .dict #[] } } : Shared) = s3
  have I3 : Inv X pins σ (upd H2 D o0) s3 := by
    rw [← hs3]
    refine I2.laid (t' := s2.toks) (fun b o e => Heap.get?_push_of_some _ e) (Nat.le_of_eq hD) ?_
    rw [← hD]
    rcases h0 with rfl | rfl
    · exact dk_empty s2.heap I2.big
    · exact dt_empty s2.heap I2.big
  have h3 : s3.heap = s2.heap.push { cls := .type "dict", data := .dict #[] } := by rw [← hs3]
  have sz : ∀ b ∈ fp, b < s2.heap.objs.size := fun b hb => by
    obtain ⟨o, e, _⟩ := T.obj _ _ st2 b hb
    exact Heap.lt_size e
  have f3 : ∀ b ∈ fp, FpOk X pins (upd H2 D o0) b ∧ b < s3.heap.objs.size := fun b hb => by
    have hlt := sz b hb
    refine ⟨⟨?_, (f2 b hb).2⟩, by rw [h3, Heap.size_push]; exact Nat.lt_succ_of_lt hlt⟩
    rw [upd_ne (by rw [← hD]; exact Nat.ne_of_lt hlt)]
    exact (f2 b hb).1
  have st3 : tn 0 s3.heap := T.keep _ _ _ st2 fun b _ o e => by rw [h3]; exact Heap.get?_push_of_some _ e
  have I4 := block_start I3 ok hN f3
  have pg := hg s3 (upd H2 D o0) s3.heap.objs.size (cellsFrom (s3.heap.objs.size + 1) scope.names (cloFrom X.env.cells scope.names [])) fp
  have pt := ht s3 (upd H2 D o0) s3.heap.objs.size (cellsFrom (s3.heap.objs.size + 1) scope.names (cloFrom X.env.cells scope.names [])) fp
  have pk := hk s3 (upd H2 D o0) s3.heap.objs.size (cellsFrom (s3.heap.objs.size + 1) scope.names (cloFrom X.env.cells scope.names [])) fp
  have pe := he s3 (upd H2 D o0) s3.heap.objs.size (cellsFrom (s3.heap.objs.size + 1) scope.names (cloFrom X.env.cells scope.names [])) fp
  show codeAny _ _ (.compStart (.DictComp kx vx [⟨tg, iter, ifs, 0⟩] scope pos) 0 (.ref it) (.ref D) (compEnvC scope (cellsFrom (s3.heap.objs.size + 1) scope.names (cloFrom X.env.cells scope.names [])) s3.heap.objs.size X.env)) (compPost (model X.prog X.w) X.A X.xe use Qf (.ref D) s3.heap.objs.size) { s3 with heap := pushCells (s3.heap.push { cls := .type "dict", data := .dict #[] }) scope.names }
  have nfp : ∀ b ∈ fp, (upd H2 D o0) b = none := fun b hb => (f3 b hb).1.1
  generalize hce : compEnvC scope (cellsFrom (s3.heap.objs.size + 1) scope.names (cloFrom X.env.cells scope.names [])) s3.heap.objs.size X.env = ce at I4 pg pt pk pe ⊢
  have cL : ce.locals = s3.heap.objs.size := by subst hce; rfl
  generalize hH3 : upd H2 D o0 = H3 at I3 I4 pg pt pk pe w0 nfp f3
  generalize hs4 : ({ s3 with heap := pushCells (s3.heap.push { cls := .type "dict", data := .dict #[] }) scope.names } : Shared) = s4 at I4 ⊢
  have st4 : tn 0 s4.heap := T.keep _ _ _ st3 fun b _ o e => by rw [← hs4]; exact pushCells_keeps _ _ _ _ (Heap.get?_push_of_some _ e)
  have stat : ∀ {σ' : L2.St} {H' : Hp} {s' : Shared}, Inv (X.blk s3 H3 scope ce fp) [] σ' H' s' → (∀ b ∈ fp, H' b = none) → ∀ b ∈ fp, FpOk (X.blk s3 H3 scope ce fp) [] H' b := fun {σ' H' s'} I' hn b hb =>
    ⟨hn b hb, (I'.ok.exf b hb).1, I'.ok.exfs b hb, .inl hb, fun x c e => (I'.ok.exf b hb).2 x c e, fun p hp => absurd (show p ∈ ([] : List (Addr × Obj)) ++ [] from hp) (by simp)⟩
  have loop : codeAny (model X.prog X.w) X.A (.compLoop (.DictComp kx vx [⟨tg, iter, ifs, 0⟩] scope pos) 0 (.ref it) (.ref D) ce) (compPost (model X.prog X.w) X.A X.xe use Qf (.ref D) s3.heap.objs.size) s4 := by
    refine compLoop_anyD (fun n s' => ∃ i H', Inv (X.blk s3 H3 scope ce fp) [] (wipe σ (own.map (·.2))) H' s' ∧ tn i s'.heap ∧ (∀ b ∈ fp, H' b = none) ∧ W i n H') ?_ m0 ⟨0, H3, I4, st4, nfp, w0⟩
    rintro n s5 ⟨i, H5, I5, st5, n5, w5⟩
    rcases turn i n H5 w5 with ⟨stop, qq⟩ | ⟨go, Nx, hNx, step⟩
    · have td := T.done (X.blk s3 H3 scope ce fp) rfl rfl rfl hc i [] s5 _ H5 (fun _ _ => False) I5 (stat I5 n5) st5 stop
      refine thnF td fun r s6 ⟨hr, I6⟩ => ?_
      subst hr
      -- back in the def's context
      have I7 : Inv X pins σ H5 s6 := I3.call' (ch := fp) I6.os I6.base I6.hok I6.bare fun b hb => ⟨(f3 b hb).1.2.2.2.1, (f3 b hb).1.2.1, (f3 b hb).1.2.2.2.2.1, (f3 b hb).1.2.2.2.2.2⟩
      have nC : H5 s3.heap.objs.size = none := by
        have z : H5 ce.locals = none := I6.free
        rw [cL] at z
        exact z
      obtain ⟨m, hn, _⟩ := I6.loc
      have hn : s6.heap.Ns ce.locals m := hn
      rw [cL] at hn
      exact hRR D s3.heap.objs.size s6 m H5 I7 qq hn (I3.fpOk (Nat.le_refl _) nC)
    · have ti := T.item (X.blk s3 H3 scope ce fp) rfl rfl rfl hc i [] s5 _ H5 (fun _ _ => False) I5 (stat I5 n5) st5 go
      refine thnF ti fun r s6 ⟨u, hr, h6⟩ => ?_
      subst hr
      refine thnF h6 fun _ s7 ⟨x, H7, I7, r7, y7, st7, n7⟩ => ?_
      have I7' := I7.pinned (stat I7 n7) (T.obj _ _ st7)
      refine thnF (pg.run _ s7 _ H7 x u _ I7' r7 (step x H7 y7)) fun _ s8 ⟨σ8, H8, I8, hw8, q8⟩ => ?_
      refine thnF (pt.run _ s8 σ8 H8 _ I8 q8) fun b s9 ⟨H9, I9, q9⟩ => ?_
      -- the turn's end
      have fin : ∀ {s' : Shared} {H' : Hp}, Inv (X.blk s3 H3 scope ce fp) ([] ++ pinsAt fp s7.heap) σ8 H' s' → Nx H' → ∃ m, m < n ∧ ∃ i H', Inv (X.blk s3 H3 scope ce fp) [] (wipe σ (own.map (·.2))) H' s' ∧ tn i s'.heap ∧ (∀ b ∈ fp, H' b = none) ∧ W i m H' := fun {s' H'} I' nx => by
        obtain ⟨m', hm, w'⟩ := hNx H' nx
        have pin' : ∀ b ∈ fp, ∀ o, s7.heap.get? b = some o → s'.heap.get? b = some o ∧ H' b = none := fun b hb o e =>
          let z := I'.pin (b, o) (List.mem_append_right _ (List.mem_append_right _ (mem_pinsAt hb e)))
          ⟨z.1, z.2.1⟩
        have hl : (wipe σ (own.map (·.2))).length = σ8.length := by rw [← hw8, wipe_length]
        refine ⟨m', hm, i + 1, H', (I'.unpinned (pins := [])).weak hl (fun j v e => ?_), T.keep _ _ _ st7 fun b hb o e => (pin' b hb o e).1, fun b hb => ?_, w'⟩
        · rw [← hw8] at e
          exact (wipe_some e).1
        · obtain ⟨o, e, _⟩ := T.obj _ _ st7 b hb
          exact (pin' b hb o e).2
      cases b with
      | false =>
        simp only [Bool.false_eq_true, if_false] at q9 ⊢
        exact fin I9 q9
      | true =>
        simp only [if_true] at q9 ⊢
        refine thnF (pk.run _ s9 σ8 H9 _ I9 q9) fun z s10 ⟨yk, H10, I10, r10, q10⟩ => ?_
        refine thnF (pe.run _ s10 σ8 H10 _ I10 q10) fun z2 s11 ⟨yv, H11, I11, r11, H12, dp, nx⟩ => ?_
        exact d_dictPut (X := X.blk s3 H3 scope ce fp) hu I11 dp r10 r11 fun s12 I12 => fin I12 nx
  exact codeAny_compStart_dict loop (T.self X.A 0 _ _ _ st4 loop)
theorem pe_dcG {kx vx tg iter : Expr} {ifs : List Expr} {scope : Scope} {own : List (Str × Nat)} {pos : Pos} {wi : TI} {g : TG} {tt : TT} {tk tv : TE} {o0 : HO} (h0 : o0 = .dK [] ∨ o0 = .dT []) (hu : X.A.units + 1 < cLine) (hc : X.calm = true) (hN : X.N.Nodup) (hi : PI X tg iter wi) (ok : BlkOk X.N X.env.scope scope own)
    (hg : ∀ (s : Shared) (H : Hp) (C : Addr) (cl : List (Str × Addr)) (fp : List Addr), PG (X.blk s H scope (compEnvC scope cl C X.env) fp) tg g) (ht : ∀ (s : Shared) (H : Hp) (C : Addr) (cl : List (Str × Addr)) (fp : List Addr), PTs (X.blk s H scope (compEnvC scope cl C X.env) fp) ifs tt)
    (hk : ∀ (s : Shared) (H : Hp) (C : Addr) (cl : List (Str × Addr)) (fp : List Addr), PE (X.blk s H scope (compEnvC scope cl C X.env) fp) kx tk)
    (he : ∀ (s : Shared) (H : Hp) (C : Addr) (cl : List (Str × Addr)) (fp : List Addr), PE (X.blk s H scope (compEnvC scope cl C X.env) fp) vx tv) (hs : ∀ x, foldedSetIterable iter X.env x = pure x := by intro _; rfl) :
    PE X (.DictComp kx vx [⟨tg, iter, ifs, 0⟩] scope pos) (tDcG o0 wi g tt tk tv (own.map (·.2))) := by
  refine ⟨fun pins s σ H Q I h => ?_⟩
  rw [arm_eval_DictComp]
  refine dcg_core h0 hu hc hN I hi ok hg ht hk he hs h fun D C s' m H' I' q hn f => ⟨m, hn, fun h'' sb => ?_⟩
  obtain ⟨f0, f1, f2, f3, f4, f5⟩ := f
  exact ⟨.ref D, H', I'.turned (t' := s'.toks) (fun b o hb e => (sb.2 b hb).trans e) f0 f1 f3 f4 f5, rfl, q⟩
theorem ps_setDcG {i : Nat} {y : Str} {py : Pos} {kx vx tg iter : Expr} {ifs : List Expr} {scope : Scope} {own : List (Str × Nat)} {pos spos : Pos} {wi : TI} {g : TG} {tt : TT} {tk tv : TE} {o0 : HO} (h0 : o0 = .dK [] ∨ o0 = .dT []) (hu : X.A.units + 1 < cLine) (hc : X.calm = true) (hN : X.N.Nodup)
    (hy : X.N[i]? = some y) (hyl : X.env.scope.names.lookup y = some .local) (hsw : swapsWith (.DictComp kx vx [⟨tg, iter, ifs, 0⟩] scope pos) (some (.Name y py)) spos.line X.env = pure true) (hi : PI X tg iter wi) (ok : BlkOk X.N X.env.scope scope own)
    (hg : ∀ (s : Shared) (H : Hp) (C : Addr) (cl : List (Str × Addr)) (fp : List Addr), PG (X.blk s H scope (compEnvC scope cl C X.env) fp) tg g) (ht : ∀ (s : Shared) (H : Hp) (C : Addr) (cl : List (Str × Addr)) (fp : List Addr), PTs (X.blk s H scope (compEnvC scope cl C X.env) fp) ifs tt)
    (hk : ∀ (s : Shared) (H : Hp) (C : Addr) (cl : List (Str × Addr)) (fp : List Addr), PE (X.blk s H scope (compEnvC scope cl C X.env) fp) kx tk)
    (he : ∀ (s : Shared) (H : Hp) (C : Addr) (cl : List (Str × Addr)) (fp : List Addr), PE (X.blk s H scope (compEnvC scope cl C X.env) fp) vx tv) (hs : ∀ x, foldedSetIterable iter X.env x = pure x := by intro _; rfl) :
    PS X (.Assign [.Name y py] (.DictComp kx vx [⟨tg, iter, ifs, 0⟩] scope pos) spos) (tAsg (tDcG o0 wi g tt tk tv (own.map (·.2))) (gName i)) := by
  refine ⟨fun pins s σ H D I h => ?_⟩
  rw [exec_Assign_Name_used _ _ _ _ hsw]
  refine wpAny_bind (wpAny_standAt (wpAny_bind ?_))
  show wpAny _ X.A (do let _ ← comprehension (.DictComp kx vx [⟨tg, iter, ifs, 0⟩] scope pos) scope X.env (firstIterPos [⟨tg, iter, ifs, 0⟩] pos) newDict false (eval iter X.env) (some (assign (.Name y py) X.env))) _ _ s
  have h : tDcG o0 wi g tt tk tv (own.map (·.2)) σ H (fun x H1 => gName i x σ H1 D.nx) := h
  refine wpAny_bind (thn (dcg_core (Qf := fun _ s' => SP X pins D .next s') h0 hu hc hN I hi ok hg ht hk he hs h fun L C s' m H' I' q hn f => ?_) fun _ s' hq => wpAny_pure (wpAny_pure hq))
  show wpAny _ _ (assign (.Name y py) X.env (.ref L)) _ _ _
  refine wpAny_assign_Name (store_ok2 (v := V.ref L) I' hN hy (.inl hyl) rfl (fun s2 I2 ⟨a, sb, ha⟩ => ?_) (.inr hyl))
  obtain ⟨f0, f1, f2, f3, f4, f5⟩ := f
  have haC : C ≠ a := by
    rcases ha with z | z
    · rw [z]; exact f1
    · exact fun e => f4 y a z e.symm
  exact ⟨m, hn.sameBut sb haC, fun h3 sb3 => ⟨_, H', I2.turned (t' := s2.toks) (fun b o hb e => (sb3.2 b hb).trans e) f0 f1 f3 f4 f5, q⟩⟩
/-! ### as functions -/
/-- the dict with a number gets a pair -/
def putAt (n : Nat) (y d : D) (m : M) : Option M := match m[n]? with
  | some (.dT kvs) => match keyT y with
    | some k => if kvs.length < cap then some (m.set n (.dT (putD kvs k d))) else none
    | none => none
  | some (.dK kvs) => match keyK y with
    | some k => if kvs.length < cap then some (m.set n (.dK (putD kvs k d))) else none
    | none => none
  | _ => none
theorem putAt_ok {K : PySem.W.Frag} {ρ : List Addr} {H : Hp} {m m' : M} {n : Nat} {y d : D} {a : Addr} {u v : V} (hr : HR K ρ H m) (e : putAt n y d m = some m') (ea : ρ[n]? = some a) (ry : VR K ρ H y u) (rd : VR K ρ H d v) :
    ∃ H', DPut H a u v H' ∧ Post ρ H ρ H' ∧ HR K ρ H' m' := by
  unfold putAt at e
  cases em : m[n]? with
  | none => simp only [em] at e; cases e
  | some w =>
    cases w with
    | dT kvs =>
      simp only [em] at e
      cases ek : keyT y with
      | none => simp only [ek] at e; cases e
      | some k =>
        simp only [ek] at e
        by_cases c : kvs.length < cap
        · rw [if_pos c] at e
          cases e
          obtain ⟨ks, e1, e2⟩ := hr.ob n a _ ea em
          obtain ⟨bb, rfl, hb⟩ := keyT_ok ek ry
          have ln := Leans.put hr ea (u := HO.dT (putK ks k v))
          exact ⟨_, DPut.t e1 hb (cap_lt (by rw [← e2.length]; exact c)), Post.put ea, hr.put ea ⟨_, upd_same, KVs.put k (VR.mono ln _ _ rd) (KVs.mono ln _ _ e2)⟩⟩
        · rw [if_neg c] at e
          cases e
    | dK kvs =>
      simp only [em] at e
      cases ek : keyK y with
      | none => simp only [ek] at e; cases e
      | some k =>
        simp only [ek] at e
        by_cases c : kvs.length < cap
        · rw [if_pos c] at e
          cases e
          obtain ⟨ks, e1, e2⟩ := hr.ob n a _ ea em
          have ez := keyK_ok ek ry
          subst ez
          have ln := Leans.put hr ea (u := HO.dK (putK ks k v))
          exact ⟨_, DPut.k e1 (cap_lt (by rw [← e2.length]; exact c)), Post.put ea, hr.put ea ⟨_, upd_same, KVs.put k (VR.mono ln _ _ rd) (KVs.mono ln _ _ e2)⟩⟩
        · rw [if_neg c] at e
          cases e
    | _ => simp only [em] at e; cases e
def compGD (I : ItD) (t : TD) (test : DB) (ke ve : DE) (nD : Nat) (δw : DSt) : Nat → Nat → M → Out Unit
  | 0, i, m => match itemAt I i m with
    | none => .bad
    | some none => .ok () m
    | some (some _) => .bad
  | k + 1, i, m => match itemAt I i m with
    | none => .bad
    | some none => .ok () m
    | some (some x) => match t x δw with
      | none => .bad
      | some δ1 => match test δ1 m with
        | .ok true m1 => match ke δ1 m1 with
          | .ok y m2 => match ve δ1 m2 with
            | .ok z m3 => match putAt nD y z m3 with
              | some m4 => compGD I t test ke ve nD δw k (i + 1) m4
              | none => .bad
            | _ => .bad
          | _ => .bad
        | .ok false m1 => compGD I t test ke ve nD δw k (i + 1) m1
        | _ => .bad
/-- T: the keys are tuples -/
def empD (T : Bool) : MO := if T = true then .dT [] else .dK []
def empH (T : Bool) : HO := if T = true then .dT [] else .dK []
def dDc (T : Bool) (it : DSt → M → Out ItD) (t : TD) (vs : List Nat) (test : DB) (ke ve : DE) : DE := fun δ m => (it δ m).bind fun I m1 => (compGD I t test ke ve m1.length (wipeD δ vs) (itemsN I m1) 0 (m1 ++ [empD T])).bind fun _ m2 => .ok (.ref m1.length) m2
theorem empH_ok (T : Bool) : empH T = .dK [] ∨ empH T = .dT [] := by
  cases T
  · exact .inl rfl
  · exact .inr rfl
theorem empOA {K : PySem.W.Frag} {ρ : List Addr} {H : Hp} {p : Addr} (T : Bool) : OA K ρ (upd H p (empH T)) p (empD T) := by
  cases T
  · exact ⟨[], upd_same, rfl⟩
  · exact ⟨[], upd_same, rfl⟩
theorem dc_runG {W : WX} {T : Bool} {it : DSt → M → Out ItD} {gt : TG} {t : TD} {is vs : List Nat} {test : DB} {ke ve : DE} (dt : DoesA X gt t is) (hiv : ∀ i ∈ is, i ∈ vs) {σ : L2.St} {H : Hp} {Q : VK} (q : tD X.K W (dDc T it t vs test ke ve) σ H Q) :
    tDcG (empH T) (tDI X.K W it) gt (tDB X.K W0 test) (tD X.K W0 ke) (tD X.K W0 ve) vs σ H Q := by
  obtain ⟨ρ, δ, m, sr, hr, o⟩ := q
  refine OG.part sr hr o fun I J ρ1 H1 m1 q1 p1 sr1 hr1 rI o1 => ?_
  obtain ⟨P, hP, S⟩ := RI.src rI
  intro Dn hD
  have hr2 := hr1.push (o := empD T) hD (empOA T)
  have pp : Post ρ1 H1 (ρ1 ++ [Dn]) (upd H1 Dn (empH T)) := Post.push hD
  have ln : Leans ρ1 H1 (ρ1 ++ [Dn]) (upd H1 Dn (empH T)) := pp.leans hr1
  have o2 := OG.later pp o1
  refine ⟨fun i k H => ∃ ρ m, P ρ H ∧ SR X.K ρ H σ δ ∧ HR X.K ρ H m ∧ ρ[m1.length]? = some Dn ∧ OG X.K (VR X.K) ρ H ((compGD I t test ke ve m1.length (wipeD δ vs) k i m).bind fun _ m2 => .ok (.ref m1.length) m2) Q (fun c d H' => W c d σ H'),
    ⟨itemsN I m1, ρ1 ++ [Dn], m1 ++ [empD T], S.mono _ _ _ _ hP ln, sr1.mono ln, hr2, hr1.at_, o2⟩, ?_⟩
  rintro i k H2 ⟨ρ2, m2, hP2, sr2, hr2, eD, o3⟩
  cases ei : itemAt I i m2 with
  | none => cases k <;> (simp only [compGD, ei] at o3; exact o3.elim)
  | some oo =>
    cases oo with
    | none =>
      refine .inl ⟨S.stop ρ2 H2 m2 i hP2 hr2 ei, ?_⟩
      have o4 : OG X.K (VR X.K) ρ2 H2 (.ok (.ref m1.length) m2) Q (fun c d H' => W c d σ H') := by cases k <;> (simp only [compGD, ei] at o3; exact o3)
      exact OG.ok o4 hr2 ⟨Dn, rfl, eD⟩
    | some x =>
      cases k with
      | zero => simp only [compGD, ei] at o3; exact o3.elim
      | succ k =>
        simp only [compGD, ei] at o3
        refine .inr ⟨S.go ρ2 H2 m2 i x hP2 hr2 ei, fun H' => ∃ ρ m, P ρ H' ∧ SR X.K ρ H' σ δ ∧ HR X.K ρ H' m ∧ ρ[m1.length]? = some Dn ∧ OG X.K (VR X.K) ρ H' ((compGD I t test ke ve m1.length (wipeD δ vs) k (i + 1) m).bind fun _ m2 => .ok (.ref m1.length) m2) Q (fun c d H' => W c d σ H'), fun H' h => ⟨k, Nat.lt_succ_self k, h⟩, fun y H' hy => ?_⟩
        obtain ⟨rfl, ry⟩ := S.yld ρ2 H2 m2 i x y H' hP2 hr2 ei hy
        cases et : t x (wipeD δ vs) with
        | none => simp only [et] at o3; exact o3.elim
        | some δ1 =>
          simp only [et] at o3
          refine dt x y ρ2 _ m2 _ (wipeD δ vs) δ1 _ hr2 (sr2.wipe vs) ry et fun σ3 sr3 off => ⟨wipe_off off hiv, ρ2, δ1, m2, sr3, hr2, ?_⟩
          cases eb : test δ1 m2 with
          | bad => simp only [eb] at o3; exact o3.elim
          | exc c p m3 => simp only [eb] at o3; exact o3.elim
          | ok b m3 =>
            simp only [eb] at o3
            intro ρ4 b' H4 p4 hr4 rb
            subst rb
            cases b with
            | false =>
              rw [if_neg Bool.false_ne_true]
              exact ⟨ρ4, m3, S.mono _ _ _ _ hP2 (p4.leans hr2), sr2.mono (p4.leans hr2), hr4, p4.get eD, OG.later p4 o3⟩
            | true =>
              rw [if_pos rfl]
              refine ⟨ρ4, δ1, m3, sr3.mono (p4.leans hr2), hr4, ?_⟩
              cases ee : ke δ1 m3 with
              | bad => simp only [ee] at o3; exact o3.elim
              | exc c p m4 => simp only [ee] at o3; exact o3.elim
              | ok y m4 =>
                simp only [ee] at o3
                intro ρ5 u H5 p5 hr5 ry5
                have p45 := p4.trans p5
                refine ⟨ρ5, δ1, m4, sr3.mono (p45.leans hr2), hr5, ?_⟩
                cases ev : ve δ1 m4 with
                | bad => simp only [ev] at o3; exact o3.elim
                | exc c p m5 => simp only [ev] at o3; exact o3.elim
                | ok z m5 =>
                  simp only [ev] at o3
                  intro ρ6 v H6 p6 hr6 rz
                  have p46 := p45.trans p6
                  cases ep : putAt m1.length y z m5 with
                  | none => simp only [ep] at o3; exact o3.elim
                  | some m6 =>
                    simp only [ep] at o3
                    have eD6 := p46.get eD
                    obtain ⟨H7, dp, p7, hr7⟩ := putAt_ok hr6 ep eD6 (VR.mono (p6.leans hr5) _ _ ry5) rz
                    have p47 := p46.trans p7
                    exact ⟨H7, dp, ρ6, m6, S.mono _ _ _ _ hP2 (p47.leans hr2), sr2.mono (p47.leans hr2), hr7, eD6, OG.later p47 o3⟩
variable {W : WX} {kx vx tg iter : Expr} {ifs : List Expr} {scope : Scope} {own : List (Str × Nat)} {pos spos py : Pos} {y : Str}
theorem xe_dc (T : Bool) {it : DSt → M → Out ItD} {gt : TG} {t : TD} {is : List Nat} {test : DB} {ke ve : DE} (hu : X.A.units + 1 < cLine) (hc : X.calm = true) (hN : X.N.Nodup) (hi : PI X tg iter (tDI X.K W it)) (ok : BlkOk X.N X.env.scope scope own) (dt : DoesA X gt t is) (hiv : ∀ i ∈ is, i ∈ own.map (·.2))
    (hg : ∀ (s : Shared) (H : Hp) (C : Addr) (cl : List (Str × Addr)) (fp : List Addr), PG (X.blk s H scope (compEnvC scope cl C X.env) fp) tg gt) (ht : ∀ (s : Shared) (H : Hp) (C : Addr) (cl : List (Str × Addr)) (fp : List Addr), PTs (X.blk s H scope (compEnvC scope cl C X.env) fp) ifs (tDB X.K W0 test))
    (hk : ∀ (s : Shared) (H : Hp) (C : Addr) (cl : List (Str × Addr)) (fp : List Addr), PE (X.blk s H scope (compEnvC scope cl C X.env) fp) kx (tD X.K W0 ke))
    (he : ∀ (s : Shared) (H : Hp) (C : Addr) (cl : List (Str × Addr)) (fp : List Addr), PE (X.blk s H scope (compEnvC scope cl C X.env) fp) vx (tD X.K W0 ve)) (hs : ∀ x, foldedSetIterable iter X.env x = pure x := by intro _; rfl) :
    PE X (.DictComp kx vx [⟨tg, iter, ifs, 0⟩] scope pos) (tD X.K W (dDc T it t (own.map (·.2)) test ke ve)) :=
  PE.imp (pe_dcG (empH_ok T) hu hc hN hi ok hg ht hk he hs) fun σ H Q q => dc_runG dt hiv q
theorem z_setDc (T : Bool) {i : Nat} {it : DSt → M → Out ItD} {gt : TG} {t : TD} {is : List Nat} {test : DB} {ke ve : DE} (hu : X.A.units + 1 < cLine) (hc : X.calm = true) (hN : X.N.Nodup) (hy : X.N[i]? = some y) (hyl : X.env.scope.names.lookup y = some .local)
    (hsw : swapsWith (.DictComp kx vx [⟨tg, iter, ifs, 0⟩] scope pos) (some (.Name y py)) spos.line X.env = pure true) (hi : PI X tg iter (tDI X.K W it)) (ok : BlkOk X.N X.env.scope scope own) (dt : DoesA X gt t is) (hiv : ∀ i ∈ is, i ∈ own.map (·.2))
    (hg : ∀ (s : Shared) (H : Hp) (C : Addr) (cl : List (Str × Addr)) (fp : List Addr), PG (X.blk s H scope (compEnvC scope cl C X.env) fp) tg gt) (ht : ∀ (s : Shared) (H : Hp) (C : Addr) (cl : List (Str × Addr)) (fp : List Addr), PTs (X.blk s H scope (compEnvC scope cl C X.env) fp) ifs (tDB X.K W0 test))
    (hk : ∀ (s : Shared) (H : Hp) (C : Addr) (cl : List (Str × Addr)) (fp : List Addr), PE (X.blk s H scope (compEnvC scope cl C X.env) fp) kx (tD X.K W0 ke))
    (he : ∀ (s : Shared) (H : Hp) (C : Addr) (cl : List (Str × Addr)) (fp : List Addr), PE (X.blk s H scope (compEnvC scope cl C X.env) fp) vx (tD X.K W0 ve)) (hs : ∀ x, foldedSetIterable iter X.env x = pure x := by intro _; rfl) :
    PS X (.Assign [.Name y py] (.DictComp kx vx [⟨tg, iter, ifs, 0⟩] scope pos) spos) (tDS X.K W (sAsg i (dDc T it t (own.map (·.2)) test ke ve))) := by
  refine PS.imp (ps_setDcG (empH_ok T) hu hc hN hy hyl hsw hi ok hg ht hk he hs) fun E σ H ⟨ρ, δ, m, sr, hr, o⟩ => ?_
  refine dc_runG (W := W) dt hiv ?_
  exact SG.part sr hr o fun x v ρ1 H1 m1 q1 p1 sr1 hr1 rx o1 => SG.nx o1 hr1 (sr1.set rx)
end
end PD
end

section
set_option maxHeartbeats 200000
/-! Built-in functions, subscripts, slices, methods of lists, as functions. -/
namespace PD
open PySem PySem.Spec L2
def DoesC (X : Cx) (r : List V → Hp → VK → Prop) (G : FD) : Prop := ∀ (xs : List D) (vs : List V) (ρ : List Addr) (H : Hp) (m : M) (Q : VK) (E : XK), HR X.K ρ H m → VRs X.K ρ H xs vs → OG X.K (VR X.K) ρ H (G xs m) Q E → r vs H Q
section
variable {X : Cx} {W : WX} {e o a b : Expr} {es : List Expr} {f g fo : DE} {fs : DA} {G : FD} {pos p apos : Pos} {x : Str} {r : List V → Hp → VK → Prop}
theorem xe_callB {id : String} (hc : CallR X (.builtin id) r) (d : DoesC X r G) (hg : Gl X x) (hm : X.mg x = none) (hv : bootBuiltins x = some (.builtin id)) (pa : PA X (e :: es) (tDA X.K W fs)) (hn : x ≠ "__name__" := by decide +kernel) (hdb : (x == ("__debug__" : Str)) = false := by decide)
    (he : starEach (e :: es) X.env = (false, eval e X.env) :: starEach es X.env := by rfl) (hpl : (backTo pos (starEach es X.env)).any (·.1) = false := by rfl) : PE X (.Call (.Name x p) (e :: es) [] pos) (tD X.K W (dCall G fs)) := by
  refine PE.imp (pe_callB hc hg hm hv pa hn hdb he hpl) fun σ H Q ⟨ρ, δ, m, sr, hr, o⟩ => ?_
  exact OG.part sr hr o fun xs vs ρ1 H1 m1 q1 p1 sr1 hr1 rx o1 => d xs vs ρ1 H1 m1 Q _ hr1 rx o1
theorem xe_callTy {T : String} (hc : CallR X (.type T) r) (d : DoesC X r G) (hg : Gl X x) (hm : X.mg x = none) (hv : bootBuiltins x = some (.type T)) (pa : PA X (e :: es) (tDA X.K W fs)) (hn : x ≠ "__name__" := by decide +kernel) (hdb : (x == ("__debug__" : Str)) = false := by decide)
    (he : starEach (e :: es) X.env = (false, eval e X.env) :: starEach es X.env := by rfl) (hpl : (backTo pos (starEach es X.env)).any (·.1) = false := by rfl) : PE X (.Call (.Name x p) (e :: es) [] pos) (tD X.K W (dCall G fs)) := by
  refine PE.imp (pe_callTy hc hg hm hv pa hn hdb he hpl) fun σ H Q ⟨ρ, δ, m, sr, hr, o⟩ => ?_
  exact OG.part sr hr o fun xs vs ρ1 H1 m1 q1 p1 sr1 hr1 rx o1 => d xs vs ρ1 H1 m1 Q _ hr1 rx o1
theorem DoesC.or1 {r' : List V → Hp → VK → Prop} (h : DoesC X r G) : DoesC X (fun xs H Q => r xs H Q ∨ r' xs H Q) G := fun xs vs ρ H m Q E hr rx o => .inl (h xs vs ρ H m Q E hr rx o)
/-- one argument -/
def on1 (g : D → M → Out D) : FD := fun xs m => match xs with
  | [x] => g x m
  | _ => .bad
def on2 (g : D → D → M → Out D) : FD := fun xs m => match xs with
  | [x, y] => g x y m
  | _ => .bad
theorem does1 {g : D → M → Out D} (h : ∀ (x : D) (v : V) (ρ : List Addr) (H : Hp) (m : M) (Q : VK) (E : XK), HR X.K ρ H m → VR X.K ρ H x v → OG X.K (VR X.K) ρ H (g x m) Q E → r [v] H Q) : DoesC X r (on1 g) := fun xs vs ρ H m Q E hr rx o => by
  cases xs with
  | nil => exact o.elim
  | cons x xs => cases xs with
    | nil => obtain ⟨v, r, rfl, r1, rfl⟩ := rx; exact h x v ρ H m Q E hr r1 o
    | cons _ _ => exact o.elim
theorem does2 {g : D → D → M → Out D} (h : ∀ (x y : D) (v u : V) (ρ : List Addr) (H : Hp) (m : M) (Q : VK) (E : XK), HR X.K ρ H m → VR X.K ρ H x v → VR X.K ρ H y u → OG X.K (VR X.K) ρ H (g x y m) Q E → r [v, u] H Q) : DoesC X r (on2 g) := fun xs vs ρ H m Q E hr rx o => by
  cases xs with
  | nil => exact o.elim
  | cons x xs => cases xs with
    | nil => exact o.elim
    | cons y xs => cases xs with
      | nil => obtain ⟨v, r, rfl, r1, u, r2, rfl, r3, rfl⟩ := rx; exact h x y v u ρ H m Q E hr r1 r3 o
      | cons _ _ => exact o.elim
/-! ### len, abs, int -/
def lenD : D → M → Out D
  | .str s, m => if s.length ≤ cap then .ok (.int s.length) m else .bad
  | .tup xs, m => .ok (.int xs.length) m
  | .wt xs, m => .ok (.int xs.length) m
  | .wl xs, m => .ok (.int xs.length) m
  | .ref n, m => match m[n]? with
    | some (.lst xs) => .ok (.int xs.length) m
    | some (.dT xs) => .ok (.int xs.length) m
    | some (.dK xs) => .ok (.int xs.length) m
    | _ => .bad
  | _, _ => .bad
def bLen : FD := on1 lenD
theorem call_lenA : CallR X (.builtin "len") (fun xs H Q => (∃ x n, xs = [x] ∧ LenV X.K x H n ∧ Q (.int n) H) ∨ (∃ a kvs, xs = [V.ref a] ∧ H a = some (.dK kvs) ∧ Q (.int kvs.length) H) ∨ rLenT xs H Q) := CallR.or call_len (CallR.or call_lenD call_len_dT)
theorem does_len : DoesC X (fun xs H Q => (∃ x n, xs = [x] ∧ LenV X.K x H n ∧ Q (.int n) H) ∨ (∃ a kvs, xs = [V.ref a] ∧ H a = some (.dK kvs) ∧ Q (.int kvs.length) H) ∨ rLenT xs H Q) bLen := by
  refine does1 fun x v ρ H m Q E hr rx o => ?_
  cases x with
  | str s =>
    cases rx
    unfold lenD at o
    obtain ⟨c, o⟩ := OG.guard o
    exact .inl ⟨_, _, rfl, ⟨cap_line c, rfl⟩, OG.ok o hr rfl⟩
  | tup xs => obtain ⟨a, ys, rfl, h1, h2⟩ := rx; exact .inl ⟨_, _, rfl, .inr ⟨ys, .inl (.inl h1), h2.length⟩, OG.ok o hr rfl⟩
  | wt xs => obtain ⟨a, ys, rfl, h1, h2⟩ := rx; exact .inl ⟨_, _, rfl, .inr ⟨ys, h1 _, h2.length⟩, OG.ok o hr rfl⟩
  | wl xs => obtain ⟨a, ys, rfl, h1, h2⟩ := rx; exact .inl ⟨_, _, rfl, .inl ⟨ys, h1.elim (fun z => z _) fun ⟨o, z⟩ => .inl (.inr ⟨o, z⟩), h2.length⟩, OG.ok o hr rfl⟩
  | ref n =>
    obtain ⟨a, rfl, ea⟩ := rx
    unfold lenD at o
    cases em : m[n]? with
    | none => simp only [em] at o; exact o.elim
    | some w =>
      have q := hr.ob n a w ea em
      cases w with
      | lst xs => simp only [em] at o; obtain ⟨ys, h1, h2⟩ := q; exact .inl ⟨_, _, rfl, .inl ⟨ys, .inl (.inl h1), h2.length⟩, OG.ok o hr rfl⟩
      | dT xs => simp only [em] at o; obtain ⟨ys, h1, h2⟩ := q; exact .inr (.inr ⟨a, ys, rfl, h1, by rw [← h2.length]; exact OG.ok o hr rfl⟩)
      | dK xs => simp only [em] at o; obtain ⟨ys, h1, h2⟩ := q; exact .inr (.inl ⟨a, ys, rfl, h1, by rw [← h2.length]; exact OG.ok o hr rfl⟩)
      | ins _ _ => simp only [em] at o; exact o.elim
  | _ => exact o.elim
def absD : D → M → Out D
  | .int i, m => .ok (.int (if i < 0 then -i else i)) m
  | _, _ => .bad
def bAbs : FD := on1 absD
theorem does_abs : DoesC X (fun xs H Q => ∃ i, xs = [.int i] ∧ Q (.int (if i < 0 then -i else i)) H) bAbs := by
  refine does1 fun x v ρ H m Q E hr rx o => ?_
  cases x with
  | int i => cases rx; exact ⟨i, rfl, OG.ok o hr rfl⟩
  | _ => exact o.elim
def intD : D → M → Out D
  | .int i, m => .ok (.int i) m
  | _, _ => .bad
def bInt : FD := on1 intD
theorem does_intc : DoesC X (fun xs H Q => (∃ i, xs = [.int i] ∧ Q (.int i) H) ∨ ∃ k, xs = [.bl k] ∧ Q (.int (if k then 1 else 0)) H) bInt := by
  refine does1 fun x v ρ H m Q E hr rx o => ?_
  cases x with
  | int i => cases rx; exact .inl ⟨i, rfl, OG.ok o hr rfl⟩
  | _ => exact o.elim
def max2D : D → D → M → Out D := dInt2 fun i j => .int (if j > i then j else i)
def min2D : D → D → M → Out D := dInt2 fun i j => .int (if j < i then j else i)
theorem does_max2 : DoesC X (fun xs H Q => ∃ i j, xs = [.int i, .int j] ∧ Q (.int (if j > i then j else i)) H) (on2 max2D) := by
  refine does2 fun x y v u ρ H m Q E hr rx ry o => ?_
  cases x with
  | int i => cases y with
    | int j => cases rx; cases ry; exact ⟨i, j, rfl, OG.ok o hr rfl⟩
    | _ => exact o.elim
  | _ => exact o.elim
theorem does_min2 : DoesC X (fun xs H Q => ∃ i j, xs = [.int i, .int j] ∧ Q (.int (if j < i then j else i)) H) (on2 min2D) := by
  refine does2 fun x y v u ρ H m Q E hr rx ry o => ?_
  cases x with
  | int i => cases y with
    | int j => cases rx; cases ry; exact ⟨i, j, rfl, OG.ok o hr rfl⟩
    | _ => exact o.elim
  | _ => exact o.elim
/-! ### list, tuple -/
def keyDT (k : List Key) : D := .tup (k.map fun
  | .inl i => D.int i
  | .inr s => D.str s)
def keyDK : Key → D
  | .inl i => .int i
  | .inr s => .str s
def listD : D → M → Out D
  | .tup xs, m => .ok (.ref m.length) (m ++ [.lst xs])
  | .wt xs, m => .ok (.ref m.length) (m ++ [.lst xs])
  | .wl xs, m => .ok (.ref m.length) (m ++ [.lst xs])
  | .ref n, m => match m[n]? with
    | some (.lst xs) => .ok (.ref m.length) (m ++ [.lst xs])
    | some (.dT kvs) => .ok (.ref m.length) (m ++ [.lst (kvs.map fun kv => keyDT kv.1)])
    | some (.dK kvs) => .ok (.ref m.length) (m ++ [.lst (kvs.map fun kv => keyDK kv.1)])
    | _ => .bad
  | _, _ => .bad
def bList : FD := on1 listD
def rListA (K : PySem.W.Frag) : List V → Hp → VK → Prop := fun xs H Q => (∃ p ys, xs = [.ref p] ∧ (SqL K H p ys ∨ SqT K H p ys) ∧ ∀ l, H l = none → Q (.ref l) (upd H l (.lst ys))) ∨
  (∃ d kvs, xs = [V.ref d] ∧ Rd H d (.dT kvs) ∧ ∀ p bs, H p = none → IsKeys H kvs bs → Q (.ref p) (upd H p (.lst (bs.map V.ref)))) ∨ rListD xs H Q
theorem call_listA (hc : X.calm = true) : CallR X (.type "list") (rListA X.K) := CallR.or call_list_of (CallR.or (call_list_dT hc) (call_list_dK hc))
theorem keyK_V (K : PySem.W.Frag) (ρ : List Addr) (H : Hp) (k : Key) : VR K ρ H (keyDK k) (kV k) := by
  cases k with
  | inl i => exact rfl
  | inr s => exact rfl
theorem keysK_V (K : PySem.W.Frag) (ρ : List Addr) (H : Hp) : ∀ k : List Key, VRs K ρ H (k.map fun
  | .inl i => D.int i
  | .inr s => D.str s) (k.map kV)
  | [] => rfl
  | .inl i :: k => ⟨.int i, _, rfl, rfl, keysK_V K ρ H k⟩
  | .inr s :: k => ⟨.str s, _, rfl, rfl, keysK_V K ρ H k⟩
theorem keysT_V {K : PySem.W.Frag} {ρ : List Addr} {H : Hp} : ∀ {kvs : List (List Key × D)} {ks : List (List Key × V)} {bs : List Addr}, KVs K ρ H kvs ks → IsKeys H ks bs → VRs K ρ H (kvs.map fun kv => keyDT kv.1) (bs.map V.ref)
  | [], _, _, h, q => by
    cases h
    cases q
    exact rfl
  | (k, d) :: r, _, _, ⟨v, ys, e, h1, h2⟩, q => by
    subst e
    cases q with
    | cons q1 q2 => exact ⟨_, _, rfl, ⟨_, _, rfl, q1, keysK_V K ρ H k⟩, keysT_V h2 q2⟩
theorem keysK_Vs {K : PySem.W.Frag} {ρ : List Addr} {H : Hp} : ∀ {kvs : List (Key × D)} {ks : List (Key × V)}, KVs K ρ H kvs ks → VRs K ρ H (kvs.map fun kv => keyDK kv.1) (ks.map fun kv => kV kv.1)
  | [], _, h => by cases h; exact rfl
  | (k, d) :: r, _, ⟨v, ys, e, h1, h2⟩ => by
    subst e
    exact ⟨_, _, rfl, keyK_V K ρ H k, keysK_Vs h2⟩
theorem does_list : DoesC X (rListA X.K) bList := by
  refine does1 fun x v ρ H m Q E hr rx o => ?_
  cases x with
  | tup xs => obtain ⟨a, ys, rfl, h1, h2⟩ := rx; exact .inl ⟨_, ys, rfl, .inr (.inl (.inl h1)), fun l hl => OG.newL o hr hl h2⟩
  | wt xs => obtain ⟨a, ys, rfl, h1, h2⟩ := rx; exact .inl ⟨_, ys, rfl, .inr (h1 _), fun l hl => OG.newL o hr hl h2⟩
  | wl xs => obtain ⟨a, ys, rfl, h1, h2⟩ := rx; exact .inl ⟨_, ys, rfl, .inl (h1.elim (fun z => z _) fun ⟨o, z⟩ => .inl (.inr ⟨o, z⟩)), fun l hl => OG.newL o hr hl h2⟩
  | ref n =>
    obtain ⟨a, rfl, ea⟩ := rx
    unfold listD at o
    cases em : m[n]? with
    | none => simp only [em] at o; exact o.elim
    | some w =>
      have q := hr.ob n a w ea em
      cases w with
      | lst xs => simp only [em] at o; obtain ⟨ys, h1, h2⟩ := q; exact .inl ⟨_, ys, rfl, .inl (.inl (.inl h1)), fun l hl => OG.newL o hr hl h2⟩
      | dT xs => simp only [em] at o; obtain ⟨ys, h1, h2⟩ := q; exact .inr (.inl ⟨a, ys, rfl, .inl h1, fun p bs hp ik => OG.newL o hr hp (keysT_V h2 ik)⟩)
      | dK xs => simp only [em] at o; obtain ⟨ys, h1, h2⟩ := q; exact .inr (.inr ⟨a, ys, rfl, h1, fun p hp => OG.newL o hr hp (keysK_Vs h2)⟩)
      | ins _ _ => simp only [em] at o; exact o.elim
  | _ => exact o.elim
def tupleD (x : D) (m : M) : Out D := match x with
  | .tup xs => .ok (.tup xs) m
  | .wt xs => .ok (.wt xs) m
  | .wl xs => .ok (.tup xs) m
  | .ref n => match lsAt m n with
    | some xs => .ok (.tup xs) m
    | none => .bad
  | _ => .bad
def bTuple : FD := on1 tupleD
theorem does_tuple : DoesC X (fun xs H Q => ∃ p ys, xs = [.ref p] ∧ ((SqL X.K H p ys ∧ ∀ l, H l = none → Q (.ref l) (upd H l (.tup ys))) ∨ (SqT X.K H p ys ∧ Q (.ref p) H))) bTuple := by
  refine does1 fun x v ρ H m Q E hr rx o => ?_
  cases x with
  | tup xs => obtain ⟨a, ys, rfl, h1, h2⟩ := id rx; exact ⟨a, ys, rfl, .inr ⟨.inl (.inl h1), OG.ok (a := D.tup xs) o hr rx⟩⟩
  | wt xs => obtain ⟨a, ys, rfl, h1, h2⟩ := id rx; exact ⟨a, ys, rfl, .inr ⟨h1 _, OG.ok (a := D.wt xs) o hr rx⟩⟩
  | wl xs => obtain ⟨a, ys, rfl, h1, h2⟩ := rx; exact ⟨a, ys, rfl, .inl ⟨h1.elim (fun z => z _) fun ⟨o, z⟩ => .inl (.inr ⟨o, z⟩), fun l hl => OG.newT o hr hl h2⟩⟩
  | ref n =>
    unfold tupleD at o
    cases el : lsAt m n with
    | none => simp only [el] at o; exact o.elim
    | some xs =>
      simp only [el] at o
      obtain ⟨a, ys, rfl, _, e1, e2⟩ := lsAt_H hr el rx
      exact ⟨a, ys, rfl, .inl ⟨.inl (.inl e1), fun l hl => OG.newT o hr hl e2⟩⟩
  | _ => exact o.elim
/-! ### sorted -/
def pairD : D → Option (Int × Int)
  | .tup [.int i, .int j] => some (i, j)
  | _ => none
def pairsD : List D → Option (List (Int × Int))
  | [] => some []
  | d :: ds => match pairD d, pairsD ds with
    | some p, some ps => some (p :: ps)
    | _, _ => none
def intsD : List D → Option (List Int)
  | [] => some []
  | .int i :: ds => match intsD ds with
    | some is => some (i :: is)
    | none => none
  | _ :: _ => none
def cellD (c : Int × Int) : D := .tup [.int c.1, .int c.2]
def leC (p q : Int × Int) : Bool := !SrtO.lexB q p
def sortC (cs : List (Int × Int)) : List (Int × Int) := cs.mergeSort leC
def sortI (is : List Int) : List Int := is.mergeSort fun i j => decide (i ≤ j)
def sortedD (x : D) (m : M) : Out D := match itemsOf x m with
  | some xs => match pairsD xs with
    | some ps => .ok (.ref m.length) (m ++ [.lst ((sortC ps).map cellD)])
    | none => match intsD xs with
      | some is => .ok (.ref m.length) (m ++ [.lst ((sortI is).map D.int)])
      | none => .bad
  | none => .bad
end
end PD
end

section
set_option maxHeartbeats 200000
namespace PD
open PySem PySem.Spec L2
/-! ### sorted -/
theorem lexB_true {a b : Int × Int} : SrtO.lexB a b = true ↔ a.1 < b.1 ∨ (a.1 = b.1 ∧ a.2 < b.2) := SrtO.lexB_iff
theorem leC_true {a b : Int × Int} : leC a b = true ↔ ¬ (b.1 < a.1 ∨ (b.1 = a.1 ∧ b.2 < a.2)) := by
  unfold leC
  rw [← lexB_true]
  cases SrtO.lexB b a <;> simp
theorem sortC_sorted (cs : List (Int × Int)) : (sortC cs).Pairwise fun a b => leC a b = true := by
  refine List.pairwise_mergeSort (fun a b c h1 h2 => ?_) (fun a b => ?_) cs
  · rw [leC_true] at h1 h2 ⊢
    omega
  · rw [Bool.or_eq_true, leC_true, leC_true]
    omega
theorem sortC_perm (cs : List (Int × Int)) : (sortC cs).Perm cs := List.mergeSort_perm cs leC
theorem leC_antisymm {a b : Int × Int} (h1 : leC a b = true) (h2 : leC b a = true) : a = b := by
  rw [leC_true] at h1 h2
  obtain ⟨a1, a2⟩ := a
  obtain ⟨b1, b2⟩ := b
  simp only at h1 h2
  have e1 : a1 = b1 := by omega
  have e2 : a2 = b2 := by omega
  rw [e1, e2]
theorem sortC_uniq {cs ds : List (Int × Int)} (h : ds.Pairwise fun a b => leC a b = true) (p : ds.Perm cs) : ds = sortC cs :=
  List.Perm.eq_of_pairwise (fun a b _ _ => leC_antisymm) h (sortC_sorted cs) (p.trans (sortC_perm cs).symm)
theorem sortI_sorted (cs : List Int) : (sortI cs).Pairwise fun a b => a ≤ b := by
  have h := List.pairwise_mergeSort (le := fun i j => decide (i ≤ j)) (fun a b c h1 h2 => by simp only [decide_eq_true_eq] at *; omega) (fun a b => by simp only [Bool.or_eq_true, decide_eq_true_eq]; omega) cs
  exact h.imp fun h => by simpa using h
theorem sortI_perm (cs : List Int) : (sortI cs).Perm cs := List.mergeSort_perm cs _
theorem sortI_uniq {cs ds : List Int} (h : ds.Pairwise fun a b => a ≤ b) (p : ds.Perm cs) : ds = sortI cs :=
  List.Perm.eq_of_pairwise (fun a b _ _ h1 h2 => by omega) h (sortI_sorted cs) (p.trans (sortI_perm cs).symm)
section
variable {K : PySem.W.Frag} {ρ : List Addr} {H : Hp} {m : M}
theorem pairD_ok {d : D} {c : Int × Int} (h : pairD d = some c) : d = cellD c := by
  unfold pairD at h
  split at h
  · cases h; rfl
  · cases h
/-- the pair at an address -/
def pairH (H : Hp) (v : V) : Int × Int := match v with
  | .ref t => match H t with
    | some (.tup [.int i, .int j]) => (i, j)
    | _ => (0, 0)
  | _ => (0, 0)
theorem cellD_V {c : Int × Int} {v : V} (r : VR K ρ H (cellD c) v) : ∃ t, v = .ref t ∧ H t = some (.tup [.int c.1, .int c.2]) ∧ pairH H v = c := by
  obtain ⟨t, xs, rfl, h1, x, r, rfl, h2, y, r', rfl, h3, h4⟩ := r
  cases h2
  cases h3
  cases h4
  refine ⟨t, rfl, h1, ?_⟩
  show (match H t with | some (.tup [.int i, .int j]) => (i, j) | _ => (0, 0)) = c
  rw [h1]
theorem cellD_R {c : Int × Int} {t : Addr} (h : H t = some (.tup [.int c.1, .int c.2])) : VR K ρ H (cellD c) (.ref t) := ⟨t, _, rfl, h, ⟨_, _, rfl, rfl, _, _, rfl, rfl, rfl⟩⟩
theorem pairs_V : ∀ {xs : List D} {ps : List (Int × Int)} {vs : List V}, pairsD xs = some ps → VRs K ρ H xs vs → vs.map (pairH H) = ps ∧ ∀ v ∈ vs, ∃ t, v = V.ref t ∧ H t = some (.tup [.int (pairH H v).1, .int (pairH H v).2])
  | [], _, _, h, r => by cases h; cases r; exact ⟨rfl, by simp⟩
  | d :: ds, _, _, h, ⟨v, r, e, h1, h2⟩ => by
    unfold pairsD at h
    cases e1 : pairD d with
    | none => rw [e1] at h; cases h
    | some c =>
      cases e2 : pairsD ds with
      | none => rw [e1, e2] at h; cases h
      | some ps =>
        rw [e1, e2] at h
        cases h
        subst e
        rw [pairD_ok e1] at h1
        obtain ⟨t, q1, q2, q3⟩ := cellD_V h1
        obtain ⟨i1, i2⟩ := pairs_V e2 h2
        refine ⟨by simp [q3, i1], fun w hw => ?_⟩
        rcases List.mem_cons.mp hw with rfl | hw
        · exact ⟨t, q1, by rw [q3]; exact q2⟩
        · exact i2 w hw
theorem cells_R : ∀ {vs : List V}, (∀ v ∈ vs, ∃ t, v = V.ref t ∧ H t = some (.tup [.int (pairH H v).1, .int (pairH H v).2])) → VRs K ρ H ((vs.map (pairH H)).map cellD) vs
  | [], _ => rfl
  | v :: vs, h => by
    obtain ⟨t, e, q⟩ := h v List.mem_cons_self
    refine ⟨v, vs, rfl, ?_, cells_R fun w hw => h w (List.mem_cons_of_mem _ hw)⟩
    rw [e] at q ⊢
    exact cellD_R q
theorem ints_V : ∀ {xs : List D} {is : List Int} {vs : List V}, intsD xs = some is → VRs K ρ H xs vs → vs = is.map V.int
  | [], _, _, h, r => by cases h; cases r; rfl
  | d :: ds, _, _, h, ⟨v, r, e, h1, h2⟩ => by
    cases d with
    | int i =>
      unfold intsD at h
      cases e2 : intsD ds with
      | none => simp only [e2] at h; cases h
      | some is =>
        simp only [e2] at h
        cases h
        cases h1
        rw [e, ints_V e2 h2]
        rfl
    | _ => cases h
theorem ints_R : ∀ is : List Int, VRs K ρ H (is.map D.int) (is.map V.int)
  | [] => rfl
  | i :: is => ⟨_, _, rfl, rfl, ints_R is⟩
end
def lstOf (x : D) (m : M) : Option (List D) := match x with
  | .wl xs => some xs
  | .ref n => lsAt m n
  | _ => none
theorem lstOf_H {K : PySem.W.Frag} {ρ : List Addr} {H : Hp} {m : M} {x : D} {xs : List D} {v : V} (hr : HR K ρ H m) (h : lstOf x m = some xs) (r : VR K ρ H x v) : ∃ a ys, v = .ref a ∧ SqL K H a ys ∧ VRs K ρ H xs ys := by
  cases x with
  | wl ds =>
    cases h
    obtain ⟨a, ys, e, ha, hs⟩ := r
    exact ⟨a, ys, e, ha.elim (fun z => z H) fun ⟨o, z⟩ => .inl (.inr ⟨o, z⟩), hs⟩
  | ref n =>
    obtain ⟨a, ys, e, _, e1, e2⟩ := lsAt_H hr h r
    exact ⟨a, ys, e, .inl (.inl e1), e2⟩
  | _ => cases h
def sortD (x : D) (m : M) : Out D := match lstOf x m with
  | some xs => match pairsD xs with
    | some ps => .ok (.ref m.length) (m ++ [.lst ((sortC ps).map cellD)])
    | none => match intsD xs with
      | some is => .ok (.ref m.length) (m ++ [.lst ((sortI is).map D.int)])
      | none => .bad
  | none => .bad
def bSorted : FD := on1 sortD
section
variable {X : Cx}
theorem does_sorted : DoesC X (fun xs H Q => rSortedPO X.K xs H Q ∨ rSortedI X.K xs H Q) bSorted := by
  refine does1 fun x v ρ H m Q E hr rx o => ?_
  unfold sortD at o
  cases el : lstOf x m with
  | none => simp only [el] at o; exact o.elim
  | some xs =>
    simp only [el] at o
    obtain ⟨a, ys, rfl, h1, h2⟩ := lstOf_H hr el rx
    cases ep : pairsD xs with
    | some ps =>
      simp only [ep] at o
      obtain ⟨i1, i2⟩ := pairs_V ep h2
      refine .inl ⟨a, ys, pairH H, rfl, h1, i2, fun zs p hz hst hp => ?_⟩
      have pz : ∀ v ∈ zs, ∃ t, v = V.ref t ∧ H t = some (.tup [.int (pairH H v).1, .int (pairH H v).2]) := fun v hv => i2 v (hst.perm.mem_iff.mp hv)
      have e : zs.map (pairH H) = sortC ps := by
        refine sortC_uniq ?_ (by rw [← i1]; exact hst.perm.map _)
        rw [List.pairwise_map]
        exact hz.imp fun h => by
          unfold leC
          rw [show SrtO.lexB _ _ = false from h]
          rfl
      refine OG.newL o hr hp ?_
      rw [← e]
      exact cells_R pz
    | none =>
      simp only [ep] at o
      cases ei : intsD xs with
      | none => simp only [ei] at o; exact o.elim
      | some is =>
        simp only [ei] at o
        have e := ints_V ei h2
        subst e
        refine .inr ⟨a, is, rfl, h1, fun js p hj hs hp => ?_⟩
        rw [← sortI_uniq hs hj] at o
        exact OG.newL o hr hp (ints_R js)
/-! ### isinstance -/
def tyD (x : D) (m : M) : Option String := match x with
  | .non => some "NoneType"
  | .bl _ => some "bool"
  | .int _ => some "int"
  | .str _ => some "str"
  | .tup _ => some "tuple"
  | .ref n => match m[n]? with
    | some (.lst _) => some "list"
    | some (.dT _) => some "dict"
    | some (.dK _) => some "dict"
    | _ => none
  | _ => none
def isiD (x c : D) (m : M) : Out D := match c with
  | .ty T => match tyD x m with
    | some t => match kitB t T with
      | some b => .ok (.bl b) m
      | none => .bad
    | none => .bad
  | _ => .bad
def bIsi : FD := on2 isiD
theorem tyD_ok {K : PySem.W.Frag} {ρ : List Addr} {H : Hp} {m : M} {x : D} {v : V} {t : String} (hr : HR K ρ H m) (h : tyD x m = some t) (rx : VR K ρ H x v) : TyX K H v (.type t) := by
  cases x with
  | non => cases h; cases rx; exact .base .non
  | bl b => cases h; cases rx; exact .base (.bl b)
  | int b => cases h; cases rx; exact .base (.int b)
  | str b => cases h; cases rx; exact .base (.str b)
  | tup xs => cases h; obtain ⟨a, ys, rfl, h1, h2⟩ := rx; exact .base (.tup h1)
  | ref n =>
    obtain ⟨a, rfl, ea⟩ := rx
    unfold tyD at h
    cases em : m[n]? with
    | none => simp only [em] at h; cases h
    | some w =>
      have q := hr.ob n a w ea em
      cases w with
      | lst xs => simp only [em] at h; cases h; obtain ⟨ys, h1, h2⟩ := q; exact .base (.lst h1)
      | dT xs => simp only [em] at h; cases h; obtain ⟨ys, h1, h2⟩ := q; exact .base (.dT h1)
      | dK xs => simp only [em] at h; cases h; obtain ⟨ys, h1, h2⟩ := q; exact .base (.dK h1)
      | ins _ _ => simp only [em] at h; cases h
  | _ => cases h
theorem does_isi : DoesC X (rIsi X.K) bIsi := by
  refine does2 fun x c v u ρ H m Q E hr rx rc o => ?_
  cases c with
  | ty T =>
    cases rc
    unfold isiD at o
    cases et : tyD x m with
    | none => simp only [et] at o; exact o.elim
    | some t =>
      simp only [et] at o
      cases ek : kitB t T with
      | none => simp only [ek] at o; exact o.elim
      | some b =>
        simp only [ek] at o
        exact ⟨v, .ty T, .type t, .type T, b, rfl, .ty T, tyD_ok hr et rx, kit_ty ek, OG.ok (a := D.bl b) o hr rfl⟩
  | _ => exact o.elim
/-- isinstance(x, C), x an instance of the class named C -/
def isCD (C : String) : D → D → M → Out D := fun x c m => match c with
  | .glo C' => if C' = C then match insAt C x m with
    | some _ => .ok (.bl true) m
    | none => .bad
    else .bad
  | _ => .bad
theorem does_isC {C : String} : DoesC X (fun xs H Q => ∃ a dx fs, xs = [.ref a, .ref (He.ga X.K (Str.ofString C))] ∧ H a = some (.ins (He.ga X.K (Str.ofString C)) dx fs) ∧ Q (.bl true) H) (on2 (isCD C)) := by
  refine does2 fun x c v u ρ H m Q E hr rx rc o => ?_
  cases c with
  | glo C' =>
    cases rc
    unfold isCD at o
    by_cases hc : C' = C
    · subst hc
      simp only [if_pos rfl] at o
      cases ei : insAt C' x m with
      | none => simp only [ei] at o; exact o.elim
      | some w =>
        obtain ⟨n, fl⟩ := w
        simp only [ei] at o
        obtain ⟨_, _, a, dx, ys, rfl, _, e2, e3⟩ := insAt_ok hr ei rx
        exact ⟨a, dx, ys, rfl, e2, OG.ok (a := D.bl true) o hr rfl⟩
    · simp only [if_neg hc] at o
      exact o.elim
  | _ => exact o.elim
end
end PD
end

section
set_option maxHeartbeats 200000
/-! Subscripts, slices, methods of lists. -/
namespace PD
open PySem PySem.Spec L2
section
variable {X : Cx} {W : WX} {e o a b i : Expr} {es : List Expr} {f g fo fi : DE} {fs : DA} {pos p apos cpos p2 : Pos}
/-! ### o[i] -/
def ixD (x y : D) (m : M) : Out D := match itemsOf x m with
  | some xs => match y with
    | .int k => match atI xs k with
      | some d => .ok d m
      | none => .bad
    | _ => .bad
  | none => match dLook x m y with
    | some (some d) => .ok d m
    | _ => .bad
def isSeq (x _ : D) (m : M) : Bool := (itemsOf x m).isSome
theorem atI_V {K : PySem.W.Frag} {ρ : List Addr} {H : Hp} {xs : List D} {vs : List V} {k : Int} {d : D} (r : VRs K ρ H xs vs) (h : atI xs k = some d) : ∃ v, atI vs k = some v ∧ VR K ρ H d v := by
  unfold atI at h ⊢
  obtain ⟨j, e1, e2⟩ := Option.bind_eq_some_iff.mp h
  obtain ⟨v, e3, r3⟩ := r.get e2
  exact ⟨v, by rw [← r.length, e1]; exact e3, r3⟩
theorem xe_ix (hu : X.A.units + 1 < cLine) (pa : PE X a (tD X.K W f)) (pb : PE X b (tD X.K W g)) (hs : PlainIx b := by intro _ _; rfl) : PE X (.Subscript a b pos) (tD X.K W (d2 ixD f g)) := by
  refine PE.imp (PE.or (pe_ix (IxR.or ix_list ix_tup) pa pb hs) (pe_dget hu pa pb hs)) fun σ H Q ⟨ρ, δ, m, sr, hr, o⟩ => ?_
  cases hw : way isSeq f g δ m with
  | true =>
    refine .inl (two_d2 sr hr o fun x y v u ρ2 H2 m1 m2 e1 e2 sr2 hr2 rx ry o2 => ?_)
    rw [way_of e1 e2] at hw
    unfold ixD at o2
    cases ei : itemsOf x m2 with
    | none => rw [isSeq, ei] at hw; cases hw
    | some xs =>
      simp only [ei] at o2
      cases y with
      | int k =>
        cases ry
        simp only at o2
        cases ea : atI xs k with
        | none => simp only [ea] at o2; exact o2.elim
        | some d =>
          simp only [ea] at o2
          obtain ⟨q, ys, rfl, h1, h2⟩ := items_H hr2 ei rx
          obtain ⟨z, h3, h4⟩ := atI_V h2 ea
          rcases h1 with h1 | h1
          · exact .inl ⟨q, ys, k, z, rfl, rfl, h1, h3, OG.ok o2 hr2 h4⟩
          · exact .inr ⟨q, ys, k, z, rfl, rfl, h1, h3, OG.ok o2 hr2 h4⟩
      | _ => exact o2.elim
  | false =>
    refine .inr (two_d2 sr hr o fun x y v u ρ2 H2 m1 m2 e1 e2 sr2 hr2 rx ry o2 => ?_)
    rw [way_of e1 e2] at hw
    unfold ixD at o2
    cases ei : itemsOf x m2 with
    | some xs => rw [isSeq, ei] at hw; cases hw
    | none =>
      simp only [ei] at o2
      cases el : dLook x m2 y with
      | none => simp only [el] at o2; exact o2.elim
      | some r =>
        cases r with
        | none => simp only [el] at o2; exact o2.elim
        | some d =>
          simp only [el] at o2
          obtain ⟨q, oo, h1, h2, h3, h4⟩ := dLook_ok hr2 el rx ry
          obtain ⟨z, h5, h6⟩ := h4 d rfl
          subst h5
          exact ⟨q, z, h1, h2, OG.ok o2 hr2 h6⟩
/-! ### o[lo:hi] -/
abbrev DO := DSt → M → Out (Option Int)
def oNone : DO := fun _ m => .ok none m
def oSome (f : DE) : DO := fun δ m => (f δ m).bind fun x m1 => match x with
  | .int i => .ok (some i) m1
  | _ => .bad
theorem xo_none : PO X none (tDO X.K W oNone) := PO.imp po_none fun σ H Q ⟨ρ, δ, m, sr, hr, o⟩ => OG.ok (R := fun _ _ (a b : Option Int) => a = b) (a := none) o hr rfl
theorem xo_some (pe : PE X e (tD X.K W f)) : PO X (some e) (tDO X.K W (oSome f)) := by
  refine PO.imp (po_some pe) fun σ H Q ⟨ρ, δ, m, sr, hr, o⟩ => ?_
  refine OG.part sr hr o fun x v ρ1 H1 m1 q1 p1 sr1 hr1 rx o1 => ?_
  cases x with
  | int i => cases rx; exact ⟨i, rfl, OG.ok (R := fun _ _ (a b : Option Int) => a = b) o1 hr1 rfl⟩
  | _ => exact o1.elim
def cutD (xs : List D) (lo hi : Option Int) : List D := (xs.drop (HT.sIx xs.length 0 lo)).take (HT.sIx xs.length xs.length hi - HT.sIx xs.length 0 lo)
def sliceD (x : D) (lo hi : Option Int) (m : M) : Out D := match lstOf x m with
  | some xs => .ok (.ref m.length) (m ++ [.lst (cutD xs lo hi)])
  | none => match tupItems x with
    | some xs => if HT.sIx xs.length 0 lo = 0 ∧ HT.sIx xs.length xs.length hi = xs.length then .ok x m else .ok (.tup (cutD xs lo hi)) m
    | none => .bad
def dSl (f : DE) (lo hi : DO) : DE := fun δ m => (f δ m).bind fun x m1 => (lo δ m1).bind fun l m2 => (hi δ m2).bind fun h m3 => sliceD x l h m3
theorem cut_V {K : PySem.W.Frag} {ρ : List Addr} {H : Hp} {xs : List D} {vs : List V} {lo hi : Option Int} (r : VRs K ρ H xs vs) : VRs K ρ H (cutD xs lo hi) (cutV vs lo hi) := by
  unfold cutD cutV
  rw [r.length]
  exact (r.drop _).take _
theorem xe_slice {lo hi : Option Expr} {fl fh : DO} (pe : PE X e (tD X.K W f)) (pl : PO X lo (tDO X.K W fl)) (ph : PO X hi (tDO X.K W fh)) : PE X (.Subscript e (.Slice lo hi none p2) pos) (tD X.K W (dSl f fl fh)) := by
  refine PE.imp (pe_slice (SlR.or sl_list sl_tupA) pe pl ph) fun σ H Q ⟨ρ, δ, m, sr, hr, o⟩ => ?_
  refine OG.part sr hr o fun x v ρ1 H1 m1 q1 p1 sr1 hr1 rx o1 => ?_
  refine OG.part sr1 hr1 o1 fun l l' ρ2 H2 m2 q2 p2 sr2 hr2 rl o2 => ?_
  subst rl
  refine OG.part sr2 hr2 o2 fun h h' ρ3 H3 m3 q3 p3 sr3 hr3 rh o3 => ?_
  subst rh
  have rx := VR.mono ((p2.trans p3).leans hr1) _ _ rx
  unfold sliceD at o3
  cases el : lstOf x m3 with
  | some xs =>
    simp only [el] at o3
    obtain ⟨q, ys, rfl, h1, h2⟩ := lstOf_H hr3 el rx
    exact .inl ⟨q, ys, rfl, h1, fun z hz => OG.newL o3 hr3 hz (cut_V h2)⟩
  | none =>
    simp only [el] at o3
    cases et : tupItems x with
    | none => simp only [et] at o3; exact o3.elim
    | some xs =>
      simp only [et] at o3
      obtain ⟨q, ys, e3, e4, e5⟩ : ∃ a ys, v = .ref a ∧ SqT X.K H3 a ys ∧ VRs X.K ρ3 H3 xs ys := by
        cases x with
        | tup zs => cases et; obtain ⟨a, ys, h1, h2, h3⟩ := rx; exact ⟨a, ys, h1, .inl (.inl h2), h3⟩
        | wt zs => cases et; obtain ⟨a, ys, h1, h2, h3⟩ := rx; exact ⟨a, ys, h1, h2 _, h3⟩
        | _ => cases et
      subst e3
      refine .inr ⟨q, ys, rfl, e4, fun c => ?_, fun c z hz => ?_⟩
      · rw [← e5.length] at c
        rw [if_pos c] at o3
        exact OG.ok o3 hr3 rx
      · rw [← e5.length] at c
        rw [if_neg c] at o3
        exact OG.newT o3 hr3 hz (cut_V e5)
/-! ### methods of lists -/
/-- a list with a number becomes another -/
theorem OG.putL {K : PySem.W.Frag} {ρ : List Addr} {H : Hp} {m : M} {n : Nat} {q : Addr} {xs : List D} {ys : List V} {d : D} {v : V} {Q : VK} {E : XK} (h : OG K (VR K) ρ H (.ok d (m.set n (.lst xs))) Q E) (hr : HR K ρ H m) (ea : ρ[n]? = some q) (r : VRs K ρ H xs ys) (rd : VR K ρ H d v) : Q v (upd H q (.lst ys)) := by
  have ln := Leans.put hr ea (u := HO.lst ys)
  exact h ρ v _ (Post.put ea) (hr.put ea ⟨ys, upd_same, VRs.mono ln _ _ r⟩) (VR.mono ln _ _ rd)
theorem ty_list {K : PySem.W.Frag} {H : Hp} {q : Addr} {ys : List V} (h : H q = some (.lst ys)) : tyV K "list" (.ref q) H := .inl ⟨rfl, ys, .inl (.inl h)⟩
/-- o.m(e): the object must be a list before the argument is reckoned -/
def dLm (op : D → D → M → Out D) (fo : DE) (f : DE) : DE := fun δ m => (fo δ m).bind fun x m1 => match x with
  | .ref n => match lsAt m1 n with
    | some _ => (f δ m1).bind fun y m2 => op x y m2
    | none => .bad
  | _ => .bad
def dLm0 (op : D → M → Out D) (fo : DE) : DE := fun δ m => (fo δ m).bind op
def appD (x y : D) (m : M) : Out D := match x with
  | .ref n => match lsAt m n with
    | some xs => if xs.length < cap then .ok .non (m.set n (.lst (xs ++ [y]))) else .bad
    | none => .bad
  | _ => .bad
theorem dLm_run {op : D → D → M → Out D} {r : V → List V → Hp → VK → Prop} (d : ∀ (n : Nat) (y : D) (q : Addr) (u : V) (ρ : List Addr) (H : Hp) (m : M) (Q : VK) (E : XK), HR X.K ρ H m → ρ[n]? = some q → VR X.K ρ H y u → OG X.K (VR X.K) ρ H (op (.ref n) y m) Q E → r (.ref q) [u] H Q)
    {σ : L2.St} {H : Hp} {Q : VK} (h : tD X.K W (dLm op fo f) σ H Q) : tBM X.K "list" r (tD X.K W fo) (tCons (tD X.K W f) tNil) σ H Q := by
  obtain ⟨ρ, δ, m, sr, hr, o⟩ := h
  refine OG.part sr hr o fun x v ρ1 H1 m1 q1 p1 sr1 hr1 rx o1 => ?_
  cases x with
  | ref n =>
    simp only at o1
    cases el : lsAt m1 n with
    | none => simp only [el] at o1; exact o1.elim
    | some xs =>
      simp only [el] at o1
      obtain ⟨q, ys, rfl, ea, e1, e2⟩ := lsAt_H hr1 el rx
      refine ⟨ty_list e1, ?_⟩
      refine OG.part sr1 hr1 o1 fun y u ρ2 H2 m2 q2 p2 sr2 hr2 ry o2 => ?_
      exact d n y q u ρ2 H2 m2 Q _ hr2 (p2.get ea) ry o2
  | _ => exact o1.elim
theorem xe_append (po : PE X o (tD X.K W fo)) (pe : PE X e (tD X.K W f)) (hbase : attributeBase o ("append" : Str) X.env (eval o X.env) = eval o X.env := by rfl)
    (hfew : ((backTo cpos (starEach [e] X.env)).all (fun x => !x.1) && (backToKw cpos (keywordEach [] X.env)).all (fun x => x.1.isSome)
      && decide ([e].length + ([] : List Keyword).length + (if ([] : List Keyword).isEmpty then 0 else 1) < 30)) = true := by rfl)
    (hline : (apos.endLine == cpos.line) = true := by rfl) (hs : starEach [e] X.env = (false, eval e X.env) :: starEach [] X.env := by rfl) : PE X (.Call (.Attribute o ("append" : Str) apos) [e] [] cpos) (tD X.K W (dLm appD fo f)) := by
  refine PE.imp (pe_bm PySem.F.plainAttrs_list PySem.F.slot_list_append PySem.F.type_list_append mt_append po (pa_cons pe pa_nil hs) hbase hfew hline hs rfl) fun σ H Q h => dLm_run (fun n y q u ρ H m Q E hr ea ry o => ?_) h
  unfold appD at o
  cases el : lsAt m n with
  | none => simp only [el] at o; exact o.elim
  | some xs =>
    simp only [el] at o
    obtain ⟨c, o⟩ := OG.guard o
    obtain ⟨ys, e1, e2⟩ := hr.ob n q _ ea (lsAt_ok el)
    exact ⟨q, ys, u, rfl, rfl, e1, cap_lt (by rw [← e2.length]; exact c), OG.putL o hr ea (e2.append (VRs.one ry)) rfl⟩
def popAtD (x y : D) (m : M) : Out D := match x with
  | .ref n => match lsAt m n with
    | some xs => match y with
      | .int i => if -1000000 ≤ i ∧ i ≤ 1000000 then match seqIndex? i xs.length with
          | some k => match xs[k]? with
            | some d => .ok d (m.set n (.lst (xs.eraseIdx k)))
            | none => .bad
          | none => .bad
        else .bad
      | _ => .bad
    | none => .bad
  | _ => .bad
theorem VRs.erase {K : PySem.W.Frag} {ρ : List Addr} {H : Hp} : ∀ {ds : List D} {xs : List V} (k : Nat), VRs K ρ H ds xs → VRs K ρ H (ds.eraseIdx k) (xs.eraseIdx k)
  | [], _, _, h => by cases h; exact rfl
  | d :: ds, _, 0, ⟨x, r, e, h1, h2⟩ => by rw [e]; exact h2
  | d :: ds, _, k + 1, ⟨x, r, e, h1, h2⟩ => by rw [e]; exact ⟨x, _, rfl, h1, VRs.erase k h2⟩
theorem xe_popAt (po : PE X o (tD X.K W fo)) (pe : PE X e (tD X.K W f)) (hbase : attributeBase o ("pop" : Str) X.env (eval o X.env) = eval o X.env := by rfl)
    (hfew : ((backTo cpos (starEach [e] X.env)).all (fun x => !x.1) && (backToKw cpos (keywordEach [] X.env)).all (fun x => x.1.isSome)
      && decide ([e].length + ([] : List Keyword).length + (if ([] : List Keyword).isEmpty then 0 else 1) < 30)) = true := by rfl)
    (hline : (apos.endLine == cpos.line) = true := by rfl) (hs : starEach [e] X.env = (false, eval e X.env) :: starEach [] X.env := by rfl) : PE X (.Call (.Attribute o ("pop" : Str) apos) [e] [] cpos) (tD X.K W (dLm popAtD fo f)) := by
  refine PE.imp (pe_bm PySem.F.plainAttrs_list PySem.F.slot_list_pop PySem.F.type_list_pop mt_popAt po (pa_cons pe pa_nil hs) hbase hfew hline hs rfl) fun σ H Q h => dLm_run (fun n y q u ρ H m Q E hr ea ry o => ?_) h
  unfold popAtD at o
  cases el : lsAt m n with
  | none => simp only [el] at o; exact o.elim
  | some xs =>
    simp only [el] at o
    obtain ⟨ys, e1, e2⟩ := hr.ob n q _ ea (lsAt_ok el)
    cases y with
    | int i =>
      cases ry
      simp only at o
      obtain ⟨c, o⟩ := OG.guard o
      cases ek : seqIndex? i xs.length with
      | none => simp only [ek] at o; exact o.elim
      | some k =>
        simp only [ek] at o
        cases ex : xs[k]? with
        | none => simp only [ex] at o; exact o.elim
        | some d =>
          simp only [ex] at o
          obtain ⟨v, h1, h2⟩ := e2.get ex
          refine ⟨q, ys, i, k, v, rfl, rfl, e1, Int.le_trans (by decide) c.1, Int.lt_of_le_of_lt c.2 (by decide), by rw [← e2.length]; exact ek, h1, OG.putL o hr ea (VRs.erase k e2) h2⟩
    | _ => exact o.elim
theorem dLm0_run {op : D → M → Out D} {r : V → List V → Hp → VK → Prop} (hno : ∀ x m, (∀ n, x = .ref n → lsAt m n = none) → op x m = .bad) (hnr : ∀ x m, (∀ n, x ≠ .ref n) → op x m = .bad)
    (d : ∀ (n : Nat) (q : Addr) (xs : List D) (ys : List V) (ρ : List Addr) (H : Hp) (m : M) (Q : VK) (E : XK), HR X.K ρ H m → ρ[n]? = some q → lsAt m n = some xs → H q = some (.lst ys) → VRs X.K ρ H xs ys → OG X.K (VR X.K) ρ H (op (.ref n) m) Q E → r (.ref q) [] H Q)
    {σ : L2.St} {H : Hp} {Q : VK} (h : tD X.K W (dLm0 op fo) σ H Q) : tBM0 X.K "list" r (tD X.K W fo) σ H Q := by
  obtain ⟨ρ, δ, m, sr, hr, o⟩ := h
  refine OG.part sr hr o fun x v ρ1 H1 m1 q1 p1 sr1 hr1 rx o1 => ?_
  cases x with
  | ref n =>
    cases el : lsAt m1 n with
    | none => rw [hno _ _ (fun k e => by cases e; exact el)] at o1; exact o1.elim
    | some xs =>
      obtain ⟨q, ys, rfl, ea, e1, e2⟩ := lsAt_H hr1 el rx
      exact ⟨ty_list e1, d n q xs ys ρ1 H1 m1 Q _ hr1 ea el e1 e2 o1⟩
  | _ => rw [hnr _ _ (fun k e => by cases e)] at o1; exact o1.elim
def revD (x : D) (m : M) : Out D := match x with
  | .ref n => match lsAt m n with
    | some xs => .ok .non (m.set n (.lst xs.reverse))
    | none => .bad
  | _ => .bad
def popD (x : D) (m : M) : Out D := match x with
  | .ref n => match lsAt m n with
    | some xs => match xs[xs.length - 1]? with
      | some d => .ok d (m.set n (.lst xs.dropLast))
      | none => .bad
    | none => .bad
  | _ => .bad
theorem VRs.dropLast {K : PySem.W.Frag} {ρ : List Addr} {H : Hp} {ds : List D} {xs : List V} (h : VRs K ρ H ds xs) : VRs K ρ H ds.dropLast xs.dropLast := by
  rw [List.dropLast_eq_take, List.dropLast_eq_take, h.length]
  exact h.take _
theorem xe_reverse (po : PE X o (tD X.K W fo)) (hbase : attributeBase o ("reverse" : Str) X.env (eval o X.env) = eval o X.env := by rfl) (hline : (apos.endLine == cpos.line) = true := by rfl) : PE X (.Call (.Attribute o ("reverse" : Str) apos) [] [] cpos) (tD X.K W (dLm0 revD fo)) := by
  refine PE.imp (pe_bm0 PySem.F.plainAttrs_list PySem.F.slot_list_reverse PySem.F.type_list_reverse mt_reverse po hbase hline) fun σ H Q h => dLm0_run (fun x m hn => ?_) (fun x m hn => ?_) (fun n q xs ys ρ H m Q E hr ea el e1 e2 o => ?_) h
  · cases x with
    | ref n => simp only [revD, hn n rfl]
    | _ => rfl
  · cases x with
    | ref n => exact absurd rfl (hn n)
    | _ => rfl
  · simp only [revD, el] at o
    exact ⟨q, ys, rfl, rfl, e1, OG.putL o hr ea (VRs.reverse e2) rfl⟩
theorem xe_pop (po : PE X o (tD X.K W fo)) (hbase : attributeBase o ("pop" : Str) X.env (eval o X.env) = eval o X.env := by rfl) (hline : (apos.endLine == cpos.line) = true := by rfl) : PE X (.Call (.Attribute o ("pop" : Str) apos) [] [] cpos) (tD X.K W (dLm0 popD fo)) := by
  refine PE.imp (pe_bm0 PySem.F.plainAttrs_list PySem.F.slot_list_pop PySem.F.type_list_pop mt_pop po hbase hline) fun σ H Q h => dLm0_run (fun x m hn => ?_) (fun x m hn => ?_) (fun n q xs ys ρ H m Q E hr ea el e1 e2 o => ?_) h
  · cases x with
    | ref n => simp only [popD, hn n rfl]
    | _ => rfl
  · cases x with
    | ref n => exact absurd rfl (hn n)
    | _ => rfl
  · simp only [popD, el] at o
    cases ex : xs[xs.length - 1]? with
    | none => simp only [ex] at o; exact o.elim
    | some d =>
      simp only [ex] at o
      obtain ⟨v, h1, h2⟩ := e2.get ex
      rw [e2.length] at h1
      exact ⟨q, ys, v, rfl, rfl, e1, h1, OG.putL o hr ea (VRs.dropLast e2) h2⟩
end
end PD
end

section
set_option maxHeartbeats 400000
/-! From a body's reading to a def's. -/
namespace PD
open PySem PySem.Spec PyProof.Rows L2

def SO.out : SO → Out D
  | .nx _ m => .ok .non m
  | .rt d m => .ok d m
  | .exc _ c p m => .exc c p m
  | _ => .bad
def bodyF (n : Nat) (g : DS) : FD := fun ds m => (g (ds.map some ++ List.replicate n none) m).out
theorem sr_start {K : PySem.W.Frag} {ρ : List Addr} {H : Hp} {N ps : List Str} {ds : List D} {vs : List V} (r : VRs K ρ H ds vs) (hl : ds.length = ps.length) {n : Nat} (hn : n = N.length - ps.length) : SR K ρ H (L2.start N vs) (ds.map some ++ List.replicate n none) := by
  have l := r.length
  subst hn
  unfold L2.start
  refine ⟨by simp [l]; rw [← hl, l], fun i d e => ?_⟩
  by_cases hi : i < ds.length
  · rw [List.getElem?_append_left (by simpa using hi)] at e
    rw [List.getElem?_map] at e
    cases ed : ds[i]? with
    | none => rw [ed] at e; cases e
    | some d' =>
      rw [ed] at e
      cases e
      obtain ⟨v, e1, e2⟩ := r.get ed
      refine ⟨v, ?_, e2⟩
      rw [List.getElem?_append_left (by simp; rw [← l]; exact hi), List.getElem?_map, e1]
      rfl
  · rw [List.getElem?_append_right (by simpa using hi)] at e
    have := List.mem_of_getElem? e
    rw [List.mem_replicate] at this
    cases this.2
variable {P : Program} {w : World} {K : PySem.W.Frag} {mg : Str → Option Value} {base : Heap} {x qual : Str} {params : Arguments} {body : List Stmt} {scope : Scope} {dvs : List V} {kws : List (Str × V)} {f : Addr} {fd : FuncData}
abbrev WX0 (E : XK) : WX := fun c d _ H => E c d H
theorem bodyF_run {N ps : List Str} {n : Nat} {g : DS} {vs : List V} {H : Hp} {Q : VK} {E : XK} (hn : n = N.length - ps.length) (h : spD K ps.length (bodyF n g) vs H Q E) : tDS K (WX0 E) g { nx := fun _ H' => Q .non H', rt := Q } (L2.start N vs) H := by
  obtain ⟨ρ, ds, m, h1, h2, h3, h4⟩ := h
  refine ⟨ρ, _, m, sr_start h2 h1 hn, h3, ?_⟩
  unfold bodyF at h4
  cases e : g (ds.map some ++ List.replicate n none) m with
  | nx δ' m' => rw [e] at h4; exact fun ρ' σ' H' p r1 r2 => h4 ρ' .non H' p r1 rfl
  | rt d m' => rw [e] at h4; exact fun ρ' v H' p r1 r2 => h4 ρ' v H' p r1 r2
  | bk δ' m' => rw [e] at h4; exact h4.elim
  | ct δ' m' => rw [e] at h4; exact h4.elim
  | exc δ' c p m' => rw [e] at h4; exact fun ρ' σ' dd H' p r1 r2 r3 => h4 ρ' dd H' p r1 r3
  | bad => rw [e] at h4; exact h4.elim
/-- what a body's derivation may use -/
structure Bx (X : Cx) (W : WX) (k : Nat) : Prop where
  room : Room k X.A
  tk : Takes X W
  hp : PassesOwn (model X.prog X.w) X.A X.env X.xe
  calm : X.calm = true
section
variable {X : Cx} {W : WX} {k j : Nat}
theorem Bx.u1 (b : Bx X W k) : X.A.units + 1 < cLine := by have := b.room.un; omega
theorem Bx.u64 (b : Bx X W k) : X.A.units + 64 < cLine := by have := b.room.un; omega
theorem Bx.u65 (b : Bx X W k) : X.A.units + 65 < cLine := by have := b.room.un; omega
theorem Bx.r (b : Bx X W k) (h : j ≤ k := by decide) : Room j X.A := b.room.mono h
theorem Bx.blk (b : Bx X W k) (s : Shared) (H : Hp) (scope : Scope) (cenv : Env) (fp : List Addr) : Bx (X.blk s H scope cenv fp) W0 k :=
  ⟨b.room, fun _ _ x => by
    obtain ⟨_, _, _, _, _, _, _, _, _, _, _, _, _, _, _, _, z⟩ := x
    exact z.elim, PassesOwn.never, b.calm⟩
end
/-- what is asked of a body: a reading in each context of the def -/
def Body (P : Program) (w : World) (K : PySem.W.Frag) (mg : Str → Option Value) (base : Heap) (k : Nat) (N : List Str) (qual : Str) (scope : Scope) (f : Addr) (body : List Stmt) (g : DS) : Prop :=
  ∀ (cdv : Value) (A : Around) (outer : List Env) (s : Shared) (H : Hp) (E : XK), Bx (cxOf (CX P w) P w K mg base N qual scope f cdv A outer s H E) (WX0 E) k →
    PSs (cxOf (CX P w) P w K mg base N qual scope f cdv A outer s H E) body (tDS K (WX0 E) g)
theorem fnok_of {N ps : List Str} {k n : Nat} {g : DS} (F : FunD K x qual params body scope dvs kws f fd) (S : FnScope N ps scope) (hn : n = N.length - ps.length) (h : Body P w K mg base k N qual scope f body g) :
    FnOk P w K mg base (CX P w) (k + 1) f fd ps (spD K ps.length (bodyF n g)) :=
  F.ok S (fun vs H Q E q => spD_len vs H Q E q) fun cdv A outer s H vs Q E hr q => ⟨_, h cdv A outer s H E ⟨hr, takes_of rfl rfl rfl rfl, passes_of rfl, rfl⟩, bodyF_run hn q⟩
/-- a def without defaults -/
theorem FnD.of {N ps : List Str} {k n : Nat} {g : DS} (F : FunD K x qual params body scope [] [] f fd) (S : FnScope N ps scope) (hn : n = N.length - ps.length)
    (hb : ∀ (kV doc pm : Value) (an : Option Addr) (cdv ct : Value) (us : List Value), us.length = ps.length → bindArgs (PySem.W.fnOf x qual params body scope .none kV doc pm an cdv ct) ⟨us, []⟩ = pure (ps.zip us))
    (h : Body P w K mg base k N qual scope f body g) : FnD P w K mg base (k + 1) f (fun ds m => if ds.length = ps.length then bodyF n g ds m else .bad) :=
  ⟨⟨fd, ps, bodyF n g, [], [], [], fnok_of F S hn h, F.kp, F.bindsN hb, .nil, fun _ _ => rfl, fun xs m => by simp⟩⟩
/-- a def with defaults: j of them written, the others left out -/
theorem FnD.ofD {N ps : List Str} {k n c j : Nat} {g : DS} {dds : List D} (F : FunD K x qual params body scope dvs [] f fd) (S : FnScope N ps scope) (hn : n = N.length - ps.length) (hd : dvs ≠ []) (hj : c + (dvs.length - j) = ps.length)
    (hb : ∀ (T : Addr) (kV doc pm : Value) (an : Option Addr) (cdv ct : Value) (us its : List Value), us.length = c → its.length = dvs.length →
      ∃ k, bindArgs (PySem.W.fnOf x qual params body scope (.ref T) kV doc pm an cdv ct) ⟨us, []⟩ = seqItems? (.ref T) >>= k ∧ k (some its.toArray) = pure (ps.zip (us ++ its.drop j)))
    (hv : ∀ ρ H, VRs K ρ H dds (dvs.drop j))
    (h : Body P w K mg base k N qual scope f body g) : FnD P w K mg base (k + 1) f (fun ds m => if ds.length + dds.length = ps.length then bodyF n g (ds ++ dds) m else .bad) := by
  obtain ⟨ds, h1, h2⟩ := F.binds1 (ps := ps) c j hd hj hb
  exact ⟨⟨fd, ps, bodyF n g, ds, dvs.drop j, dds, fnok_of F S hn h, F.kp, h2, h1, hv, fun xs m => rfl⟩⟩
/-- a def that nobody may call yet -/
theorem FnD.zero {ps : List Str} {k : Nat} (F : FunD K x qual params body scope [] [] f fd)
    (hb : ∀ (kV doc pm : Value) (an : Option Addr) (cdv ct : Value) (us : List Value), us.length = ps.length → bindArgs (PySem.W.fnOf x qual params body scope .none kV doc pm an cdv ct) ⟨us, []⟩ = pure (ps.zip us)) : FnD P w K mg base k f (fun _ _ => .bad) :=
  ⟨⟨fd, ps, fun _ _ => .bad, [], [], [], ⟨fun vs H Q E q => spD_len vs H Q E q, fun _ _ _ _ _ _ _ _ _ _ _ _ _ h => by
    obtain ⟨_, _, _, _, _, _, z⟩ := h
    exact z.elim⟩, F.kp, F.bindsN hb, .nil, fun _ _ => rfl, fun xs m => by simp⟩⟩
/-- .. it does as another function does -/
theorem FnD.eq {k : Nat} {G G' : FD} (h : FnD P w K mg base k f G) (e : G' = G) : FnD P w K mg base k f G' := by rw [e]; exact h
end PD
end

section
set_option maxHeartbeats 400000
/-! A class's own operators: |, &, ==, in. -/
namespace PD
open PySem PySem.Spec PyProof.Rows L2

section
variable {X : Cx} {W : WX} {k : Nat} {f : Addr} {F : FD} {a b : Expr} {g h : DE} {C : String} {nm : Str} {pos : Pos}
/-- x op y by the def of x's class, y of the class too -/
def dOwn (C : String) (F : FD) (x y : D) (m : M) : Out D := match insAt C x m, insAt C y m with
  | some _, some _ => F [x, y] m
  | _, _ => .bad
def dInOwn (C : String) (F : FD) (x y : D) (m : M) : Out D := match insAt C y m with
  | some _ => (F [y, x] m).bind fun v m' => match v with
    | .bl b => .ok (.bl b) m'
    | _ => .bad
  | none => .bad
theorem xe_binOwn {o : Operator} (hm : Meth X.K (He.ga X.K (Str.ofString C)) (PySem.dunder o.info.2) f) (hc : PySem.W.selfFirst X.K (He.ga X.K (Str.ofString C)) = true) (G : FnD X.prog X.w X.K X.mg X.base k f F) (hr : Room k X.A) (tk : Takes X W)
    (pa : PE X a (tD X.K W g)) (pb : PE X b (tD X.K W h)) : PE X (.BinOp a o b pos) (tD X.K W (d2 (dOwn C F) g h)) := by
  refine ⟨fun pins s σ H Q I ⟨ρ, δ, m, sr, hr0, oo⟩ => ?_⟩
  have q := two_d2 (Q2 := fun v u H2 => ∃ (x y : D) (ρ2 : List Addr) (m2 : M), HR X.K ρ2 H2 m2 ∧ VR X.K ρ2 H2 x v ∧ VR X.K ρ2 H2 y u ∧ OG X.K (VR X.K) ρ2 H2 (dOwn C F x y m2) Q (fun c d H' => W c d σ H')) sr hr0 oo
    fun x y v u ρ2 H2 m1 m2 e1 e2 sr2 hr2 rx ry o2 => ⟨x, y, ρ2, m2, hr2, rx, ry, o2⟩
  refine wpAny_BinOp (bin pa pb I q fun v u s2 x' y' H2 I2 r1 r2 q2 => ?_)
  obtain ⟨x, y, ρ2, m2, hr2, rx, ry, o2⟩ := q2
  unfold dOwn at o2
  cases ei : insAt C x m2 with
  | none => rw [ei] at o2; exact o2.elim
  | some w1 =>
    cases ej : insAt C y m2 with
    | none => rw [ei, ej] at o2; exact o2.elim
    | some w2 =>
      rw [ei, ej] at o2
      obtain ⟨n1, fl1⟩ := w1
      obtain ⟨n2, fl2⟩ := w2
      obtain ⟨_, _, p, dx, ys, e1, _, e2, _⟩ := insAt_ok hr2 ei rx
      obtain ⟨_, _, q', dy, zs, e3, _, e4, _⟩ := insAt_ok hr2 ej ry
      subst e1 e3
      obtain rfl : v = Value.ref p := r1
      obtain rfl : u = Value.ref q' := r2
      obtain ⟨mA, O, _⟩ := ins_get I2.hok e2
      obtain ⟨mB, O', _⟩ := ins_get I2.hok e4
      obtain ⟨od, J, _⟩ := O.look
      obtain ⟨od', J', _⟩ := O'.look
      obtain ⟨mf, hF⟩ := I2.fr
      refine PySem.W.binop_K hF I2.ok.mod.kin J J'.type hc hm.at_ hm.fn ?_
      refine wpAny_mono (run_D (us := [.ref p, .ref q']) (vs := [.ref p, .ref q']) (xs := [x, y]) G hr tk I2 (.cons rfl (.cons rfl .nil)) (.cons rx (VRs.one ry)) hr2 o2) (fun w s' z => ?_) fun _ _ x => x
      obtain ⟨z', H', I', rz, qz⟩ := z
      exact SlX.cmpback rz ⟨z', H', I', rz, qz⟩
/-- == -/
theorem xc_eqOwn (hm : Meth X.K (He.ga X.K (Str.ofString C)) "__eq__" f) (G : FnD X.prog X.w X.K X.mg X.base k f F) (hr : Room k X.A) (tk : Takes X W)
    (pa : PE X a (tD X.K W g)) (pb : PE X b (tD X.K W h)) : PC X .Eq a b (tD X.K W (d2 (dOwn C F) g h)) := by
  refine ⟨fun pins s σ H Q I ⟨ρ, δ, m, sr, hr0, oo⟩ => ?_⟩
  have q := two_d2 (Q2 := fun v u H2 => ∃ (x y : D) (ρ2 : List Addr) (m2 : M), HR X.K ρ2 H2 m2 ∧ VR X.K ρ2 H2 x v ∧ VR X.K ρ2 H2 y u ∧ OG X.K (VR X.K) ρ2 H2 (dOwn C F x y m2) Q (fun c d H' => W c d σ H')) sr hr0 oo
    fun x y v u ρ2 H2 m1 m2 e1 e2 sr2 hr2 rx ry o2 => ⟨x, y, ρ2, m2, hr2, rx, ry, o2⟩
  refine bin pa pb I q fun v u s2 x' y' H2 I2 r1 r2 q2 => ?_
  obtain ⟨x, y, ρ2, m2, hr2, rx, ry, o2⟩ := q2
  unfold dOwn at o2
  cases ei : insAt C x m2 with
  | none => rw [ei] at o2; exact o2.elim
  | some w1 =>
    cases ej : insAt C y m2 with
    | none => rw [ei, ej] at o2; exact o2.elim
    | some w2 =>
      rw [ei, ej] at o2
      obtain ⟨n1, fl1⟩ := w1
      obtain ⟨n2, fl2⟩ := w2
      obtain ⟨_, _, p, dx, ys, e1, _, e2, _⟩ := insAt_ok hr2 ei rx
      obtain ⟨_, _, q', dy, zs, e3, _, e4, _⟩ := insAt_ok hr2 ej ry
      subst e1 e3
      obtain rfl : v = Value.ref p := r1
      obtain rfl : u = Value.ref q' := r2
      obtain ⟨mA, O, _⟩ := ins_get I2.hok e2
      obtain ⟨mB, O', _⟩ := ins_get I2.hok e4
      obtain ⟨od, J, _⟩ := O.look
      obtain ⟨od', J', _⟩ := O'.look
      obtain ⟨mf, hF⟩ := I2.fr
      refine PySem.W.cmp_K (op := .Eq) hr.units0 hF I2.ok.mod.kin J J'.type (show PySem.W.notFirst _ _ _ = true from by unfold PySem.W.notFirst; rw [beq_self_eq_true, Bool.true_or]) hm.at_ hm.fn ?_
      refine wpAny_mono (run_D (us := [.ref p, .ref q']) (vs := [.ref p, .ref q']) (xs := [x, y]) G hr tk I2 (.cons rfl (.cons rfl .nil)) (.cons rx (VRs.one ry)) hr2 o2) (fun w s' z => ?_) fun _ _ x => x
      obtain ⟨z', H', I', rz, qz⟩ := z
      exact SlX.cmpback rz ⟨z', H', I', rz, qz⟩
/-- in -/
theorem xc_inOwn (hm : Meth X.K (He.ga X.K (Str.ofString C)) "__contains__" f) (G : FnD X.prog X.w X.K X.mg X.base k f F) (hr : Room k X.A) (tk : Takes X W)
    (pa : PE X a (tD X.K W g)) (pb : PE X b (tD X.K W h)) : PC X .In a b (tD X.K W (d2 (dInOwn C F) g h)) := by
  refine ⟨fun pins s σ H Q I ⟨ρ, δ, m, sr, hr0, oo⟩ => ?_⟩
  have q := two_d2 (Q2 := fun v u H2 => ∃ (x y : D) (ρ2 : List Addr) (m2 : M), HR X.K ρ2 H2 m2 ∧ VR X.K ρ2 H2 x v ∧ VR X.K ρ2 H2 y u ∧ OG X.K (VR X.K) ρ2 H2 (dInOwn C F x y m2) Q (fun c d H' => W c d σ H')) sr hr0 oo
    fun x y v u ρ2 H2 m1 m2 e1 e2 sr2 hr2 rx ry o2 => ⟨x, y, ρ2, m2, hr2, rx, ry, o2⟩
  refine bin pa pb I q fun v u s2 x' y' H2 I2 r1 r2 q2 => ?_
  obtain ⟨x, y, ρ2, m2, hr2, rx, ry, o2⟩ := q2
  unfold dInOwn at o2
  cases ej : insAt C y m2 with
  | none => rw [ej] at o2; exact o2.elim
  | some w2 =>
    rw [ej] at o2
    obtain ⟨n2, fl2⟩ := w2
    obtain ⟨_, _, q', dy, zs, e3, _, e4, _⟩ := insAt_ok hr2 ej ry
    subst e3
    obtain rfl : u = Value.ref q' := r2
    obtain ⟨mB, O', _⟩ := ins_get I2.hok e4
    obtain ⟨od', J', _⟩ := O'.look
    obtain ⟨mf, hF⟩ := I2.fr
    refine PySem.W.in_K hF I2.ok.mod.kin J' hm.at_ hm.fn ?_
    have o3 : OG X.K (VR X.K) ρ2 H2 (F [y, x] m2) (fun v' H' => ∃ bb, v' = .bl bb ∧ Q (.bl bb) H') (fun c d H' => W c d σ H') := by
      cases eF : F [y, x] m2 with
      | bad => rw [eF] at o2; exact o2.elim
      | exc c p m' => rw [eF] at o2; exact o2
      | ok v' m' =>
        rw [eF] at o2
        intro ρ' b' H' p' hr' rv
        have o4 := OG.later p' o2
        cases v' with
        | bl bb => cases rv; exact ⟨bb, rfl, OG.ok (a := D.bl bb) o4 hr' rfl⟩
        | _ => exact o4.elim
    refine wpAny_mono (run_D (us := [.ref q', v]) (vs := [.ref q', x']) (xs := [y, x]) G hr tk I2 (.cons rfl (.cons r1 .nil)) (.cons ry (VRs.one rx)) hr2 o3) (fun w s' z => ?_) fun _ _ x => x
    obtain ⟨z', H', I', rz, bb, ez, qz⟩ := z
    subst ez
    cases (show w = Value.bool bb from rz)
    exact wpAny_pure ⟨.bl bb, H', I', rfl, qz⟩
end
end PD
end

section
set_option maxHeartbeats 400000
/-! sorted of data of any depth; names of types and classes as values. -/
namespace PD
open PySem PySem.Spec PyProof.Rows L2

def aliB (ds : List PyData) : Bool := ds.all fun d => ds.all fun e => PySem.W.alike d e
def srtB (ds : List PyData) : Bool := ds.all fun d => match d with
  | .none => false
  | .tuple _ => false
  | _ => true
/-- sorted values, the data told with each -/
def srtDs {α : Type} (xs : List α) (ds : List PyData) : List α := ((xs.zip ds).mergeSort (PySem.W.dataLe false Prod.snd)).map Prod.fst
def sortDD (x : D) (m : M) : Out D := match lstOf x m with
  | some xs => match pyAll (fun d => py 8 d m) xs with
    | some ds => if (aliB ds && srtB ds) = true then .ok (.ref m.length) (m ++ [.lst (srtDs xs ds)]) else .bad
    | none => .bad
  | none => .bad
def bSortDD : FD := on1 sortDD
def rSortDD (K : PySem.W.Frag) : List V → Hp → VK → Prop := fun vs H Q => ∃ (a : Addr) (xs : List V) (ds : List PyData), vs = [V.ref a] ∧ SqL K H a xs ∧ DpAll K H xs ds ∧ PyData.depthAll ds ≤ 8 ∧ aliB ds = true ∧ srtB ds = true ∧
  ∀ p, H p = none → Q (.ref p) (upd H p (.lst (srtDs xs ds)))
theorem depth_mem : ∀ {ds : List PyData} {d : PyData}, d ∈ ds → d.depth ≤ PyData.depthAll ds
  | [], _, h => by simp at h
  | e :: ds, d, h => by
    simp only [PyData.depthAll]
    rcases List.mem_cons.mp h with rfl | h
    · omega
    · have := depth_mem h
      omega
theorem each_zip {h : Heap} : ∀ {xs : List V} {ds : List PyData} {its : List Value} {as : List Addr}, Vals xs its → ReadsAll h its ds as → PySem.W.EachIs (fun (v : Value) (b : V × PyData) => RelV b.1 v) its (xs.zip ds) ∧ PySem.W.EachIs (fun (v : Value) (b : V × PyData) => ∃ as, Reads h v b.2 as) its (xs.zip ds)
  | [], [], _, _, r, q => by cases r; exact ⟨.nil, .nil⟩
  | [], _ :: _, _, _, r, q => by cases r; cases q
  | _ :: _, [], _, _, r, q => by cases r; cases q
  | x :: xs, d :: ds, _, _, r, q => by
    cases r with
    | cons r1 r2 => cases q with
      | cons q1 q2 =>
        obtain ⟨h1, h2⟩ := each_zip r2 q2
        exact ⟨.cons r1 h1, .cons ⟨_, q1⟩ h2⟩
theorem each_vals : ∀ {out : List Value} {bs : List (V × PyData)}, PySem.W.EachIs (fun (v : Value) (b : V × PyData) => RelV b.1 v) out bs → Vals (bs.map Prod.fst) out
  | _, _, .nil => .nil
  | _, _, .cons h t => .cons h (each_vals t)
section
variable {X : Cx}
theorem cr_sortDD (hu : X.A.units + 65 < cLine) : CallR X (.builtin "sorted") (rSortDD X.K) := by
  intro pins s σ H vs us Q I r h
  obtain ⟨a, xs, ds, rfl, hs, hd, hdep, ha, hb, q⟩ := h
  obtain ⟨its, rv, hl, hz⟩ := I.list hs
  obtain ⟨u, rfl, ru⟩ := vals1 r
  obtain rfl : u = Value.ref a := ru
  obtain ⟨as, rr⟩ := Dp.readsAll I ds xs its hd rv
  obtain ⟨e1, e2⟩ := each_zip rv rr
  have hlen : (xs.zip ds).length = its.length := e1.length.symm
  have hmap : (xs.zip ds).map Prod.snd = ds := by
    have l1 : its.length = ds.length := SeqAt.ReadsAll.length ds its as rr
    have l2 := rv.length
    exact List.map_snd_zip (by omega)
  refine PySem.W.sorted_data (R := fun (v : Value) (b : V × PyData) => RelV b.1 v) (enc := Prod.snd) (bs := xs.zip ds) hl.isList e1 e2 ?_ ?_ (by rw [hlen, ← rv.length]; exact hz) (fun b hb' => ?_) fun out ho hR => ?_
  · rw [hmap]
    exact fun d hd d' hd' => by
      have h1 := List.all_eq_true.mp ha d hd
      exact List.all_eq_true.mp h1 d' hd'
  · rw [hmap]
    refine .inr fun d hd => ?_
    have h1 := List.all_eq_true.mp hb d hd
    cases d with
    | none => cases h1
    | tuple _ => cases h1
    | _ => exact ⟨nofun, nofun⟩
  · have h1 : b.2 ∈ ds := by rw [← hmap]; exact List.mem_map_of_mem hb'
    have h2 := depth_mem h1
    omega
  · have rl := each_vals hR
    refine ⟨.ref (s.heap.objs.size + 1), upd H (s.heap.objs.size + 1) (.lst (srtDs xs ds)), I.laid (t' := s.toks) (fun b u e => sortedAll_old e) (Nat.le_succ _) ?_, rfl, q _ (I.hok.fresh (Nat.le_succ _))⟩
    obtain ⟨n, hn⟩ := sortedAll_at s.heap its out.toArray
    refine ⟨?_, out, n, rl, hn⟩
    rw [show (srtDs xs ds).length = its.length from by unfold srtDs; rw [List.length_map, List.length_mergeSort, hlen], ← rv.length]
    exact hz
end
theorem VRs.zipmem {K : PySem.W.Frag} {ρ : List Addr} {H : Hp} : ∀ {xs : List D} {vs : List V}, VRs K ρ H xs vs → ∀ p ∈ xs.zip vs, VR K ρ H p.1 p.2
  | [], _, h, p, hp => by simp at hp
  | d :: ds, _, ⟨x, r, e, h1, h2⟩, p, hp => by
    subst e
    rcases List.mem_cons.mp (show p ∈ (d, x) :: ds.zip r from hp) with rfl | hp
    · exact h1
    · exact VRs.zipmem h2 p hp
theorem VRs.ofmem {K : PySem.W.Frag} {ρ : List Addr} {H : Hp} : ∀ {ps : List (D × V)}, (∀ p ∈ ps, VR K ρ H p.1 p.2) → VRs K ρ H (ps.map Prod.fst) (ps.map Prod.snd)
  | [], _ => rfl
  | p :: ps, h => ⟨p.2, _, rfl, h p List.mem_cons_self, VRs.ofmem fun q hq => h q (List.mem_cons_of_mem _ hq)⟩
theorem zip_of {α β γ : Type} : ∀ (xs : List α) (ys : List β) (zs : List γ), xs.length = ys.length → ((xs.zip ys).zip zs).map (fun t => (t.1.1, t.2)) = xs.zip zs ∧ ((xs.zip ys).zip zs).map (fun t => (t.1.2, t.2)) = ys.zip zs
  | [], [], zs, _ => ⟨rfl, rfl⟩
  | x :: xs, y :: ys, [], _ => ⟨rfl, rfl⟩
  | x :: xs, y :: ys, z :: zs, h => by
    obtain ⟨h1, h2⟩ := zip_of xs ys zs (by simpa using h)
    exact ⟨by simp [h1], by simp [h2]⟩
theorem srtDs_VRs {K : PySem.W.Frag} {ρ : List Addr} {H : Hp} {xs : List D} {vs : List V} (ds : List PyData) (r : VRs K ρ H xs vs) : VRs K ρ H (srtDs xs ds) (srtDs vs ds) := by
  obtain ⟨z1, z2⟩ := zip_of xs vs ds r.length
  have m1 := List.map_mergeSort (f := fun t : (D × V) × PyData => (t.1.1, t.2)) (r := PySem.W.dataLe false Prod.snd) (s := PySem.W.dataLe false Prod.snd) (l := (xs.zip vs).zip ds) (fun a _ b _ => rfl)
  have m2 := List.map_mergeSort (f := fun t : (D × V) × PyData => (t.1.2, t.2)) (r := PySem.W.dataLe false Prod.snd) (s := PySem.W.dataLe false Prod.snd) (l := (xs.zip vs).zip ds) (fun a _ b _ => rfl)
  rw [z1] at m1
  rw [z2] at m2
  unfold srtDs
  rw [← m1, ← m2, List.map_map, List.map_map]
  have h := VRs.ofmem (K := K) (ρ := ρ) (H := H) (ps := (((xs.zip vs).zip ds).mergeSort (PySem.W.dataLe false Prod.snd)).map Prod.fst) (fun p hp => by
    obtain ⟨t, ht, rfl⟩ := List.mem_map.mp hp
    have ht' := (List.mergeSort_perm _ _).mem_iff.mp ht
    exact r.zipmem _ (List.of_mem_zip ht').1)
  rw [List.map_map, List.map_map] at h
  exact h
theorem py_all {K : PySem.W.Frag} {ρ : List Addr} {H : Hp} {m : M} (hr : HR K ρ H m) {xs : List D} {ds : List PyData} {vs : List V} (h : pyAll (fun d => py 8 d m) xs = some ds) (r : VRs K ρ H xs vs) : DpAll K H vs ds ∧ PyData.canLayAll0 ds = true ∧ PyData.depthAll ds ≤ 8 :=
  pyAll_ok (py_ok hr 8) xs ds vs h r
section
variable {X : Cx}
theorem does_sortDD : DoesC X (rSortDD X.K) bSortDD := by
  refine does1 fun x v ρ H m Q E hr rx o => ?_
  unfold sortDD at o
  cases el : lstOf x m with
  | none => simp only [el] at o; exact o.elim
  | some xs =>
    simp only [el] at o
    cases ep : pyAll (fun d => py 8 d m) xs with
    | none => simp only [ep] at o; exact o.elim
    | some ds =>
      simp only [ep] at o
      obtain ⟨c, o⟩ := OG.guard o
      obtain ⟨c1, c2⟩ := Bool.and_eq_true_iff.mp c
      obtain ⟨a, ys, rfl, h1, h2⟩ := lstOf_H hr el rx
      obtain ⟨q1, q2, q3⟩ := py_all hr ep h2
      exact ⟨a, ys, ds, rfl, h1, q1, q3, c1, c2, fun p hp => OG.newL o hr hp (srtDs_VRs ds h2)⟩
/-! ### names -/
variable {W : WX} {x : Str} {pos : Pos}
theorem xe_ty {T : String} (hg : Gl X x) (hm : X.mg x = none) (hv : bootBuiltins x = some (.type T)) (hn : x ≠ "__name__" := by decide) (hd : (x == ("__debug__" : Str)) = false := by decide) : PE X (.Name x pos) (tD X.K W (dC (.ty T))) :=
  xe_k (v := .ty T) (pe_bltn hg hm hv rfl hn hd) fun _ _ => rfl
theorem xe_glo {C : String} (hg : Gl X (Str.ofString C)) (hm : X.mg (Str.ofString C) = some (.ref (He.ga X.K (Str.ofString C)))) (hd : (Str.ofString C == ("__debug__" : Str)) = false := by decide) : PE X (.Name (Str.ofString C) pos) (tD X.K W (dC (.glo C))) :=
  xe_k (v := .ref (He.ga X.K (Str.ofString C))) (pe_glob hg hm rfl hd) fun _ _ => rfl
end
end PD
end

section
set_option maxHeartbeats 400000
/-! The head with one more question about the module's own part. -/
namespace PD
open PySem PySem.Spec PyProof.Rows L2

/-- what isinstance asks of the class named C -/
def insB (K : PySem.W.Frag) (C : Str) : Bool :=
  He.eqO (PySem.W.findIn K (.ref (He.ga K C)) "__class__") (some (some (.builtin "object.__class__"))) && (He.eqO (PySem.W.specialIn K (.builtin "object.__class__") "__get__") (some (some (.builtin "getset_descriptor.__get__"))) &&
    (decide (PySem.W.takesIn K (.builtin "object.__class__") = some true) && (decide (PySem.W.mroIn K (He.ga K C) (.type "object") = some true) && decide (PySem.W.kitOne K (.ref (He.ga K C)) (.ref (He.ga K C)) = some true))))
theorem insB_ok {K : PySem.W.Frag} {C : Str} (cl : Cls K (He.ga K C)) (h : insB K C = true) : C8.InsC K (He.ga K C) := by
  obtain ⟨h1, h⟩ := He.ba h
  obtain ⟨h2, h⟩ := He.ba h
  obtain ⟨h3, h⟩ := He.ba h
  obtain ⟨h4, h5⟩ := He.ba h
  exact ⟨cl, He.eqO_ok h1, He.eqO_ok h2, of_decide_eq_true h3, of_decide_eq_true h4, of_decide_eq_true h5⟩
/-- an empty tuple stands at a -/
def tup0B (K : PySem.W.Frag) (a : Addr) : Bool := match K.lookup a with
  | some ⟨.type c, _, .seq its _, _⟩ => decide (c = "tuple") && decide (its.size = 0)
  | _ => false
theorem tup0_ok {K : PySem.W.Frag} {a : Addr} (h : tup0B K a = true) (ρ : List Addr) (H : Hp) : VR K ρ H (.wt []) (.ref a) := by
  unfold tup0B at h
  split at h
  · next c d its n sl e =>
    obtain ⟨h1, h2⟩ := He.ba h
    have e1 := of_decide_eq_true h1
    have e2 : its = #[] := Array.eq_empty_of_size_eq_zero (of_decide_eq_true h2)
    subst e1 e2
    exact ⟨a, [], rfl, fun H' => .inr ⟨_, #[], n, e, rfl, rfl, Nat.zero_le _, .nil⟩, rfl⟩
  · cases h
abbrev AlE : Type := He.AlD × Bool
def obE (n : Nat) (fa : List He.Fa) (fn : List He.DefD) (ex : PySem.W.Frag → Bool) (g : Addr → Option Obj) : AlE := (He.obsD fa fn (He.frG g (He.asD g n)), ex (He.frG g (He.asD g n)))
def hookE (n : Nat) (fa : List He.Fa) (fn : List He.DefD) (ex : PySem.W.Frag → Bool) : PySem.W.Hook where
  α := AlE
  obs := fun s => obE n fa fn ex s.heap.get?
  val := fun _ => (He.valD fn, true)
  says := fun _ h => ∃ K : PySem.W.Frag, K.In h ∧ He.SaysD fa fn K ∧ ex K = true
  of := fun _ _ e => ⟨_, He.frG_in, congrArg (fun z : AlE => z.1) e, congrArg (fun z : AlE => z.2) e⟩
  keeps := fun _ _ _ ⟨K, hK, c, d⟩ k => ⟨K, PySem.W.Frag.In.keeps hK k, c, d⟩
theorem obE_eq {n : Nat} {fa : List He.Fa} {fn : List He.DefD} {ex : PySem.W.Frag → Bool} {g : Addr → Option Obj} {s : Shared} (h : ∀ a, g a = s.heap.get? a) : obE n fa fn ex g = (hookE n fa fn ex).obs s := by
  rw [show g = s.heap.get? from funext h]
  rfl
end PD
end

section
set_option maxHeartbeats 400000
/-! Comprehensions in a body: the block's own context is told. -/
namespace PD
open PySem PySem.Spec PyProof.Rows L2
section
variable {X : Cx} {W : WX} {elt kx vx tg iter : Expr} {ifs : List Expr} {scope : Scope} {own : List (Str × Nat)} {pos spos py : Pos} {y : Str} {k : Nat}
theorem xb_lc {it : DSt → M → Out ItD} {gt : TG} {t : TD} {is : List Nat} {test : DB} {el : DE} (b : Bx X W k) (hN : X.N.Nodup) (hi : PI X tg iter (tDI X.K W it)) (ok : BlkOk X.N X.env.scope scope own) (dt : DoesA X gt t is) (hiv : ∀ i ∈ is, i ∈ own.map (·.2))
    (hg : ∀ (s : Shared) (H : Hp) (C : Addr) (cl : List (Str × Addr)) (fp : List Addr), Bx (X.blk s H scope (compEnvC scope cl C X.env) fp) W0 k → PG (X.blk s H scope (compEnvC scope cl C X.env) fp) tg gt)
    (ht : ∀ (s : Shared) (H : Hp) (C : Addr) (cl : List (Str × Addr)) (fp : List Addr), Bx (X.blk s H scope (compEnvC scope cl C X.env) fp) W0 k → PTs (X.blk s H scope (compEnvC scope cl C X.env) fp) ifs (tDB X.K W0 test))
    (he : ∀ (s : Shared) (H : Hp) (C : Addr) (cl : List (Str × Addr)) (fp : List Addr), Bx (X.blk s H scope (compEnvC scope cl C X.env) fp) W0 k → PE (X.blk s H scope (compEnvC scope cl C X.env) fp) elt (tD X.K W0 el))
    (hs : ∀ x, foldedSetIterable iter X.env x = pure x := by intro _; rfl) :
    PE X (.ListComp elt [⟨tg, iter, ifs, 0⟩] scope pos) (tD X.K W (dLc it t (own.map (·.2)) test el)) :=
  xe_lc b.calm hN hi ok dt hiv (fun s H C cl fp => hg s H C cl fp (b.blk s H _ _ fp)) (fun s H C cl fp => ht s H C cl fp (b.blk s H _ _ fp)) (fun s H C cl fp => he s H C cl fp (b.blk s H _ _ fp)) hs
theorem zb_lc {i : Nat} {it : DSt → M → Out ItD} {gt : TG} {t : TD} {is : List Nat} {test : DB} {el : DE} (b : Bx X W k) (hN : X.N.Nodup) (hy : X.N[i]? = some y) (hyl : X.env.scope.names.lookup y = some .local) (hsw : swapsWith (.ListComp elt [⟨tg, iter, ifs, 0⟩] scope pos) (some (.Name y py)) spos.line X.env = pure true) (hi : PI X tg iter (tDI X.K W it)) (ok : BlkOk X.N X.env.scope scope own) (dt : DoesA X gt t is) (hiv : ∀ i ∈ is, i ∈ own.map (·.2))
    (hg : ∀ (s : Shared) (H : Hp) (C : Addr) (cl : List (Str × Addr)) (fp : List Addr), Bx (X.blk s H scope (compEnvC scope cl C X.env) fp) W0 k → PG (X.blk s H scope (compEnvC scope cl C X.env) fp) tg gt)
    (ht : ∀ (s : Shared) (H : Hp) (C : Addr) (cl : List (Str × Addr)) (fp : List Addr), Bx (X.blk s H scope (compEnvC scope cl C X.env) fp) W0 k → PTs (X.blk s H scope (compEnvC scope cl C X.env) fp) ifs (tDB X.K W0 test))
    (he : ∀ (s : Shared) (H : Hp) (C : Addr) (cl : List (Str × Addr)) (fp : List Addr), Bx (X.blk s H scope (compEnvC scope cl C X.env) fp) W0 k → PE (X.blk s H scope (compEnvC scope cl C X.env) fp) elt (tD X.K W0 el))
    (hs : ∀ x, foldedSetIterable iter X.env x = pure x := by intro _; rfl) :
    PS X (.Assign [.Name y py] (.ListComp elt [⟨tg, iter, ifs, 0⟩] scope pos) spos) (tDS X.K W (sAsg i (dLc it t (own.map (·.2)) test el))) :=
  z_setLc b.calm hN hy hyl hsw hi ok dt hiv (fun s H C cl fp => hg s H C cl fp (b.blk s H _ _ fp)) (fun s H C cl fp => ht s H C cl fp (b.blk s H _ _ fp)) (fun s H C cl fp => he s H C cl fp (b.blk s H _ _ fp)) hs
theorem xb_dc (T : Bool) {it : DSt → M → Out ItD} {gt : TG} {t : TD} {is : List Nat} {test : DB} {ke ve : DE} (b : Bx X W k) (hN : X.N.Nodup) (hi : PI X tg iter (tDI X.K W it)) (ok : BlkOk X.N X.env.scope scope own) (dt : DoesA X gt t is) (hiv : ∀ i ∈ is, i ∈ own.map (·.2))
    (hg : ∀ (s : Shared) (H : Hp) (C : Addr) (cl : List (Str × Addr)) (fp : List Addr), Bx (X.blk s H scope (compEnvC scope cl C X.env) fp) W0 k → PG (X.blk s H scope (compEnvC scope cl C X.env) fp) tg gt)
    (ht : ∀ (s : Shared) (H : Hp) (C : Addr) (cl : List (Str × Addr)) (fp : List Addr), Bx (X.blk s H scope (compEnvC scope cl C X.env) fp) W0 k → PTs (X.blk s H scope (compEnvC scope cl C X.env) fp) ifs (tDB X.K W0 test))
    (hk : ∀ (s : Shared) (H : Hp) (C : Addr) (cl : List (Str × Addr)) (fp : List Addr), Bx (X.blk s H scope (compEnvC scope cl C X.env) fp) W0 k → PE (X.blk s H scope (compEnvC scope cl C X.env) fp) kx (tD X.K W0 ke))
    (he : ∀ (s : Shared) (H : Hp) (C : Addr) (cl : List (Str × Addr)) (fp : List Addr), Bx (X.blk s H scope (compEnvC scope cl C X.env) fp) W0 k → PE (X.blk s H scope (compEnvC scope cl C X.env) fp) vx (tD X.K W0 ve))
    (hs : ∀ x, foldedSetIterable iter X.env x = pure x := by intro _; rfl) :
    PE X (.DictComp kx vx [⟨tg, iter, ifs, 0⟩] scope pos) (tD X.K W (dDc T it t (own.map (·.2)) test ke ve)) :=
  xe_dc T b.u1 b.calm hN hi ok dt hiv (fun s H C cl fp => hg s H C cl fp (b.blk s H _ _ fp)) (fun s H C cl fp => ht s H C cl fp (b.blk s H _ _ fp)) (fun s H C cl fp => hk s H C cl fp (b.blk s H _ _ fp)) (fun s H C cl fp => he s H C cl fp (b.blk s H _ _ fp)) hs
theorem zb_dc (T : Bool) {i : Nat} {it : DSt → M → Out ItD} {gt : TG} {t : TD} {is : List Nat} {test : DB} {ke ve : DE} (b : Bx X W k) (hN : X.N.Nodup) (hy : X.N[i]? = some y) (hyl : X.env.scope.names.lookup y = some .local) (hsw : swapsWith (.DictComp kx vx [⟨tg, iter, ifs, 0⟩] scope pos) (some (.Name y py)) spos.line X.env = pure true) (hi : PI X tg iter (tDI X.K W it)) (ok : BlkOk X.N X.env.scope scope own) (dt : DoesA X gt t is) (hiv : ∀ i ∈ is, i ∈ own.map (·.2))
    (hg : ∀ (s : Shared) (H : Hp) (C : Addr) (cl : List (Str × Addr)) (fp : List Addr), Bx (X.blk s H scope (compEnvC scope cl C X.env) fp) W0 k → PG (X.blk s H scope (compEnvC scope cl C X.env) fp) tg gt)
    (ht : ∀ (s : Shared) (H : Hp) (C : Addr) (cl : List (Str × Addr)) (fp : List Addr), Bx (X.blk s H scope (compEnvC scope cl C X.env) fp) W0 k → PTs (X.blk s H scope (compEnvC scope cl C X.env) fp) ifs (tDB X.K W0 test))
    (hk : ∀ (s : Shared) (H : Hp) (C : Addr) (cl : List (Str × Addr)) (fp : List Addr), Bx (X.blk s H scope (compEnvC scope cl C X.env) fp) W0 k → PE (X.blk s H scope (compEnvC scope cl C X.env) fp) kx (tD X.K W0 ke))
    (he : ∀ (s : Shared) (H : Hp) (C : Addr) (cl : List (Str × Addr)) (fp : List Addr), Bx (X.blk s H scope (compEnvC scope cl C X.env) fp) W0 k → PE (X.blk s H scope (compEnvC scope cl C X.env) fp) vx (tD X.K W0 ve))
    (hs : ∀ x, foldedSetIterable iter X.env x = pure x := by intro _; rfl) :
    PS X (.Assign [.Name y py] (.DictComp kx vx [⟨tg, iter, ifs, 0⟩] scope pos) spos) (tDS X.K W (sAsg i (dDc T it t (own.map (·.2)) test ke ve))) :=
  z_setDc T b.u1 b.calm hN hy hyl hsw hi ok dt hiv (fun s H C cl fp => hg s H C cl fp (b.blk s H _ _ fp)) (fun s H C cl fp => ht s H C cl fp (b.blk s H _ _ fp)) (fun s H C cl fp => hk s H C cl fp (b.blk s H _ _ fp)) (fun s H C cl fp => he s H C cl fp (b.blk s H _ _ fp)) hs
/-- such a value to such a name: the slots are swapped -/
theorem sw_trueD {gs : List Comprehension} {l : Nat} {env : Env} (hk : env.scope.kind = .function) (hy : env.scope.names.lookup y = some .local) (hl : (py.line == pos.line) = true)
    (ha : (scope.names.any fun (n, k) => n == y && (k == .local || k == .cell)) = false) : swapsWith (.DictComp kx vx gs scope pos) (some (.Name y py)) l env = pure true := by
  have ky : env.kindOf y = some .local := hy
  have hb : env.blockKind = .function := by unfold Env.blockKind; rw [hk]; rfl
  unfold swapsWith
  simp only [hb, ky, ha, Expr.pos, hl]
  rfl
end
end PD
end

section
set_option maxHeartbeats 400000


namespace NP
open PySem PySem.Spec PyProof.Rows L2 PD
def top (i : Nat) : Stmt := PySem.Challenge.pw_neverpenned_k46_landfast.main.body.getD i (.Pass ⟨0, 0, 0, 0⟩)
structure Txt (K : PySem.W.Frag) (mg : Str → Option Value) : Prop where
  g__law_draw : mg "_law_draw" = some (.ref (He.ga K "_law_draw"))
  g_check_length : mg "check_length" = some (.ref (He.ga K "check_length"))
  g_check_cell : mg "check_cell" = some (.ref (He.ga K "check_cell"))
  g_check_cells : mg "check_cells" = some (.ref (He.ga K "check_cells"))
  g__on_shore : mg "_on_shore" = some (.ref (He.ga K "_on_shore"))
  g__check_off_shore : mg "_check_off_shore" = some (.ref (He.ga K "_check_off_shore"))
  g_Bank : mg "Bank" = some (.ref (He.ga K "Bank"))
  g__beside_shore : mg "_beside_shore" = some (.ref (He.ga K "_beside_shore"))
  g_neighbours : mg "neighbours" = some (.ref (He.ga K "neighbours"))
  g__take_joined : mg "_take_joined" = some (.ref (He.ga K "_take_joined"))
  g_islands : mg "islands" = some (.ref (He.ga K "islands"))
  g_landfast : mg "landfast" = some (.ref (He.ga K "landfast"))
  g__law_blocks : mg "_law_blocks" = some (.ref (He.ga K "_law_blocks"))
  g__law_lot : mg "_law_lot" = some (.ref (He.ga K "_law_lot"))
  g__law_plain : mg "_law_plain" = some (.ref (He.ga K "_law_plain"))
  g__law_near : mg "_law_near" = some (.ref (He.ga K "_law_near"))
  g__law_parts : mg "_law_parts" = some (.ref (He.ga K "_law_parts"))
  g__law_same : mg "_law_same" = some (.ref (He.ga K "_law_same"))
  g__law_asked : mg "_law_asked" = some (.ref (He.ga K "_law_asked"))
  g_law : mg "law" = some (.ref (He.ga K "law"))
  n_int : mg "int" = none
  n_abs : mg "abs" = none
  n_range : mg "range" = none
  n_len : mg "len" = none
  n_list : mg "list" = none
  n_sorted : mg "sorted" = none
  n_tuple : mg "tuple" = none
  n_isinstance : mg "isinstance" = none
  n_bool : mg "bool" = none
  n_str : mg "str" = none
  i__MOST_EXTRA : ∃ t, mg "_MOST_EXTRA" = some (.int (10000) t)
  i_REACH : ∃ t, mg "REACH" = some (.int (120) t)
  c_Bank : Cls K (He.ga K "Bank")
  a_Bank__places : NoAttr K (He.ga K "Bank") "_places"
  a_Bank_extra : NoAttr K (He.ga K "Bank") "extra"
  m_Bank___eq__ : Meth K (He.ga K "Bank") "__eq__" (He.ma K (He.ga K "Bank") "__eq__")
  m_Bank___or__ : Meth K (He.ga K "Bank") "__or__" (He.ma K (He.ga K "Bank") "__or__")
  k_Bank : Mk K (He.ga K "Bank") (He.ma K (He.ga K "Bank") "__init__")
  w_Bank : C8.InsC K (He.ga K "Bank")
  o_Bank : PySem.W.selfFirst K (He.ga K "Bank") = true
  d_Bank___init__ : ∀ ρ H, VRs K ρ H [.wt []] [.ref (He.dflAt ("Bank", some "__init__") 0 K)]
  f__law_draw : ∃ fd, FunD K "_law_draw" "_law_draw" (defArgs (top 25)) (defBody (top 25)) (defScope (top 25)) [] [] (He.ga K "_law_draw") fd
  f_check_length : ∃ fd, FunD K "check_length" "check_length" (defArgs (top 12)) (defBody (top 12)) (defScope (top 12)) [] [] (He.ga K "check_length") fd
  f_check_cell : ∃ fd, FunD K "check_cell" "check_cell" (defArgs (top 9)) (defBody (top 9)) (defScope (top 9)) [] [] (He.ga K "check_cell") fd
  f_check_cells : ∃ fd, FunD K "check_cells" "check_cells" (defArgs (top 13)) (defBody (top 13)) (defScope (top 13)) [] [] (He.ga K "check_cells") fd
  f__on_shore : ∃ fd, FunD K "_on_shore" "_on_shore" (defArgs (top 16)) (defBody (top 16)) (defScope (top 16)) [] [] (He.ga K "_on_shore") fd
  f__check_off_shore : ∃ fd, FunD K "_check_off_shore" "_check_off_shore" (defArgs (top 17)) (defBody (top 17)) (defScope (top 17)) [] [] (He.ga K "_check_off_shore") fd
  f_Bank___init__ : ∃ fd, FunD K "__init__" "Bank.__init__" (defArgs (inClass (top 18) 0)) (defBody (inClass (top 18) 0)) (defScope (inClass (top 18) 0)) [V.ref (He.dflAt ("Bank", some "__init__") 0 K)] [] (He.ma K (He.ga K "Bank") "__init__") fd
  f__beside_shore : ∃ fd, FunD K "_beside_shore" "_beside_shore" (defArgs (top 21)) (defBody (top 21)) (defScope (top 21)) [] [] (He.ga K "_beside_shore") fd
  f_neighbours : ∃ fd, FunD K "neighbours" "neighbours" (defArgs (top 10)) (defBody (top 10)) (defScope (top 10)) [] [] (He.ga K "neighbours") fd
  f__take_joined : ∃ fd, FunD K "_take_joined" "_take_joined" (defArgs (top 20)) (defBody (top 20)) (defScope (top 20)) [] [] (He.ga K "_take_joined") fd
  f_islands : ∃ fd, FunD K "islands" "islands" (defArgs (top 23)) (defBody (top 23)) (defScope (top 23)) [] [] (He.ga K "islands") fd
  f_landfast : ∃ fd, FunD K "landfast" "landfast" (defArgs (top 22)) (defBody (top 22)) (defScope (top 22)) [] [] (He.ga K "landfast") fd
  f__law_blocks : ∃ fd, FunD K "_law_blocks" "_law_blocks" (defArgs (top 32)) (defBody (top 32)) (defScope (top 32)) [] [] (He.ga K "_law_blocks") fd
  f__law_lot : ∃ fd, FunD K "_law_lot" "_law_lot" (defArgs (top 29)) (defBody (top 29)) (defScope (top 29)) [] [] (He.ga K "_law_lot") fd
  f__law_plain : ∃ fd, FunD K "_law_plain" "_law_plain" (defArgs (top 27)) (defBody (top 27)) (defScope (top 27)) [] [] (He.ga K "_law_plain") fd
  f__law_near : ∃ fd, FunD K "_law_near" "_law_near" (defArgs (top 28)) (defBody (top 28)) (defScope (top 28)) [] [] (He.ga K "_law_near") fd
  f__law_parts : ∃ fd, FunD K "_law_parts" "_law_parts" (defArgs (top 30)) (defBody (top 30)) (defScope (top 30)) [] [] (He.ga K "_law_parts") fd
  f__law_same : ∃ fd, FunD K "_law_same" "_law_same" (defArgs (top 26)) (defBody (top 26)) (defScope (top 26)) [] [] (He.ga K "_law_same") fd
  f_Bank___eq__ : ∃ fd, FunD K "__eq__" "Bank.__eq__" (defArgs (inClass (top 18) 3)) (defBody (inClass (top 18) 3)) (defScope (inClass (top 18) 3)) [] [] (He.ma K (He.ga K "Bank") "__eq__") fd
  f_Bank___or__ : ∃ fd, FunD K "__or__" "Bank.__or__" (defArgs (inClass (top 18) 4)) (defBody (inClass (top 18) 4)) (defScope (inClass (top 18) 4)) [] [] (He.ma K (He.ga K "Bank") "__or__") fd
  f__law_asked : ∃ fd, FunD K "_law_asked" "_law_asked" (defArgs (top 31)) (defBody (top 31)) (defScope (top 31)) [] [] (He.ga K "_law_asked") fd
  f_law : ∃ fd, FunD K "law" "law" (defArgs (top 33)) (defBody (top 33)) (defScope (top 33)) [] [] (He.ga K "law") fd
variable {P : Program} {w : World} {K : PySem.W.Frag} {mg : Str → Option Value} {base : Heap}
abbrev N__law_draw : List Str := ["pool", "many", "digit"]
abbrev sc__law_draw : Scope := defScope (top 25)
theorem fs__law_draw : FnScope N__law_draw ["pool", "many"] sc__law_draw := ⟨rfl, rfl, rfl, by decide +kernel, rfl, by decide +kernel, by decide +kernel⟩
def den__law_draw : DS := (sSeq (sIf (dB (d2 dEq (dVar 0) (dLst aNil))) (sRet (dC (.int 0))) sSkip) (sSeq (sAsg 2 (d2 dMod (dCall bInt (aCons (d2 ixD (dVar 0) (dC (.int 0))) aNil)) (dVar 1))) (sSeq (sStore (dVar 0) (dC (.int 0)) (d2 dFdiv (dCall bInt (aCons (d2 ixD (dVar 0) (dC (.int 0))) aNil)) (dVar 1))) (sSeq (sIf (dB (d2 dEq (d2 ixD (dVar 0) (dC (.int 0))) (dC (.int 0)))) (sExpr (dLm popAtD (dVar 0) (dC (.int 0)))) sSkip) (sRet (dVar 2))))))
theorem bd__law_draw (T : Txt K mg) : Body P w K mg base 0 N__law_draw "_law_draw" sc__law_draw (He.ga K "_law_draw") (defBody (top 25)) den__law_draw := by
  intro cdv A outer s H E b
  have hN := fs__law_draw.nd
  exact (zs_cons (z_if (xt_c (xc_eq b.u64 (xe_var (pv 0)) (xe_lst xa_nil))) (zs_one (z_ret xe_int)) zs_nil)
    (zs_cons (z_set (i := 2) hN (by rfl) (Or.inl rfl) (xe_mod (xe_callTy call_int1 does_intc (by rfl) T.n_int (by decide +kernel) (xa_cons (xe_ix b.u1 (xe_var (pv 0)) xe_int) xa_nil)) (xe_var (pv 1))))
    (zs_cons (z_store b.u1 (xe_var (pv 0)) xe_int (xe_fdiv (xe_callTy call_int1 does_intc (by rfl) T.n_int (by decide +kernel) (xa_cons (xe_ix b.u1 (xe_var (pv 0)) xe_int) xa_nil)) (xe_var (pv 1))))
    (zs_cons (z_if (xt_c (xc_eq b.u64 (xe_ix b.u1 (xe_var (pv 0)) xe_int) xe_int)) (zs_one (z_expr (xe_popAt (xe_var (pv 0)) xe_int))) zs_nil)
    (zs_one (z_ret (xe_var (pv 2))))))))
def F__law_draw : FD := fun ds m => if ds.length = 2 then bodyF 1 den__law_draw ds m else .bad
theorem ok__law_draw (T : Txt K mg) : FnD P w K mg base 1 (He.ga K "_law_draw") F__law_draw := by
  obtain ⟨fd, F⟩ := T.f__law_draw
  exact FnD.of (N := N__law_draw) (ps := ["pool", "many"]) (g := den__law_draw) F fs__law_draw rfl (fun _ _ _ _ _ _ us hl => match us, hl with | [_, _], _ => rfl) (bd__law_draw T)
abbrev N_check_length : List Str := ["items", "most"]
abbrev sc_check_length : Scope := defScope (top 12)
theorem fs_check_length : FnScope N_check_length ["items", "most"] sc_check_length := ⟨rfl, rfl, rfl, by decide +kernel, rfl, by decide +kernel, by decide +kernel⟩
def den_check_length : DS := (sIf (dB (d2 dGt (dCall bLen (aCons (dVar 0) aNil)) (dVar 1))) sBad sSkip)
theorem bd_check_length (T : Txt K mg) : Body P w K mg base 0 N_check_length "check_length" sc_check_length (He.ga K "check_length") (defBody (top 12)) den_check_length := by
  intro cdv A outer s H E b
  have hN := fs_check_length.nd
  exact (zs_one (z_if (xt_c (xc_gt (xe_callB call_lenA does_len (by rfl) T.n_len (by decide +kernel) (xa_cons (xe_var (pv 0)) xa_nil)) (xe_var (pv 1)))) (zs_one z_never) zs_nil))
def F_check_length : FD := fun ds m => if ds.length = 2 then bodyF 0 den_check_length ds m else .bad
theorem ok_check_length (T : Txt K mg) : FnD P w K mg base 1 (He.ga K "check_length") F_check_length := by
  obtain ⟨fd, F⟩ := T.f_check_length
  exact FnD.of (N := N_check_length) (ps := ["items", "most"]) (g := den_check_length) F fs_check_length rfl (fun _ _ _ _ _ _ us hl => match us, hl with | [_, _], _ => rfl) (bd_check_length T)
abbrev N_check_cell : List Str := ["cell", "x", "y"]
abbrev sc_check_cell : Scope := defScope (top 9)
theorem fs_check_cell : FnScope N_check_cell ["cell"] sc_check_cell := ⟨rfl, rfl, rfl, by decide +kernel, rfl, by decide +kernel, by decide +kernel⟩
def den_check_cell : DS := (sSeq (sTgt (gT 2 (gsCons (gN 1) (gsCons (gN 2) gsNil))) (dVar 0)) (sIf (bNot (bAnd (dB (dChain (dInt2 fun i j => .bl ((fun i j => decide (i ≤ j)) i j)) (dInt2 fun i j => .bl ((fun i j => decide (i ≤ j)) i j)) (d1 dNeg (dC (.int (120)))) (dVar 1) (dC (.int (120))))) (dB (dChain (dInt2 fun i j => .bl ((fun i j => decide (i ≤ j)) i j)) (dInt2 fun i j => .bl ((fun i j => decide (i ≤ j)) i j)) (d1 dNeg (dC (.int (120)))) (dVar 2) (dC (.int (120))))))) sBad sSkip))
theorem bd_check_cell (T : Txt K mg) : Body P w K mg base 0 N_check_cell "check_cell" sc_check_cell (He.ga K "check_cell") (defBody (top 9)) den_check_cell := by
  intro cdv A outer s H E b
  have hN := fs_check_cell.nd
  exact (zs_cons (z_tgt (doesT_tup (doesTs_cons doesT_name (doesTs_cons doesT_name doesTs_nil))) (pg_tup b.calm (pgs_cons (pg_name (i := 1) hN (by rfl) (Or.inl rfl)) (pgs_cons (pg_name (i := 2) hN (by rfl) (Or.inl rfl)) pgs_nil))) (xe_var (pv 0)))
    (zs_one (z_if (xt_not (xt_bool (xw_and (xt_chainI (g1 := fun i j => decide (i ≤ j)) (g2 := fun i j => decide (i ≤ j)) op_le op_le (xe_neg (xe_gint (by rfl) T.i_REACH)) (xe_var (pv 1)) (xe_gint (by rfl) T.i_REACH)) (xw_and1 (xt_chainI (g1 := fun i j => decide (i ≤ j)) (g2 := fun i j => decide (i ≤ j)) op_le op_le (xe_neg (xe_gint (by rfl) T.i_REACH)) (xe_var (pv 2)) (xe_gint (by rfl) T.i_REACH)))))) (zs_one z_never) zs_nil)))
def F_check_cell : FD := fun ds m => if ds.length = 1 then bodyF 2 den_check_cell ds m else .bad
theorem ok_check_cell (T : Txt K mg) : FnD P w K mg base 1 (He.ga K "check_cell") F_check_cell := by
  obtain ⟨fd, F⟩ := T.f_check_cell
  exact FnD.of (N := N_check_cell) (ps := ["cell"]) (g := den_check_cell) F fs_check_cell rfl (fun _ _ _ _ _ _ us hl => match us, hl with | [_], _ => rfl) (bd_check_cell T)
abbrev N_check_cells : List Str := ["cells", "most", "cell"]
abbrev sc_check_cells : Scope := defScope (top 13)
theorem fs_check_cells : FnScope N_check_cells ["cells", "most"] sc_check_cells := ⟨rfl, rfl, rfl, by decide +kernel, rfl, by decide +kernel, by decide +kernel⟩
def lb_check_cells_0 : DS := (sExpr (dCall F_check_cell (aCons (dVar 2) aNil)))
def den_check_cells : DS := (sSeq (sExpr (dCall F_check_length (aCons (dVar 0) (aCons (dVar 1) aNil)))) (sFor (iSeq (dVar 0)) (gN 2) lb_check_cells_0))
theorem bd_check_cells (T : Txt K mg) : Body P w K mg base 1 N_check_cells "check_cells" sc_check_cells (He.ga K "check_cells") (defBody (top 13)) den_check_cells := by
  intro cdv A outer s H E b
  have hN := fs_check_cells.nd
  exact (zs_cons (z_expr (xe_call (ok_check_length T) b.r b.tk (by rfl) T.g_check_length (xa_cons (xe_var (pv 0)) (xa_cons (xe_var (pv 1)) xa_nil))))
    (zs_one (z_for b.hp b.calm (xi_seq (xe_var (pv 0))) doesT_name (pg_name (i := 2) hN (by rfl) (Or.inl rfl)) (zs_one (z_expr (xe_call (ok_check_cell T) b.r b.tk (by rfl) T.g_check_cell (xa_cons (xe_var (pv 2)) xa_nil)))))))
def F_check_cells : FD := fun ds m => if ds.length = 2 then bodyF 1 den_check_cells ds m else .bad
theorem ok_check_cells (T : Txt K mg) : FnD P w K mg base 2 (He.ga K "check_cells") F_check_cells := by
  obtain ⟨fd, F⟩ := T.f_check_cells
  exact FnD.of (N := N_check_cells) (ps := ["cells", "most"]) (g := den_check_cells) F fs_check_cells rfl (fun _ _ _ _ _ _ us hl => match us, hl with | [_, _], _ => rfl) (bd_check_cells T)
abbrev N__on_shore : List Str := ["cell"]
abbrev sc__on_shore : Scope := defScope (top 16)
theorem fs__on_shore : FnScope N__on_shore ["cell"] sc__on_shore := ⟨rfl, rfl, rfl, by decide +kernel, rfl, by decide +kernel, by decide +kernel⟩
def den__on_shore : DS := (sRet (d2 dLt (d2 ixD (dVar 0) (dC (.int 0))) (dC (.int 0))))
theorem bd__on_shore (T : Txt K mg) : Body P w K mg base 0 N__on_shore "_on_shore" sc__on_shore (He.ga K "_on_shore") (defBody (top 16)) den__on_shore := by
  intro cdv A outer s H E b
  have hN := fs__on_shore.nd
  exact (zs_one (z_ret (xe_c (xc_lt (xe_ix b.u1 (xe_var (pv 0)) xe_int) xe_int))))
def F__on_shore : FD := fun ds m => if ds.length = 1 then bodyF 0 den__on_shore ds m else .bad
theorem ok__on_shore (T : Txt K mg) : FnD P w K mg base 1 (He.ga K "_on_shore") F__on_shore := by
  obtain ⟨fd, F⟩ := T.f__on_shore
  exact FnD.of (N := N__on_shore) (ps := ["cell"]) (g := den__on_shore) F fs__on_shore rfl (fun _ _ _ _ _ _ us hl => match us, hl with | [_], _ => rfl) (bd__on_shore T)
abbrev N__check_off_shore : List Str := ["cells", "cell"]
abbrev sc__check_off_shore : Scope := defScope (top 17)
theorem fs__check_off_shore : FnScope N__check_off_shore ["cells"] sc__check_off_shore := ⟨rfl, rfl, rfl, by decide +kernel, rfl, by decide +kernel, by decide +kernel⟩
def lb__check_off_shore_0 : DS := (sIf (dB (dCall F__on_shore (aCons (dVar 1) aNil))) sBad sSkip)
def den__check_off_shore : DS := (sFor (iSeq (dVar 0)) (gN 1) lb__check_off_shore_0)
theorem bd__check_off_shore (T : Txt K mg) : Body P w K mg base 1 N__check_off_shore "_check_off_shore" sc__check_off_shore (He.ga K "_check_off_shore") (defBody (top 17)) den__check_off_shore := by
  intro cdv A outer s H E b
  have hN := fs__check_off_shore.nd
  exact (zs_one (z_for b.hp b.calm (xi_seq (xe_var (pv 0))) doesT_name (pg_name (i := 1) hN (by rfl) (Or.inl rfl)) (zs_one (z_if (xt_val (xe_call (ok__on_shore T) b.r b.tk (by rfl) T.g__on_shore (xa_cons (xe_var (pv 1)) xa_nil))) (zs_one z_never) zs_nil))))
def F__check_off_shore : FD := fun ds m => if ds.length = 1 then bodyF 1 den__check_off_shore ds m else .bad
theorem ok__check_off_shore (T : Txt K mg) : FnD P w K mg base 2 (He.ga K "_check_off_shore") F__check_off_shore := by
  obtain ⟨fd, F⟩ := T.f__check_off_shore
  exact FnD.of (N := N__check_off_shore) (ps := ["cells"]) (g := den__check_off_shore) F fs__check_off_shore rfl (fun _ _ _ _ _ _ us hl => match us, hl with | [_], _ => rfl) (bd__check_off_shore T)
abbrev N_Bank___init__ : List Str := ["self", "extra", "cell"]
abbrev sc_Bank___init__ : Scope := defScope (inClass (top 18) 0)
theorem fs_Bank___init__ : FnScope N_Bank___init__ ["self", "extra"] sc_Bank___init__ := ⟨rfl, rfl, rfl, by decide +kernel, rfl, by decide +kernel, by decide +kernel⟩
def den_Bank___init__ : DS := (sSeq (sExpr (dCall F_check_cells (aCons (dVar 1) (aCons (dC (.int (10000))) aNil)))) (sSeq (sExpr (dCall F__check_off_shore (aCons (dVar 1) aNil))) (sSeq (sFld "Bank" "_places" (dVar 0) (dDc true (iSeq (dVar 1)) (gN 2) [2] bYes (dVar 2) (dC (.bl true)))) (sFld "Bank" "extra" (dVar 0) (dCall bTuple (aCons (dCall bSorted (aCons (dCall bList (aCons (dFld "Bank" "_places" (dVar 0)) aNil)) aNil)) aNil))))))
theorem bd_Bank___init__ (T : Txt K mg) : Body P w K mg base 2 N_Bank___init__ "Bank.__init__" sc_Bank___init__ (He.ma K (He.ga K "Bank") "__init__") (defBody (inClass (top 18) 0)) den_Bank___init__ := by
  intro cdv A outer s H E b
  have hN := fs_Bank___init__.nd
  exact (zs_cons (z_expr (xe_call (ok_check_cells T) b.r b.tk (by rfl) T.g_check_cells (xa_cons (xe_var (pv 1)) (xa_cons (xe_gint (by rfl) T.i__MOST_EXTRA) xa_nil))))
    (zs_cons (z_expr (xe_call (ok__check_off_shore T) b.r b.tk (by rfl) T.g__check_off_shore (xa_cons (xe_var (pv 1)) xa_nil)))
    (zs_cons (z_fld (C := "Bank") (nm := "_places") T.c_Bank T.a_Bank__places (xe_var (pv 0)) (xb_dc true b hN (xi_seq (xe_var (pv 1))) (blkOk_by (own := [("cell", 2)]) (N := N_Bank___init__) (sc := sc_Bank___init__) (by decide +kernel)) doesA_name (by decide) (fun s H C cl fp b => (pg_name (i := 2) hN (by rfl) (Or.inl rfl))) (fun s H C cl fp b => xts_nil) (fun s H C cl fp b => (xe_var (pv 2))) (fun s H C cl fp b => xe_bl)))
    (zs_one (z_fld (C := "Bank") (nm := "extra") T.c_Bank T.a_Bank_extra (xe_var (pv 0)) (xe_callTy call_tuple_of does_tuple (by rfl) T.n_tuple (by decide +kernel) (xa_cons (xe_callB (CallR.or cr_sortedPO cr_sortedI) does_sorted (by rfl) T.n_sorted (by decide +kernel) (xa_cons (xe_callTy (call_listA b.calm) does_list (by rfl) T.n_list (by decide +kernel) (xa_cons (xe_fld (C := "Bank") (nm := "_places") T.c_Bank T.a_Bank__places (xe_var (pv 0))) xa_nil)) xa_nil)) xa_nil)))))))
def F_Bank___init__ : FD := fun ds m => if ds.length + ([] : List D).length = 2 then bodyF 1 den_Bank___init__ (ds ++ []) m else .bad
theorem ok_Bank___init__ (T : Txt K mg) : FnD P w K mg base 3 (He.ma K (He.ga K "Bank") "__init__") F_Bank___init__ := by
  obtain ⟨fd, F⟩ := T.f_Bank___init__
  refine FnD.ofD (N := N_Bank___init__) (ps := ["self", "extra"]) (g := den_Bank___init__) (c := 2) (j := 1) (dds := []) F fs_Bank___init__ rfl (by simp) rfl (fun _ _ _ _ _ _ _ us its hl hi => match us, hl, its, hi with | [_, _], _, [_], _ => ⟨_, rfl, rfl⟩) (fun ρ H => VRs.nil) (bd_Bank___init__ T)
def F_Bank___init___d1 : FD := fun ds m => if ds.length + ([.wt []] : List D).length = 2 then bodyF 1 den_Bank___init__ (ds ++ [.wt []]) m else .bad
theorem ok_Bank___init___d1 (T : Txt K mg) : FnD P w K mg base 3 (He.ma K (He.ga K "Bank") "__init__") F_Bank___init___d1 := by
  obtain ⟨fd, F⟩ := T.f_Bank___init__
  refine FnD.ofD (N := N_Bank___init__) (ps := ["self", "extra"]) (g := den_Bank___init__) (c := 1) (j := 0) (dds := [.wt []]) F fs_Bank___init__ rfl (by simp) rfl (fun _ _ _ _ _ _ _ us its hl hi => match us, hl, its, hi with | [_], _, [_], _ => ⟨_, rfl, rfl⟩) (fun ρ H => (T.d_Bank___init__ ρ H)) (bd_Bank___init__ T)
abbrev N__beside_shore : List Str := ["bank", "cell"]
abbrev sc__beside_shore : Scope := defScope (top 21)
theorem fs__beside_shore : FnScope N__beside_shore ["bank"] sc__beside_shore := ⟨rfl, rfl, rfl, by decide +kernel, rfl, by decide +kernel, by decide +kernel⟩
def den__beside_shore : DS := (sRet (dLc (iSeq (dFld "Bank" "extra" (dVar 0))) (gN 1) [1] (dB (d2 dEq (d2 ixD (dVar 1) (dC (.int 0))) (dC (.int 0)))) (dVar 1)))
theorem bd__beside_shore (T : Txt K mg) : Body P w K mg base 0 N__beside_shore "_beside_shore" sc__beside_shore (He.ga K "_beside_shore") (defBody (top 21)) den__beside_shore := by
  intro cdv A outer s H E b
  have hN := fs__beside_shore.nd
  exact (zs_one (z_ret (xb_lc b hN (xi_seq (xe_fld (C := "Bank") (nm := "extra") T.c_Bank T.a_Bank_extra (xe_var (pv 0)))) (blkOk_by (own := [("cell", 1)]) (N := N__beside_shore) (sc := sc__beside_shore) (by decide +kernel)) doesA_name (by decide) (fun s H C cl fp b => (pg_name (i := 1) hN (by rfl) (Or.inl rfl))) (fun s H C cl fp b => (xts_one (xt_c (xc_eq b.u64 (xe_ix b.u1 (xe_var (pv 1)) xe_int) xe_int)))) (fun s H C cl fp b => (xe_var (pv 1))))))
def F__beside_shore : FD := fun ds m => if ds.length = 1 then bodyF 1 den__beside_shore ds m else .bad
theorem ok__beside_shore (T : Txt K mg) : FnD P w K mg base 1 (He.ga K "_beside_shore") F__beside_shore := by
  obtain ⟨fd, F⟩ := T.f__beside_shore
  exact FnD.of (N := N__beside_shore) (ps := ["bank"]) (g := den__beside_shore) F fs__beside_shore rfl (fun _ _ _ _ _ _ us hl => match us, hl with | [_], _ => rfl) (bd__beside_shore T)
abbrev N_neighbours : List Str := ["cell", "x", "y"]
abbrev sc_neighbours : Scope := defScope (top 10)
theorem fs_neighbours : FnScope N_neighbours ["cell"] sc_neighbours := ⟨rfl, rfl, rfl, by decide +kernel, rfl, by decide +kernel, by decide +kernel⟩
def den_neighbours : DS := (sSeq (sExpr (dCall F_check_cell (aCons (dVar 0) aNil))) (sSeq (sTgt (gT 2 (gsCons (gN 1) (gsCons (gN 2) gsNil))) (dVar 0)) (sRet (dLst (aCons (dTup (aCons (d2 dAdd (dVar 1) (dC (.int 1))) (aCons (dVar 2) aNil))) (aCons (dTup (aCons (dVar 1) (aCons (d2 dAdd (dVar 2) (dC (.int 1))) aNil))) (aCons (dTup (aCons (d2 dSub (dVar 1) (dC (.int 1))) (aCons (dVar 2) aNil))) (aCons (dTup (aCons (dVar 1) (aCons (d2 dSub (dVar 2) (dC (.int 1))) aNil))) aNil))))))))
theorem bd_neighbours (T : Txt K mg) : Body P w K mg base 1 N_neighbours "neighbours" sc_neighbours (He.ga K "neighbours") (defBody (top 10)) den_neighbours := by
  intro cdv A outer s H E b
  have hN := fs_neighbours.nd
  exact (zs_cons (z_expr (xe_call (ok_check_cell T) b.r b.tk (by rfl) T.g_check_cell (xa_cons (xe_var (pv 0)) xa_nil)))
    (zs_cons (z_tgt (doesT_tup (doesTs_cons doesT_name (doesTs_cons doesT_name doesTs_nil))) (pg_tup b.calm (pgs_cons (pg_name (i := 1) hN (by rfl) (Or.inl rfl)) (pgs_cons (pg_name (i := 2) hN (by rfl) (Or.inl rfl)) pgs_nil))) (xe_var (pv 0)))
    (zs_one (z_ret (xe_lst (xa_cons (xe_tup (xa_cons (xe_add (xe_var (pv 1)) xe_int) (xa_cons (xe_var (pv 2)) xa_nil))) (xa_cons (xe_tup (xa_cons (xe_var (pv 1)) (xa_cons (xe_add (xe_var (pv 2)) xe_int) xa_nil))) (xa_cons (xe_tup (xa_cons (xe_sub (xe_var (pv 1)) xe_int) (xa_cons (xe_var (pv 2)) xa_nil))) (xa_cons (xe_tup (xa_cons (xe_var (pv 1)) (xa_cons (xe_sub (xe_var (pv 2)) xe_int) xa_nil))) xa_nil)))))))))
def F_neighbours : FD := fun ds m => if ds.length = 1 then bodyF 2 den_neighbours ds m else .bad
theorem ok_neighbours (T : Txt K mg) : FnD P w K mg base 2 (He.ga K "neighbours") F_neighbours := by
  obtain ⟨fd, F⟩ := T.f_neighbours
  exact FnD.of (N := N_neighbours) (ps := ["cell"]) (g := den_neighbours) F fs_neighbours rfl (fun _ _ _ _ _ _ us hl => match us, hl with | [_], _ => rfl) (bd_neighbours T)
abbrev N__take_joined : List Str := ["left", "starts", "taken", "start", "at", "other"]
abbrev sc__take_joined : Scope := defScope (top 20)
theorem fs__take_joined : FnScope N__take_joined ["left", "starts"] sc__take_joined := ⟨rfl, rfl, rfl, by decide +kernel, rfl, by decide +kernel, by decide +kernel⟩
def lb__take_joined_0 : DS := (sSeq (sDel (dVar 0) (dVar 3)) (sExpr (dLm appD (dVar 2) (dVar 3))))
def lb__take_joined_1 : DS := (sIf (dB (d2 dIn (dVar 5) (dVar 0))) (sSeq (sDel (dVar 0) (dVar 5)) (sExpr (dLm appD (dVar 2) (dVar 5)))) sSkip)
def lb__take_joined_2 : DS := (sSeq (sFor (iSeq (dCall F_neighbours (aCons (d2 ixD (dVar 2) (dVar 4)) aNil))) (gN 5) lb__take_joined_1) (sAug (dInt2 fun i j => .int (i + j)) 4 (dC (.int 1))))
def den__take_joined : DS := (sSeq (sAsg 2 (dLst aNil)) (sSeq (sFor (iSeq (dVar 1)) (gN 3) lb__take_joined_0) (sSeq (sAsg 4 (dC (.int 0))) (sSeq (sWhile 1000000 (dB (d2 dLt (dVar 4) (dCall bLen (aCons (dVar 2) aNil)))) lb__take_joined_2) (sRet (dVar 2))))))
theorem bd__take_joined (T : Txt K mg) : Body P w K mg base 2 N__take_joined "_take_joined" sc__take_joined (He.ga K "_take_joined") (defBody (top 20)) den__take_joined := by
  intro cdv A outer s H E b
  have hN := fs__take_joined.nd
  exact (zs_cons (z_set (i := 2) hN (by rfl) (Or.inl rfl) (xe_lst xa_nil))
    (zs_cons (z_for b.hp b.calm (xi_seq (xe_var (pv 1))) doesT_name (pg_name (i := 3) hN (by rfl) (Or.inl rfl)) (zs_cons (z_del b.u1 (xe_var (pv 0)) (xe_var (pv 3)))
    (zs_one (z_expr (xe_append (xe_var (pv 2)) (xe_var (pv 3)))))))
    (zs_cons (z_set (i := 4) hN (by rfl) (Or.inl rfl) xe_int)
    (zs_cons (z_while 1000000 b.hp (xt_c (xc_lt (xe_var (pv 4)) (xe_callB call_lenA does_len (by rfl) T.n_len (by decide +kernel) (xa_cons (xe_var (pv 2)) xa_nil)))) (zs_cons (z_for b.hp b.calm (xi_seq (xe_call (ok_neighbours T) b.r b.tk (by rfl) T.g_neighbours (xa_cons (xe_ix b.u1 (xe_var (pv 2)) (xe_var (pv 4))) xa_nil))) doesT_name (pg_name (i := 5) hN (by rfl) (Or.inl rfl)) (zs_one (z_if (xt_c (xc_in b.u65 (xe_var (pv 5)) (xe_var (pv 0)))) (zs_cons (z_del b.u1 (xe_var (pv 0)) (xe_var (pv 5)))
    (zs_one (z_expr (xe_append (xe_var (pv 2)) (xe_var (pv 5)))))) zs_nil)))
    (zs_one (z_aug hN (by rfl) (Or.inl rfl) ip_add doesIp_add xe_int))))
    (zs_one (z_ret (xe_var (pv 2))))))))
def F__take_joined : FD := fun ds m => if ds.length = 2 then bodyF 4 den__take_joined ds m else .bad
theorem ok__take_joined (T : Txt K mg) : FnD P w K mg base 3 (He.ga K "_take_joined") F__take_joined := by
  obtain ⟨fd, F⟩ := T.f__take_joined
  exact FnD.of (N := N__take_joined) (ps := ["left", "starts"]) (g := den__take_joined) F fs__take_joined rfl (fun _ _ _ _ _ _ us hl => match us, hl with | [_, _], _ => rfl) (bd__take_joined T)
abbrev N_islands : List Str := ["bank", "left", "found", "cell"]
abbrev sc_islands : Scope := defScope (top 23)
theorem fs_islands : FnScope N_islands ["bank"] sc_islands := ⟨rfl, rfl, rfl, by decide +kernel, rfl, by decide +kernel, by decide +kernel⟩
def lb_islands_0 : DS := (sIf (dB (d2 dIn (dVar 3) (dVar 1))) (sExpr (dLm appD (dVar 2) (dCall bSorted (aCons (dCall F__take_joined (aCons (dVar 1) (aCons (dLst (aCons (dVar 3) aNil)) aNil))) aNil)))) sSkip)
def den_islands : DS := (sSeq (sAsg 1 (dDc true (iSeq (dFld "Bank" "extra" (dVar 0))) (gN 3) [3] bYes (dVar 3) (dC (.bl true)))) (sSeq (sExpr (dCall F__take_joined (aCons (dVar 1) (aCons (dCall F__beside_shore (aCons (dVar 0) aNil)) aNil)))) (sSeq (sAsg 2 (dLst aNil)) (sSeq (sFor (iSeq (dFld "Bank" "extra" (dVar 0))) (gN 3) lb_islands_0) (sRet (dVar 2))))))
theorem bd_islands (T : Txt K mg) : Body P w K mg base 3 N_islands "islands" sc_islands (He.ga K "islands") (defBody (top 23)) den_islands := by
  intro cdv A outer s H E b
  have hN := fs_islands.nd
  exact (zs_cons (zb_dc true b hN (by rfl) (by rfl) (sw_trueD rfl rfl rfl (by decide +kernel)) (xi_seq (xe_fld (C := "Bank") (nm := "extra") T.c_Bank T.a_Bank_extra (xe_var (pv 0)))) (blkOk_by (own := [("cell", 3)]) (N := N_islands) (sc := sc_islands) (by decide +kernel)) doesA_name (by decide) (fun s H C cl fp b => (pg_name (i := 3) hN (by rfl) (Or.inl rfl))) (fun s H C cl fp b => xts_nil) (fun s H C cl fp b => (xe_var (pv 3))) (fun s H C cl fp b => xe_bl))
    (zs_cons (z_expr (xe_call (ok__take_joined T) b.r b.tk (by rfl) T.g__take_joined (xa_cons (xe_var (pv 1)) (xa_cons (xe_call (ok__beside_shore T) b.r b.tk (by rfl) T.g__beside_shore (xa_cons (xe_var (pv 0)) xa_nil)) xa_nil))))
    (zs_cons (z_set (i := 2) hN (by rfl) (Or.inl rfl) (xe_lst xa_nil))
    (zs_cons (z_for b.hp b.calm (xi_seq (xe_fld (C := "Bank") (nm := "extra") T.c_Bank T.a_Bank_extra (xe_var (pv 0)))) doesT_name (pg_name (i := 3) hN (by rfl) (Or.inl rfl)) (zs_one (z_if (xt_c (xc_in b.u65 (xe_var (pv 3)) (xe_var (pv 1)))) (zs_one (z_expr (xe_append (xe_var (pv 2)) (xe_callB (CallR.or cr_sortedPO cr_sortedI) does_sorted (by rfl) T.n_sorted (by decide +kernel) (xa_cons (xe_call (ok__take_joined T) b.r b.tk (by rfl) T.g__take_joined (xa_cons (xe_var (pv 1)) (xa_cons (xe_lst (xa_cons (xe_var (pv 3)) xa_nil)) xa_nil))) xa_nil))))) zs_nil)))
    (zs_one (z_ret (xe_var (pv 2))))))))
def F_islands : FD := fun ds m => if ds.length = 1 then bodyF 3 den_islands ds m else .bad
theorem ok_islands (T : Txt K mg) : FnD P w K mg base 4 (He.ga K "islands") F_islands := by
  obtain ⟨fd, F⟩ := T.f_islands
  exact FnD.of (N := N_islands) (ps := ["bank"]) (g := den_islands) F fs_islands rfl (fun _ _ _ _ _ _ us hl => match us, hl with | [_], _ => rfl) (bd_islands T)
abbrev N_landfast : List Str := ["bank", "left", "cell"]
abbrev sc_landfast : Scope := defScope (top 22)
theorem fs_landfast : FnScope N_landfast ["bank"] sc_landfast := ⟨rfl, rfl, rfl, by decide +kernel, rfl, by decide +kernel, by decide +kernel⟩
def den_landfast : DS := (sSeq (sAsg 1 (dDc true (iSeq (dFld "Bank" "extra" (dVar 0))) (gN 2) [2] bYes (dVar 2) (dC (.bl true)))) (sRet (dMake "Bank" F_Bank___init__ (aCons (dCall F__take_joined (aCons (dVar 1) (aCons (dCall F__beside_shore (aCons (dVar 0) aNil)) aNil))) aNil))))
theorem bd_landfast (T : Txt K mg) : Body P w K mg base 4 N_landfast "landfast" sc_landfast (He.ga K "landfast") (defBody (top 22)) den_landfast := by
  intro cdv A outer s H E b
  have hN := fs_landfast.nd
  exact (zs_cons (zb_dc true b hN (by rfl) (by rfl) (sw_trueD rfl rfl rfl (by decide +kernel)) (xi_seq (xe_fld (C := "Bank") (nm := "extra") T.c_Bank T.a_Bank_extra (xe_var (pv 0)))) (blkOk_by (own := [("cell", 2)]) (N := N_landfast) (sc := sc_landfast) (by decide +kernel)) doesA_name (by decide) (fun s H C cl fp b => (pg_name (i := 2) hN (by rfl) (Or.inl rfl))) (fun s H C cl fp b => xts_nil) (fun s H C cl fp b => (xe_var (pv 2))) (fun s H C cl fp b => xe_bl))
    (zs_one (z_ret (xe_make (C := "Bank") T.k_Bank (ok_Bank___init__ T) b.r b.tk (by rfl) T.g_Bank (xa_cons (xe_call (ok__take_joined T) b.r b.tk (by rfl) T.g__take_joined (xa_cons (xe_var (pv 1)) (xa_cons (xe_call (ok__beside_shore T) b.r b.tk (by rfl) T.g__beside_shore (xa_cons (xe_var (pv 0)) xa_nil)) xa_nil))) xa_nil)))))
def F_landfast : FD := fun ds m => if ds.length = 1 then bodyF 2 den_landfast ds m else .bad
theorem ok_landfast (T : Txt K mg) : FnD P w K mg base 5 (He.ga K "landfast") F_landfast := by
  obtain ⟨fd, F⟩ := T.f_landfast
  exact FnD.of (N := N_landfast) (ps := ["bank"]) (g := den_landfast) F fs_landfast rfl (fun _ _ _ _ _ _ us hl => match us, hl with | [_], _ => rfl) (bd_landfast T)
abbrev N__law_blocks : List Str := ["pool", "x", "y", "first", "second", "bank", "k"]
abbrev sc__law_blocks : Scope := defScope (top 32)
theorem fs__law_blocks : FnScope N__law_blocks ["pool"] sc__law_blocks := ⟨rfl, rfl, rfl, by decide +kernel, rfl, by decide +kernel, by decide +kernel⟩
def den__law_blocks : DS := (sSeq (sAsg 1 (d2 ixD (dLst (aCons (dC (.int 0)) (aCons (dC (.int 1)) (aCons (dC (.int 70)) aNil)))) (dCall F__law_draw (aCons (dVar 0) (aCons (dC (.int 3)) aNil))))) (sSeq (sAsg 2 (d2 dSub (dC (.int 70)) (dCall F__law_draw (aCons (dVar 0) (aCons (dC (.int 190)) aNil))))) (sSeq (sAsg 3 (dLc (iRng1 (aCons (dC (.int 1200)) aNil)) (gN 6) [6] bYes (dTup (aCons (d2 dAdd (dVar 1) (d2 dFdiv (dVar 6) (dC (.int 50)))) (aCons (d2 dAdd (dVar 2) (d2 dMod (dVar 6) (dC (.int 50)))) aNil))))) (sSeq (sAsg 4 (dLc (iRng1 (aCons (dC (.int 1200)) aNil)) (gN 6) [6] bYes (dTup (aCons (d2 dAdd (d2 dAdd (dVar 1) (dC (.int 25))) (d2 dFdiv (dVar 6) (dC (.int 50)))) (aCons (d2 dAdd (dVar 2) (d2 dMod (dVar 6) (dC (.int 50)))) aNil))))) (sSeq (sAsg 5 (dMake "Bank" F_Bank___init__ (aCons (d2 dAdd (dVar 4) (dVar 3)) aNil))) (sSeq (sIf (dB (d2 dEq (dVar 1) (dC (.int 0)))) (sRet (dAndV (d2 dEq (dFld "Bank" "extra" (dCall F_landfast (aCons (dVar 5) aNil))) (dCall bTuple (aCons (dVar 3) aNil))) (d2 dEq (dCall F_islands (aCons (dVar 5) aNil)) (dLst (aCons (dVar 4) aNil))))) sSkip) (sRet (dAndV (d2 dEq (dFld "Bank" "extra" (dCall F_landfast (aCons (dVar 5) aNil))) (dTup aNil)) (d2 dEq (dCall F_islands (aCons (dVar 5) aNil)) (dLst (aCons (dVar 3) (aCons (dVar 4) aNil))))))))))))
theorem bd__law_blocks (T : Txt K mg) : Body P w K mg base 5 N__law_blocks "_law_blocks" sc__law_blocks (He.ga K "_law_blocks") (defBody (top 32)) den__law_blocks := by
  intro cdv A outer s H E b
  have hN := fs__law_blocks.nd
  exact (zs_cons (z_set (i := 1) hN (by rfl) (Or.inr rfl) (xe_ix b.u1 (xe_lst (xa_cons xe_int (xa_cons xe_int (xa_cons xe_int xa_nil)))) (xe_call (ok__law_draw T) b.r b.tk (by rfl) T.g__law_draw (xa_cons (xe_var (pv 0)) (xa_cons xe_int xa_nil)))))
    (zs_cons (z_set (i := 2) hN (by rfl) (Or.inr rfl) (xe_sub xe_int (xe_call (ok__law_draw T) b.r b.tk (by rfl) T.g__law_draw (xa_cons (xe_var (pv 0)) (xa_cons xe_int xa_nil)))))
    (zs_cons (zb_lc b hN (by rfl) (by rfl) (sw_true rfl rfl rfl (by decide +kernel)) (xi_range1 (by rfl) T.n_range (xa_cons xe_int xa_nil)) (blkOk_by (own := [("k", 6)]) (N := N__law_blocks) (sc := sc__law_blocks) (by decide +kernel)) doesA_name (by decide) (fun s H C cl fp b => (pg_name (i := 6) hN (by rfl) (Or.inl rfl))) (fun s H C cl fp b => xts_nil) (fun s H C cl fp b => (xe_tup (xa_cons (xe_add (xe_var (pv 1)) (xe_fdiv (xe_var (pv 6)) xe_int)) (xa_cons (xe_add (xe_var (pv 2)) (xe_mod (xe_var (pv 6)) xe_int)) xa_nil)))))
    (zs_cons (zb_lc b hN (by rfl) (by rfl) (sw_true rfl rfl rfl (by decide +kernel)) (xi_range1 (by rfl) T.n_range (xa_cons xe_int xa_nil)) (blkOk_by (own := [("k", 6)]) (N := N__law_blocks) (sc := sc__law_blocks) (by decide +kernel)) doesA_name (by decide) (fun s H C cl fp b => (pg_name (i := 6) hN (by rfl) (Or.inl rfl))) (fun s H C cl fp b => xts_nil) (fun s H C cl fp b => (xe_tup (xa_cons (xe_add (xe_add (xe_var (pv 1)) xe_int) (xe_fdiv (xe_var (pv 6)) xe_int)) (xa_cons (xe_add (xe_var (pv 2)) (xe_mod (xe_var (pv 6)) xe_int)) xa_nil)))))
    (zs_cons (z_set (i := 5) hN (by rfl) (Or.inl rfl) (xe_make (C := "Bank") T.k_Bank (ok_Bank___init__ T) b.r b.tk (by rfl) T.g_Bank (xa_cons (xe_add (xe_var (pv 4)) (xe_var (pv 3))) xa_nil)))
    (zs_cons (z_if (xt_c (xc_eq b.u64 (xe_var (pv 1)) xe_int)) (zs_one (z_ret (xe_andV (xe_c (xc_eq b.u64 (xe_fld (C := "Bank") (nm := "extra") T.c_Bank T.a_Bank_extra (xe_call (ok_landfast T) b.r b.tk (by rfl) T.g_landfast (xa_cons (xe_var (pv 5)) xa_nil))) (xe_callTy call_tuple_of does_tuple (by rfl) T.n_tuple (by decide +kernel) (xa_cons (xe_var (pv 3)) xa_nil)))) (xe_one (xe_c (xc_eq b.u64 (xe_call (ok_islands T) b.r b.tk (by rfl) T.g_islands (xa_cons (xe_var (pv 5)) xa_nil)) (xe_lst (xa_cons (xe_var (pv 4)) xa_nil)))))))) zs_nil)
    (zs_one (z_ret (xe_andV (xe_c (xc_eq b.u64 (xe_fld (C := "Bank") (nm := "extra") T.c_Bank T.a_Bank_extra (xe_call (ok_landfast T) b.r b.tk (by rfl) T.g_landfast (xa_cons (xe_var (pv 5)) xa_nil))) (xe_tup xa_nil))) (xe_one (xe_c (xc_eq b.u64 (xe_call (ok_islands T) b.r b.tk (by rfl) T.g_islands (xa_cons (xe_var (pv 5)) xa_nil)) (xe_lst (xa_cons (xe_var (pv 3)) (xa_cons (xe_var (pv 4)) xa_nil)))))))))))))))
def F__law_blocks : FD := fun ds m => if ds.length = 1 then bodyF 6 den__law_blocks ds m else .bad
theorem ok__law_blocks (T : Txt K mg) : FnD P w K mg base 6 (He.ga K "_law_blocks") F__law_blocks := by
  obtain ⟨fd, F⟩ := T.f__law_blocks
  exact FnD.of (N := N__law_blocks) (ps := ["pool"]) (g := den__law_blocks) F fs__law_blocks rfl (fun _ _ _ _ _ _ us hl => match us, hl with | [_], _ => rfl) (bd__law_blocks T)
abbrev N__law_lot : List Str := ["pool", "place", "wide", "lot", "k", "x", "y"]
abbrev sc__law_lot : Scope := defScope (top 29)
theorem fs__law_lot : FnScope N__law_lot ["pool"] sc__law_lot := ⟨rfl, rfl, rfl, by decide +kernel, rfl, by decide +kernel, by decide +kernel⟩
def lb__law_lot_0 : DS := (sSeq (sAsg 5 (d2 dMod (d2 dAdd (d2 dFdiv (dVar 4) (dVar 2)) (dCall F__law_draw (aCons (dVar 0) (aCons (dC (.int 6)) aNil)))) (dC (.int 6)))) (sSeq (sAsg 6 (d2 dMod (d2 dAdd (d2 dMul (dVar 4) (d2 dSub (dC (.int 9)) (d2 dMul (dC (.int 2)) (dVar 2)))) (dCall F__law_draw (aCons (dVar 0) (aCons (dC (.int 8)) aNil)))) (dC (.int 8)))) (sIf (dB (d2 dEq (dVar 1) (dC (.int 1)))) (sExpr (dLm appD (dVar 3) (dTup (aCons (dVar 5) (aCons (d2 dSub (dC (.int 120)) (dVar 6)) aNil))))) (sIf (dB (d2 dEq (dVar 1) (dC (.int 2)))) (sExpr (dLm appD (dVar 3) (dTup (aCons (dVar 5) (aCons (d2 dSub (dVar 6) (dC (.int 120))) aNil))))) (sIf (dB (d2 dEq (dVar 1) (dC (.int 3)))) (sExpr (dLm appD (dVar 3) (dTup (aCons (d2 dSub (dC (.int 120)) (dVar 5)) (aCons (d2 dSub (dC (.int 120)) (dVar 6)) aNil))))) (sExpr (dLm appD (dVar 3) (dTup (aCons (dVar 5) (aCons (d2 dSub (dVar 6) (dC (.int 3))) aNil))))))))))
def den__law_lot : DS := (sSeq (sAsg 1 (dCall F__law_draw (aCons (dVar 0) (aCons (dC (.int 4)) aNil)))) (sSeq (sAsg 2 (d2 dAdd (dC (.int 2)) (d2 dMul (dC (.int 2)) (dCall F__law_draw (aCons (dVar 0) (aCons (dC (.int 2)) aNil)))))) (sSeq (sAsg 3 (dLst aNil)) (sSeq (sFor (iRng1 (aCons (d2 dMod (d2 dAdd (dCall F__law_draw (aCons (dVar 0) (aCons (dC (.int 17)) aNil))) (dC (.int 10))) (dC (.int 17))) aNil)) (gN 4) lb__law_lot_0) (sRet (dVar 3))))))
theorem bd__law_lot (T : Txt K mg) : Body P w K mg base 1 N__law_lot "_law_lot" sc__law_lot (He.ga K "_law_lot") (defBody (top 29)) den__law_lot := by
  intro cdv A outer s H E b
  have hN := fs__law_lot.nd
  exact (zs_cons (z_set (i := 1) hN (by rfl) (Or.inl rfl) (xe_call (ok__law_draw T) b.r b.tk (by rfl) T.g__law_draw (xa_cons (xe_var (pv 0)) (xa_cons xe_int xa_nil))))
    (zs_cons (z_set (i := 2) hN (by rfl) (Or.inl rfl) (xe_add xe_int (xe_mul xe_int (xe_call (ok__law_draw T) b.r b.tk (by rfl) T.g__law_draw (xa_cons (xe_var (pv 0)) (xa_cons xe_int xa_nil))))))
    (zs_cons (z_set (i := 3) hN (by rfl) (Or.inl rfl) (xe_lst xa_nil))
    (zs_cons (z_for b.hp b.calm (xi_range1 (by rfl) T.n_range (xa_cons (xe_mod (xe_add (xe_call (ok__law_draw T) b.r b.tk (by rfl) T.g__law_draw (xa_cons (xe_var (pv 0)) (xa_cons xe_int xa_nil))) xe_int) xe_int) xa_nil)) doesT_name (pg_name (i := 4) hN (by rfl) (Or.inl rfl)) (zs_cons (z_set (i := 5) hN (by rfl) (Or.inl rfl) (xe_mod (xe_add (xe_fdiv (xe_var (pv 4)) (xe_var (pv 2))) (xe_call (ok__law_draw T) b.r b.tk (by rfl) T.g__law_draw (xa_cons (xe_var (pv 0)) (xa_cons xe_int xa_nil)))) xe_int))
    (zs_cons (z_set (i := 6) hN (by rfl) (Or.inl rfl) (xe_mod (xe_add (xe_mul (xe_var (pv 4)) (xe_sub xe_int (xe_mul xe_int (xe_var (pv 2))))) (xe_call (ok__law_draw T) b.r b.tk (by rfl) T.g__law_draw (xa_cons (xe_var (pv 0)) (xa_cons xe_int xa_nil)))) xe_int))
    (zs_one (z_if (xt_c (xc_eq b.u64 (xe_var (pv 1)) xe_int)) (zs_one (z_expr (xe_append (xe_var (pv 3)) (xe_tup (xa_cons (xe_var (pv 5)) (xa_cons (xe_sub xe_int (xe_var (pv 6))) xa_nil)))))) (zs_one (z_if (xt_c (xc_eq b.u64 (xe_var (pv 1)) xe_int)) (zs_one (z_expr (xe_append (xe_var (pv 3)) (xe_tup (xa_cons (xe_var (pv 5)) (xa_cons (xe_sub (xe_var (pv 6)) xe_int) xa_nil)))))) (zs_one (z_if (xt_c (xc_eq b.u64 (xe_var (pv 1)) xe_int)) (zs_one (z_expr (xe_append (xe_var (pv 3)) (xe_tup (xa_cons (xe_sub xe_int (xe_var (pv 5))) (xa_cons (xe_sub xe_int (xe_var (pv 6))) xa_nil)))))) (zs_one (z_expr (xe_append (xe_var (pv 3)) (xe_tup (xa_cons (xe_var (pv 5)) (xa_cons (xe_sub (xe_var (pv 6)) xe_int) xa_nil)))))))))))))))
    (zs_one (z_ret (xe_var (pv 3))))))))
def F__law_lot : FD := fun ds m => if ds.length = 1 then bodyF 6 den__law_lot ds m else .bad
theorem ok__law_lot (T : Txt K mg) : FnD P w K mg base 2 (He.ga K "_law_lot") F__law_lot := by
  obtain ⟨fd, F⟩ := T.f__law_lot
  exact FnD.of (N := N__law_lot) (ps := ["pool"]) (g := den__law_lot) F fs__law_lot rfl (fun _ _ _ _ _ _ us hl => match us, hl with | [_], _ => rfl) (bd__law_lot T)
abbrev N__law_plain : List Str := ["lot", "found", "cell"]
abbrev sc__law_plain : Scope := defScope (top 27)
theorem fs__law_plain : FnScope N__law_plain ["lot"] sc__law_plain := ⟨rfl, rfl, rfl, by decide +kernel, rfl, by decide +kernel, by decide +kernel⟩
def lb__law_plain_0 : DS := (sIf (dB (d2 dNotIn (dVar 2) (dVar 1))) (sExpr (dLm appD (dVar 1) (dVar 2))) sSkip)
def den__law_plain : DS := (sSeq (sAsg 1 (dLst aNil)) (sSeq (sFor (iSeq (dCall bSorted (aCons (dVar 0) aNil))) (gN 2) lb__law_plain_0) (sRet (dVar 1))))
theorem bd__law_plain (T : Txt K mg) : Body P w K mg base 0 N__law_plain "_law_plain" sc__law_plain (He.ga K "_law_plain") (defBody (top 27)) den__law_plain := by
  intro cdv A outer s H E b
  have hN := fs__law_plain.nd
  exact (zs_cons (z_set (i := 1) hN (by rfl) (Or.inl rfl) (xe_lst xa_nil))
    (zs_cons (z_for b.hp b.calm (xi_seq (xe_callB (CallR.or cr_sortedPO cr_sortedI) does_sorted (by rfl) T.n_sorted (by decide +kernel) (xa_cons (xe_var (pv 0)) xa_nil))) doesT_name (pg_name (i := 2) hN (by rfl) (Or.inl rfl)) (zs_one (z_if (xt_c (xc_notIn b.u65 (xe_var (pv 2)) (xe_var (pv 1)))) (zs_one (z_expr (xe_append (xe_var (pv 1)) (xe_var (pv 2))))) zs_nil)))
    (zs_one (z_ret (xe_var (pv 1))))))
def F__law_plain : FD := fun ds m => if ds.length = 1 then bodyF 2 den__law_plain ds m else .bad
theorem ok__law_plain (T : Txt K mg) : FnD P w K mg base 1 (He.ga K "_law_plain") F__law_plain := by
  obtain ⟨fd, F⟩ := T.f__law_plain
  exact FnD.of (N := N__law_plain) (ps := ["lot"]) (g := den__law_plain) F fs__law_plain rfl (fun _ _ _ _ _ _ us hl => match us, hl with | [_], _ => rfl) (bd__law_plain T)
abbrev N__law_near : List Str := ["cell", "x", "y"]
abbrev sc__law_near : Scope := defScope (top 28)
theorem fs__law_near : FnScope N__law_near ["cell"] sc__law_near := ⟨rfl, rfl, rfl, by decide +kernel, rfl, by decide +kernel, by decide +kernel⟩
def den__law_near : DS := (sSeq (sAsg 1 (d2 ixD (dVar 0) (dC (.int 0)))) (sSeq (sAsg 2 (d2 ixD (dVar 0) (dC (.int 1)))) (sRet (dLst (aCons (dTup (aCons (d2 dAdd (dVar 1) (dC (.int 1))) (aCons (dVar 2) aNil))) (aCons (dTup (aCons (dVar 1) (aCons (d2 dAdd (dVar 2) (dC (.int 1))) aNil))) (aCons (dTup (aCons (d2 dSub (dVar 1) (dC (.int 1))) (aCons (dVar 2) aNil))) (aCons (dTup (aCons (dVar 1) (aCons (d2 dSub (dVar 2) (dC (.int 1))) aNil))) aNil))))))))
theorem bd__law_near (T : Txt K mg) : Body P w K mg base 0 N__law_near "_law_near" sc__law_near (He.ga K "_law_near") (defBody (top 28)) den__law_near := by
  intro cdv A outer s H E b
  have hN := fs__law_near.nd
  exact (zs_cons (z_set (i := 1) hN (by rfl) (Or.inl rfl) (xe_ix b.u1 (xe_var (pv 0)) xe_int))
    (zs_cons (z_set (i := 2) hN (by rfl) (Or.inl rfl) (xe_ix b.u1 (xe_var (pv 0)) xe_int))
    (zs_one (z_ret (xe_lst (xa_cons (xe_tup (xa_cons (xe_add (xe_var (pv 1)) xe_int) (xa_cons (xe_var (pv 2)) xa_nil))) (xa_cons (xe_tup (xa_cons (xe_var (pv 1)) (xa_cons (xe_add (xe_var (pv 2)) xe_int) xa_nil))) (xa_cons (xe_tup (xa_cons (xe_sub (xe_var (pv 1)) xe_int) (xa_cons (xe_var (pv 2)) xa_nil))) (xa_cons (xe_tup (xa_cons (xe_var (pv 1)) (xa_cons (xe_sub (xe_var (pv 2)) xe_int) xa_nil))) xa_nil)))))))))
def F__law_near : FD := fun ds m => if ds.length = 1 then bodyF 2 den__law_near ds m else .bad
theorem ok__law_near (T : Txt K mg) : FnD P w K mg base 1 (He.ga K "_law_near") F__law_near := by
  obtain ⟨fd, F⟩ := T.f__law_near
  exact FnD.of (N := N__law_near) (ps := ["cell"]) (g := den__law_near) F fs__law_near rfl (fun _ _ _ _ _ _ us hl => match us, hl with | [_], _ => rfl) (bd__law_near T)
abbrev N__law_parts : List Str := ["cells", "fast", "parts", "cell", "beside", "joined", "others", "part", "other"]
abbrev sc__law_parts : Scope := defScope (top 30)
theorem fs__law_parts : FnScope N__law_parts ["cells"] sc__law_parts := ⟨rfl, rfl, rfl, by decide +kernel, rfl, by decide +kernel, by decide +kernel⟩
def lb__law_parts_0 : DS := (sIf (dB (d2 dEq (dLc (iSeq (dVar 7)) (gN 8) [8] (dB (d2 dIn (dVar 8) (dVar 4))) (dVar 8)) (dLst aNil))) (sExpr (dLm appD (dVar 6) (dVar 7))) (sAsg 5 (d2 dAdd (dVar 5) (dVar 7))))
def lb__law_parts_1 : DS := (sSeq (sAsg 4 (dCall F__law_near (aCons (dVar 3) aNil))) (sSeq (sAsg 5 (dLst (aCons (dVar 3) aNil))) (sSeq (sAsg 6 (dLst aNil)) (sSeq (sFor (iSeq (dCall bList (aCons (dVar 2) aNil))) (gN 7) lb__law_parts_0) (sIf (bOr (dB (d2 dEq (d2 ixD (dVar 3) (dC (.int 0))) (dC (.int 0)))) (dB (d2 dNe (dLc (iSeq (dVar 1)) (gN 8) [8] (dB (d2 dIn (dVar 8) (dVar 4))) (dVar 8)) (dLst aNil)))) (sSeq (sAsg 1 (d2 dAdd (dVar 1) (dVar 5))) (sAsg 2 (dVar 6))) (sAsg 2 (d2 dAdd (dVar 6) (dLst (aCons (dVar 5) aNil)))))))))
def den__law_parts : DS := (sSeq (sAsg 1 (dLst aNil)) (sSeq (sAsg 2 (dLst aNil)) (sSeq (sFor (iSeq (dVar 0)) (gN 3) lb__law_parts_1) (sRet (dTup (aCons (dCall bSorted (aCons (dVar 1) aNil)) (aCons (dCall bSortDD (aCons (dLc (iSeq (dVar 2)) (gN 7) [7] bYes (dCall bSorted (aCons (dVar 7) aNil))) aNil)) aNil)))))))
theorem bd__law_parts (T : Txt K mg) : Body P w K mg base 1 N__law_parts "_law_parts" sc__law_parts (He.ga K "_law_parts") (defBody (top 30)) den__law_parts := by
  intro cdv A outer s H E b
  have hN := fs__law_parts.nd
  exact (zs_cons (z_set (i := 1) hN (by rfl) (Or.inl rfl) (xe_lst xa_nil))
    (zs_cons (z_set (i := 2) hN (by rfl) (Or.inl rfl) (xe_lst xa_nil))
    (zs_cons (z_for b.hp b.calm (xi_seq (xe_var (pv 0))) doesT_name (pg_name (i := 3) hN (by rfl) (Or.inl rfl)) (zs_cons (z_set (i := 4) hN (by rfl) (Or.inr rfl) (xe_call (ok__law_near T) b.r b.tk (by rfl) T.g__law_near (xa_cons (xe_var (pv 3)) xa_nil)))
    (zs_cons (z_set (i := 5) hN (by rfl) (Or.inl rfl) (xe_lst (xa_cons (xe_var (pv 3)) xa_nil)))
    (zs_cons (z_set (i := 6) hN (by rfl) (Or.inl rfl) (xe_lst xa_nil))
    (zs_cons (z_for b.hp b.calm (xi_seq (xe_callTy (call_listA b.calm) does_list (by rfl) T.n_list (by decide +kernel) (xa_cons (xe_var (pv 2)) xa_nil))) doesT_name (pg_name (i := 7) hN (by rfl) (Or.inl rfl)) (zs_one (z_if (xt_c (xc_eq b.u64 (xb_lc b hN (xi_seq (xe_var (pv 7))) (blkOk_by (own := [("other", 8)]) (N := N__law_parts) (sc := sc__law_parts) (by decide +kernel)) doesA_name (by decide) (fun s H C cl fp b => (pg_name (i := 8) hN (by rfl) (Or.inl rfl))) (fun s H C cl fp b => (xts_one (xt_c (xc_in b.u65 (xe_var (pv 8)) (xe_var (pv 4)))))) (fun s H C cl fp b => (xe_var (pv 8)))) (xe_lst xa_nil))) (zs_one (z_expr (xe_append (xe_var (pv 6)) (xe_var (pv 7))))) (zs_one (z_set (i := 5) hN (by rfl) (Or.inl rfl) (xe_add (xe_var (pv 5)) (xe_var (pv 7))))))))
    (zs_one (z_if (xt_bool (xw_or (xt_c (xc_eq b.u64 (xe_ix b.u1 (xe_var (pv 3)) xe_int) xe_int)) (xw_or1 (xt_c (xc_ne b.u64 (xb_lc b hN (xi_seq (xe_var (pv 1))) (blkOk_by (own := [("other", 8)]) (N := N__law_parts) (sc := sc__law_parts) (by decide +kernel)) doesA_name (by decide) (fun s H C cl fp b => (pg_name (i := 8) hN (by rfl) (Or.inl rfl))) (fun s H C cl fp b => (xts_one (xt_c (xc_in b.u65 (xe_var (pv 8)) (xe_var (pv 4)))))) (fun s H C cl fp b => (xe_var (pv 8)))) (xe_lst xa_nil)))))) (zs_cons (z_set (i := 1) hN (by rfl) (Or.inl rfl) (xe_add (xe_var (pv 1)) (xe_var (pv 5))))
    (zs_one (z_set (i := 2) hN (by rfl) (Or.inl rfl) (xe_var (pv 6))))) (zs_one (z_set (i := 2) hN (by rfl) (Or.inl rfl) (xe_add (xe_var (pv 6)) (xe_lst (xa_cons (xe_var (pv 5)) xa_nil))))))))))))
    (zs_one (z_ret (xe_tup (xa_cons (xe_callB (CallR.or cr_sortedPO cr_sortedI) does_sorted (by rfl) T.n_sorted (by decide +kernel) (xa_cons (xe_var (pv 1)) xa_nil)) (xa_cons (xe_callB (cr_sortDD b.u65) does_sortDD (by rfl) T.n_sorted (by decide +kernel) (xa_cons (xb_lc b hN (xi_seq (xe_var (pv 2))) (blkOk_by (own := [("part", 7)]) (N := N__law_parts) (sc := sc__law_parts) (by decide +kernel)) doesA_name (by decide) (fun s H C cl fp b => (pg_name (i := 7) hN (by rfl) (Or.inl rfl))) (fun s H C cl fp b => xts_nil) (fun s H C cl fp b => (xe_callB (CallR.or cr_sortedPO cr_sortedI) does_sorted (by rfl) T.n_sorted (by decide +kernel) (xa_cons (xe_var (pv 7)) xa_nil)))) xa_nil)) xa_nil))))))))
def F__law_parts : FD := fun ds m => if ds.length = 1 then bodyF 8 den__law_parts ds m else .bad
theorem ok__law_parts (T : Txt K mg) : FnD P w K mg base 2 (He.ga K "_law_parts") F__law_parts := by
  obtain ⟨fd, F⟩ := T.f__law_parts
  exact FnD.of (N := N__law_parts) (ps := ["cells"]) (g := den__law_parts) F fs__law_parts rfl (fun _ _ _ _ _ _ us hl => match us, hl with | [_], _ => rfl) (bd__law_parts T)
abbrev N__law_same : List Str := ["told", "due", "k"]
abbrev sc__law_same : Scope := defScope (top 26)
theorem fs__law_same : FnScope N__law_same ["told", "due"] sc__law_same := ⟨rfl, rfl, rfl, by decide +kernel, rfl, by decide +kernel, by decide +kernel⟩
def lb__law_same_0 (F : FD) : DS := (sIf (bNot (dB (dCall F (aCons (d2 ixD (dVar 0) (dVar 2)) (aCons (d2 ixD (dVar 1) (dVar 2)) aNil))))) (sRet (dC (.bl false))) sSkip)
def den__law_same (F : FD) : DS := (sSeq (sIf (dB (d2 dIs (dVar 1) (dC .non))) (sRet (d2 dIs (dVar 0) (dC .non))) sSkip) (sSeq (sIf (dB (d2 dIs (dVar 1) (dC (.bl true)))) (sRet (d2 dIs (dVar 0) (dC (.bl true)))) sSkip) (sSeq (sIf (dB (d2 dIs (dVar 1) (dC (.bl false)))) (sRet (d2 dIs (dVar 0) (dC (.bl false)))) sSkip) (sSeq (sIf (dB (dCall bIsi (aCons (dVar 1) (aCons (dC (.ty "int")) aNil)))) (sRet (dAndV (dCall bIsi (aCons (dVar 0) (aCons (dC (.ty "int")) aNil))) (dAndV (dNotV (dCall bIsi (aCons (dVar 0) (aCons (dC (.ty "bool")) aNil)))) (d2 dEq (dVar 0) (dVar 1))))) sSkip) (sSeq (sIf (dB (dCall bIsi (aCons (dVar 1) (aCons (dC (.ty "str")) aNil)))) (sRet (dAndV (dCall bIsi (aCons (dVar 0) (aCons (dC (.ty "str")) aNil))) (d2 dEq (dVar 0) (dVar 1)))) sSkip) (sSeq (sIf (bAnd (dB (dCall bIsi (aCons (dVar 1) (aCons (dC (.ty "tuple")) aNil)))) (bNot (dB (dCall bIsi (aCons (dVar 0) (aCons (dC (.ty "tuple")) aNil)))))) (sRet (dC (.bl false))) sSkip) (sSeq (sIf (bAnd (dB (dCall bIsi (aCons (dVar 1) (aCons (dC (.ty "list")) aNil)))) (bNot (dB (dCall bIsi (aCons (dVar 0) (aCons (dC (.ty "list")) aNil)))))) (sRet (dC (.bl false))) sSkip) (sSeq (sIf (dB (d2 dNe (dCall bLen (aCons (dVar 0) aNil)) (dCall bLen (aCons (dVar 1) aNil)))) (sRet (dC (.bl false))) sSkip) (sSeq (sFor (iRng1 (aCons (dCall bLen (aCons (dVar 1) aNil)) aNil)) (gN 2) (lb__law_same_0 F)) (sRet (dC (.bl true))))))))))))
def FR__law_same : Nat → FD
  | 0 => fun _ _ => .bad
  | z + 1 => fun ds m => if ds.length = 2 then bodyF 1 (den__law_same (FR__law_same z)) ds m else .bad
abbrev F__law_same : FD := FR__law_same 6
theorem okr__law_same (T : Txt K mg) : ∀ z : Nat, FnD P w K mg base (0 + z) (He.ga K "_law_same") (FR__law_same z) := by
  intro z
  induction z with
  | zero =>
    obtain ⟨fd, F⟩ := T.f__law_same
    exact FnD.zero (ps := ["told", "due"]) F (fun _ _ _ _ _ _ us hl => match us, hl with | [_, _], _ => rfl)
  | succ z G =>
    have hk : 0 + z ≤ 0 + z := Nat.le_refl _
    obtain ⟨fd, F⟩ := T.f__law_same
    refine FnD.of (N := N__law_same) (ps := ["told", "due"]) (g := den__law_same (FR__law_same z)) F fs__law_same rfl (fun _ _ _ _ _ _ us hl => match us, hl with | [_, _], _ => rfl) fun cdv A outer s H E b => ?_
    have hN := fs__law_same.nd
    exact (zs_cons (z_if (xt_c (xc_is (xe_var (pv 1)) xe_non)) (zs_one (z_ret (xe_c (xc_is (xe_var (pv 0)) xe_non)))) zs_nil)
    (zs_cons (z_if (xt_c (xc_is (xe_var (pv 1)) xe_bl)) (zs_one (z_ret (xe_c (xc_is (xe_var (pv 0)) xe_bl)))) zs_nil)
    (zs_cons (z_if (xt_c (xc_is (xe_var (pv 1)) xe_bl)) (zs_one (z_ret (xe_c (xc_is (xe_var (pv 0)) xe_bl)))) zs_nil)
    (zs_cons (z_if (xt_val (xe_callB call_isi does_isi (by rfl) T.n_isinstance (by decide +kernel) (xa_cons (xe_var (pv 1)) (xa_cons (xe_ty (by rfl) T.n_int (by decide +kernel)) xa_nil)))) (zs_one (z_ret (xe_andV (xe_callB call_isi does_isi (by rfl) T.n_isinstance (by decide +kernel) (xa_cons (xe_var (pv 0)) (xa_cons (xe_ty (by rfl) T.n_int (by decide +kernel)) xa_nil))) (xe_andV (xe_notV (xe_callB call_isi does_isi (by rfl) T.n_isinstance (by decide +kernel) (xa_cons (xe_var (pv 0)) (xa_cons (xe_ty (by rfl) T.n_bool (by decide +kernel)) xa_nil)))) (xe_one (xe_c (xc_eq b.u64 (xe_var (pv 0)) (xe_var (pv 1))))))))) zs_nil)
    (zs_cons (z_if (xt_val (xe_callB call_isi does_isi (by rfl) T.n_isinstance (by decide +kernel) (xa_cons (xe_var (pv 1)) (xa_cons (xe_ty (by rfl) T.n_str (by decide +kernel)) xa_nil)))) (zs_one (z_ret (xe_andV (xe_callB call_isi does_isi (by rfl) T.n_isinstance (by decide +kernel) (xa_cons (xe_var (pv 0)) (xa_cons (xe_ty (by rfl) T.n_str (by decide +kernel)) xa_nil))) (xe_one (xe_c (xc_eq b.u64 (xe_var (pv 0)) (xe_var (pv 1)))))))) zs_nil)
    (zs_cons (z_if (xt_bool (xw_and (xt_val (xe_callB call_isi does_isi (by rfl) T.n_isinstance (by decide +kernel) (xa_cons (xe_var (pv 1)) (xa_cons (xe_ty (by rfl) T.n_tuple (by decide +kernel)) xa_nil)))) (xw_and1 (xt_not (xt_val (xe_callB call_isi does_isi (by rfl) T.n_isinstance (by decide +kernel) (xa_cons (xe_var (pv 0)) (xa_cons (xe_ty (by rfl) T.n_tuple (by decide +kernel)) xa_nil)))))))) (zs_one (z_ret xe_bl)) zs_nil)
    (zs_cons (z_if (xt_bool (xw_and (xt_val (xe_callB call_isi does_isi (by rfl) T.n_isinstance (by decide +kernel) (xa_cons (xe_var (pv 1)) (xa_cons (xe_ty (by rfl) T.n_list (by decide +kernel)) xa_nil)))) (xw_and1 (xt_not (xt_val (xe_callB call_isi does_isi (by rfl) T.n_isinstance (by decide +kernel) (xa_cons (xe_var (pv 0)) (xa_cons (xe_ty (by rfl) T.n_list (by decide +kernel)) xa_nil)))))))) (zs_one (z_ret xe_bl)) zs_nil)
    (zs_cons (z_if (xt_c (xc_ne b.u64 (xe_callB call_lenA does_len (by rfl) T.n_len (by decide +kernel) (xa_cons (xe_var (pv 0)) xa_nil)) (xe_callB call_lenA does_len (by rfl) T.n_len (by decide +kernel) (xa_cons (xe_var (pv 1)) xa_nil)))) (zs_one (z_ret xe_bl)) zs_nil)
    (zs_cons (z_for b.hp b.calm (xi_range1 (by rfl) T.n_range (xa_cons (xe_callB call_lenA does_len (by rfl) T.n_len (by decide +kernel) (xa_cons (xe_var (pv 1)) xa_nil)) xa_nil)) doesT_name (pg_name (i := 2) hN (by rfl) (Or.inl rfl)) (zs_one (z_if (xt_not (xt_val (xe_call G (b.r (hk)) b.tk (by rfl) T.g__law_same (xa_cons (xe_ix b.u1 (xe_var (pv 0)) (xe_var (pv 2))) (xa_cons (xe_ix b.u1 (xe_var (pv 1)) (xe_var (pv 2))) xa_nil))))) (zs_one (z_ret xe_bl)) zs_nil)))
    (zs_one (z_ret xe_bl)))))))))))
theorem ok__law_same (T : Txt K mg) : FnD P w K mg base 6 (He.ga K "_law_same") F__law_same := okr__law_same T 6
abbrev N_Bank___eq__ : List Str := ["self", "other"]
abbrev sc_Bank___eq__ : Scope := defScope (inClass (top 18) 3)
theorem fs_Bank___eq__ : FnScope N_Bank___eq__ ["self", "other"] sc_Bank___eq__ := ⟨rfl, rfl, rfl, by decide +kernel, rfl, by decide +kernel, by decide +kernel⟩
def den_Bank___eq__ : DS := (sRet (dAndV (dCall (on2 (isCD "Bank")) (aCons (dVar 1) (aCons (dC (.glo "Bank")) aNil))) (d2 dEq (dFld "Bank" "extra" (dVar 0)) (dFld "Bank" "extra" (dVar 1)))))
theorem bd_Bank___eq__ (T : Txt K mg) : Body P w K mg base 0 N_Bank___eq__ "Bank.__eq__" sc_Bank___eq__ (He.ma K (He.ga K "Bank") "__eq__") (defBody (inClass (top 18) 3)) den_Bank___eq__ := by
  intro cdv A outer s H E b
  have hN := fs_Bank___eq__.nd
  exact (zs_one (z_ret (xe_andV (xe_callB (C8.call_isC T.w_Bank) does_isC (by rfl) T.n_isinstance (by decide +kernel) (xa_cons (xe_var (pv 1)) (xa_cons (xe_glo (C := "Bank") (by rfl) T.g_Bank) xa_nil))) (xe_one (xe_c (xc_eq b.u64 (xe_fld (C := "Bank") (nm := "extra") T.c_Bank T.a_Bank_extra (xe_var (pv 0))) (xe_fld (C := "Bank") (nm := "extra") T.c_Bank T.a_Bank_extra (xe_var (pv 1)))))))))
def F_Bank___eq__ : FD := fun ds m => if ds.length = 2 then bodyF 0 den_Bank___eq__ ds m else .bad
theorem ok_Bank___eq__ (T : Txt K mg) : FnD P w K mg base 1 (He.ma K (He.ga K "Bank") "__eq__") F_Bank___eq__ := by
  obtain ⟨fd, F⟩ := T.f_Bank___eq__
  exact FnD.of (N := N_Bank___eq__) (ps := ["self", "other"]) (g := den_Bank___eq__) F fs_Bank___eq__ rfl (fun _ _ _ _ _ _ us hl => match us, hl with | [_, _], _ => rfl) (bd_Bank___eq__ T)
abbrev N_Bank___or__ : List Str := ["self", "other", "further", "cell"]
abbrev sc_Bank___or__ : Scope := defScope (inClass (top 18) 4)
theorem fs_Bank___or__ : FnScope N_Bank___or__ ["self", "other"] sc_Bank___or__ := ⟨rfl, rfl, rfl, by decide +kernel, rfl, by decide +kernel, by decide +kernel⟩
def den_Bank___or__ : DS := (sSeq (sAsg 2 (dLc (iSeq (dFld "Bank" "extra" (dVar 1))) (gN 3) [3] (dB (d2 dNotIn (dVar 3) (dFld "Bank" "_places" (dVar 0)))) (dVar 3))) (sRet (dMake "Bank" F_Bank___init__ (aCons (d2 dAdd (dCall bList (aCons (dFld "Bank" "extra" (dVar 0)) aNil)) (dVar 2)) aNil))))
theorem bd_Bank___or__ (T : Txt K mg) : Body P w K mg base 4 N_Bank___or__ "Bank.__or__" sc_Bank___or__ (He.ma K (He.ga K "Bank") "__or__") (defBody (inClass (top 18) 4)) den_Bank___or__ := by
  intro cdv A outer s H E b
  have hN := fs_Bank___or__.nd
  exact (zs_cons (zb_lc b hN (by rfl) (by rfl) (sw_true rfl rfl rfl (by decide +kernel)) (xi_seq (xe_fld (C := "Bank") (nm := "extra") T.c_Bank T.a_Bank_extra (xe_var (pv 1)))) (blkOk_by (own := [("cell", 3)]) (N := N_Bank___or__) (sc := sc_Bank___or__) (by decide +kernel)) doesA_name (by decide) (fun s H C cl fp b => (pg_name (i := 3) hN (by rfl) (Or.inl rfl))) (fun s H C cl fp b => (xts_one (xt_c (xc_notIn b.u65 (xe_var (pv 3)) (xe_fld (C := "Bank") (nm := "_places") T.c_Bank T.a_Bank__places (xe_var (pv 0))))))) (fun s H C cl fp b => (xe_var (pv 3))))
    (zs_one (z_ret (xe_make (C := "Bank") T.k_Bank (ok_Bank___init__ T) b.r b.tk (by rfl) T.g_Bank (xa_cons (xe_add (xe_callTy (call_listA b.calm) does_list (by rfl) T.n_list (by decide +kernel) (xa_cons (xe_fld (C := "Bank") (nm := "extra") T.c_Bank T.a_Bank_extra (xe_var (pv 0))) xa_nil)) (xe_var (pv 2))) xa_nil)))))
def F_Bank___or__ : FD := fun ds m => if ds.length = 2 then bodyF 2 den_Bank___or__ ds m else .bad
theorem ok_Bank___or__ (T : Txt K mg) : FnD P w K mg base 5 (He.ma K (He.ga K "Bank") "__or__") F_Bank___or__ := by
  obtain ⟨fd, F⟩ := T.f_Bank___or__
  exact FnD.of (N := N_Bank___or__) (ps := ["self", "other"]) (g := den_Bank___or__) F fs_Bank___or__ rfl (fun _ _ _ _ _ _ us hl => match us, hl with | [_, _], _ => rfl) (bd_Bank___or__ T)
abbrev N__law_asked : List Str := ["bank", "fast", "parts", "told", "isles", "k", "isle", "rest", "part", "whole"]
abbrev sc__law_asked : Scope := defScope (top 31)
theorem fs__law_asked : FnScope N__law_asked ["bank", "fast", "parts"] sc__law_asked := ⟨rfl, rfl, rfl, by decide +kernel, rfl, by decide +kernel, by decide +kernel⟩
def lb__law_asked_0 : DS := (sSeq (sAsg 6 (d2 ixD (dVar 4) (dVar 5))) (sSeq (sExpr (dLm appD (dVar 6) (dTup (aCons (dC (.int 7)) (aCons (dC (.int 7)) aNil))))) (sExpr (dLm0 revD (dVar 6)))))
def lb__law_asked_1 : DS := (sAsg 7 (d2 dAdd (dVar 7) (dVar 8)))
def den__law_asked : DS := (sSeq (sAsg 3 (dCall F_landfast (aCons (dVar 0) aNil))) (sSeq (sAsg 4 (dCall F_islands (aCons (dVar 0) aNil))) (sSeq (sIf (bOr (bNot (dB (dCall (on2 (isCD "Bank")) (aCons (dVar 3) (aCons (dC (.glo "Bank")) aNil))))) (bNot (dB (dCall F__law_same (aCons (dFld "Bank" "extra" (dVar 3)) (aCons (dCall bTuple (aCons (dVar 1) aNil)) aNil)))))) (sRet (dC (.bl false))) sSkip) (sSeq (sIf (bNot (dB (dCall F__law_same (aCons (dVar 4) (aCons (dVar 2) aNil))))) (sRet (dC (.bl false))) sSkip) (sSeq (sFor (iRng1 (aCons (dCall bLen (aCons (dVar 4) aNil)) aNil)) (gN 5) lb__law_asked_0) (sSeq (sExpr (dLm appD (dVar 4) (dLst (aCons (dTup (aCons (dC (.int 9)) (aCons (dC (.int 9)) aNil))) aNil)))) (sSeq (sExpr (dLm0 revD (dVar 4))) (sSeq (sIf (bNot (dB (dCall F__law_same (aCons (dCall F_islands (aCons (dVar 0) aNil)) (aCons (dVar 2) aNil))))) (sRet (dC (.bl false))) sSkip) (sSeq (sIf (bOr (bNot (dB (dCall F__law_same (aCons (dCall F_islands (aCons (dVar 3) aNil)) (aCons (dLst aNil) aNil))))) (bNot (dB (dCall F__law_same (aCons (d2 (dOwn "Bank" F_Bank___eq__) (dCall F_landfast (aCons (dVar 3) aNil)) (dVar 3)) (aCons (dC (.bl true)) aNil)))))) (sRet (dC (.bl false))) sSkip) (sSeq (sAsg 7 (dLst aNil)) (sSeq (sFor (iSeq (dVar 2)) (gN 8) lb__law_asked_1) (sSeq (sAsg 9 (d2 (dOwn "Bank" F_Bank___or__) (dVar 3) (dMake "Bank" F_Bank___init__ (aCons (dVar 7) aNil)))) (sSeq (sIf (bOr (bNot (dB (dCall F__law_same (aCons (d2 (dOwn "Bank" F_Bank___eq__) (dVar 9) (dVar 0)) (aCons (dC (.bl true)) aNil))))) (bNot (dB (dCall F__law_same (aCons (dFld "Bank" "extra" (dCall F_landfast (aCons (dMake "Bank" F_Bank___init__ (aCons (dVar 7) aNil)) aNil))) (aCons (dTup aNil) aNil)))))) (sRet (dC (.bl false))) sSkip) (sRet (dCall F__law_same (aCons (dCall F_islands (aCons (dMake "Bank" F_Bank___init__ (aCons (dVar 7) aNil)) aNil)) (aCons (dVar 2) aNil)))))))))))))))))
theorem bd__law_asked (T : Txt K mg) : Body P w K mg base 6 N__law_asked "_law_asked" sc__law_asked (He.ga K "_law_asked") (defBody (top 31)) den__law_asked := by
  intro cdv A outer s H E b
  have hN := fs__law_asked.nd
  exact (zs_cons (z_set (i := 3) hN (by rfl) (Or.inl rfl) (xe_call (ok_landfast T) b.r b.tk (by rfl) T.g_landfast (xa_cons (xe_var (pv 0)) xa_nil)))
    (zs_cons (z_set (i := 4) hN (by rfl) (Or.inl rfl) (xe_call (ok_islands T) b.r b.tk (by rfl) T.g_islands (xa_cons (xe_var (pv 0)) xa_nil)))
    (zs_cons (z_if (xt_bool (xw_or (xt_not (xt_val (xe_callB (C8.call_isC T.w_Bank) does_isC (by rfl) T.n_isinstance (by decide +kernel) (xa_cons (xe_var (pv 3)) (xa_cons (xe_glo (C := "Bank") (by rfl) T.g_Bank) xa_nil))))) (xw_or1 (xt_not (xt_val (xe_call (ok__law_same T) b.r b.tk (by rfl) T.g__law_same (xa_cons (xe_fld (C := "Bank") (nm := "extra") T.c_Bank T.a_Bank_extra (xe_var (pv 3))) (xa_cons (xe_callTy call_tuple_of does_tuple (by rfl) T.n_tuple (by decide +kernel) (xa_cons (xe_var (pv 1)) xa_nil)) xa_nil)))))))) (zs_one (z_ret xe_bl)) zs_nil)
    (zs_cons (z_if (xt_not (xt_val (xe_call (ok__law_same T) b.r b.tk (by rfl) T.g__law_same (xa_cons (xe_var (pv 4)) (xa_cons (xe_var (pv 2)) xa_nil))))) (zs_one (z_ret xe_bl)) zs_nil)
    (zs_cons (z_for b.hp b.calm (xi_range1 (by rfl) T.n_range (xa_cons (xe_callB call_lenA does_len (by rfl) T.n_len (by decide +kernel) (xa_cons (xe_var (pv 4)) xa_nil)) xa_nil)) doesT_name (pg_name (i := 5) hN (by rfl) (Or.inl rfl)) (zs_cons (z_set (i := 6) hN (by rfl) (Or.inl rfl) (xe_ix b.u1 (xe_var (pv 4)) (xe_var (pv 5))))
    (zs_cons (z_expr (xe_append (xe_var (pv 6)) (xe_tup (xa_cons xe_int (xa_cons xe_int xa_nil)))))
    (zs_one (z_expr (xe_reverse (xe_var (pv 6))))))))
    (zs_cons (z_expr (xe_append (xe_var (pv 4)) (xe_lst (xa_cons (xe_tup (xa_cons xe_int (xa_cons xe_int xa_nil))) xa_nil))))
    (zs_cons (z_expr (xe_reverse (xe_var (pv 4))))
    (zs_cons (z_if (xt_not (xt_val (xe_call (ok__law_same T) b.r b.tk (by rfl) T.g__law_same (xa_cons (xe_call (ok_islands T) b.r b.tk (by rfl) T.g_islands (xa_cons (xe_var (pv 0)) xa_nil)) (xa_cons (xe_var (pv 2)) xa_nil))))) (zs_one (z_ret xe_bl)) zs_nil)
    (zs_cons (z_if (xt_bool (xw_or (xt_not (xt_val (xe_call (ok__law_same T) b.r b.tk (by rfl) T.g__law_same (xa_cons (xe_call (ok_islands T) b.r b.tk (by rfl) T.g_islands (xa_cons (xe_var (pv 3)) xa_nil)) (xa_cons (xe_lst xa_nil) xa_nil))))) (xw_or1 (xt_not (xt_val (xe_call (ok__law_same T) b.r b.tk (by rfl) T.g__law_same (xa_cons (xe_c (xc_eqOwn (C := "Bank") T.m_Bank___eq__ (ok_Bank___eq__ T) b.r b.tk (xe_call (ok_landfast T) b.r b.tk (by rfl) T.g_landfast (xa_cons (xe_var (pv 3)) xa_nil)) (xe_var (pv 3)))) (xa_cons xe_bl xa_nil)))))))) (zs_one (z_ret xe_bl)) zs_nil)
    (zs_cons (z_set (i := 7) hN (by rfl) (Or.inl rfl) (xe_lst xa_nil))
    (zs_cons (z_for b.hp b.calm (xi_seq (xe_var (pv 2))) doesT_name (pg_name (i := 8) hN (by rfl) (Or.inl rfl)) (zs_one (z_set (i := 7) hN (by rfl) (Or.inl rfl) (xe_add (xe_var (pv 7)) (xe_var (pv 8))))))
    (zs_cons (z_set (i := 9) hN (by rfl) (Or.inl rfl) (xe_binOwn (C := "Bank") T.m_Bank___or__ T.o_Bank (ok_Bank___or__ T) b.r b.tk (xe_var (pv 3)) (xe_make (C := "Bank") T.k_Bank (ok_Bank___init__ T) b.r b.tk (by rfl) T.g_Bank (xa_cons (xe_var (pv 7)) xa_nil))))
    (zs_cons (z_if (xt_bool (xw_or (xt_not (xt_val (xe_call (ok__law_same T) b.r b.tk (by rfl) T.g__law_same (xa_cons (xe_c (xc_eqOwn (C := "Bank") T.m_Bank___eq__ (ok_Bank___eq__ T) b.r b.tk (xe_var (pv 9)) (xe_var (pv 0)))) (xa_cons xe_bl xa_nil))))) (xw_or1 (xt_not (xt_val (xe_call (ok__law_same T) b.r b.tk (by rfl) T.g__law_same (xa_cons (xe_fld (C := "Bank") (nm := "extra") T.c_Bank T.a_Bank_extra (xe_call (ok_landfast T) b.r b.tk (by rfl) T.g_landfast (xa_cons (xe_make (C := "Bank") T.k_Bank (ok_Bank___init__ T) b.r b.tk (by rfl) T.g_Bank (xa_cons (xe_var (pv 7)) xa_nil)) xa_nil))) (xa_cons (xe_tup xa_nil) xa_nil)))))))) (zs_one (z_ret xe_bl)) zs_nil)
    (zs_one (z_ret (xe_call (ok__law_same T) b.r b.tk (by rfl) T.g__law_same (xa_cons (xe_call (ok_islands T) b.r b.tk (by rfl) T.g_islands (xa_cons (xe_make (C := "Bank") T.k_Bank (ok_Bank___init__ T) b.r b.tk (by rfl) T.g_Bank (xa_cons (xe_var (pv 7)) xa_nil)) xa_nil)) (xa_cons (xe_var (pv 2)) xa_nil))))))))))))))))))
def F__law_asked : FD := fun ds m => if ds.length = 3 then bodyF 7 den__law_asked ds m else .bad
theorem ok__law_asked (T : Txt K mg) : FnD P w K mg base 7 (He.ga K "_law_asked") F__law_asked := by
  obtain ⟨fd, F⟩ := T.f__law_asked
  exact FnD.of (N := N__law_asked) (ps := ["bank", "fast", "parts"]) (g := den__law_asked) F fs__law_asked rfl (fun _ _ _ _ _ _ us hl => match us, hl with | [_, _, _], _ => rfl) (bd__law_asked T)
abbrev N_law : List Str := ["script", "pool", "lot", "cells", "own", "bank", "cell"]
abbrev sc_law : Scope := defScope (top 33)
theorem fs_law : FnScope N_law ["script"] sc_law := ⟨rfl, rfl, rfl, by decide +kernel, rfl, by decide +kernel, by decide +kernel⟩
def den_law : DS := (sSeq (sAsg 1 (dLc (iSeq (dSl (dVar 0) oNone (oSome (dC (.int 63))))) (gN 6) [6] bYes (dCall bAbs (aCons (dCall bInt (aCons (dVar 6) aNil)) aNil)))) (sSeq (sIf (bAnd (dB (d2 dEq (dCall F__law_draw (aCons (dVar 1) (aCons (dC (.int 16)) aNil))) (dC (.int 5)))) (bNot (dB (dCall F__law_blocks (aCons (dVar 1) aNil))))) (sRet (dC (.bl false))) sSkip) (sSeq (sAsg 2 (dCall F__law_lot (aCons (dVar 1) aNil))) (sSeq (sAsg 3 (dCall F__law_plain (aCons (dVar 2) aNil))) (sSeq (sAsg 4 (dCall F__law_parts (aCons (dVar 3) aNil))) (sSeq (sAsg 5 (dMake "Bank" F_Bank___init__ (aCons (dVar 2) aNil))) (sSeq (sIf (bNot (dB (dCall F__law_asked (aCons (dVar 5) (aCons (d2 ixD (dVar 4) (dC (.int 0))) (aCons (d2 ixD (dVar 4) (dC (.int 1))) aNil)))))) (sRet (dC (.bl false))) sSkip) (sSeq (sIf (bNot (dB (dCall F__law_asked (aCons (dMake "Bank" F_Bank___init___d1 aNil) (aCons (dLst aNil) (aCons (dLst aNil) aNil)))))) (sRet (dC (.bl false))) sSkip) (sRet (dAndV (dCall F__law_same (aCons (dFld "Bank" "extra" (dVar 5)) (aCons (dCall bTuple (aCons (dVar 3) aNil)) aNil))) (dCall F__law_asked (aCons (dVar 5) (aCons (d2 ixD (dVar 4) (dC (.int 0))) (aCons (d2 ixD (dVar 4) (dC (.int 1))) aNil))))))))))))))
theorem bd_law (T : Txt K mg) : Body P w K mg base 7 N_law "law" sc_law (He.ga K "law") (defBody (top 33)) den_law := by
  intro cdv A outer s H E b
  have hN := fs_law.nd
  exact (zs_cons (zb_lc b hN (by rfl) (by rfl) (sw_true rfl rfl rfl (by decide +kernel)) (xi_seq (xe_slice (xe_var (pv 0)) xo_none (xo_some xe_int))) (blkOk_by (own := [("cell", 6)]) (N := N_law) (sc := sc_law) (by decide +kernel)) doesA_name (by decide) (fun s H C cl fp b => (pg_name (i := 6) hN (by rfl) (Or.inl rfl))) (fun s H C cl fp b => xts_nil) (fun s H C cl fp b => (xe_callB call_abs does_abs (by rfl) T.n_abs (by decide +kernel) (xa_cons (xe_callTy call_int1 does_intc (by rfl) T.n_int (by decide +kernel) (xa_cons (xe_var (pv 6)) xa_nil)) xa_nil))))
    (zs_cons (z_if (xt_bool (xw_and (xt_c (xc_eq b.u64 (xe_call (ok__law_draw T) b.r b.tk (by rfl) T.g__law_draw (xa_cons (xe_var (pv 1)) (xa_cons xe_int xa_nil))) xe_int)) (xw_and1 (xt_not (xt_val (xe_call (ok__law_blocks T) b.r b.tk (by rfl) T.g__law_blocks (xa_cons (xe_var (pv 1)) xa_nil))))))) (zs_one (z_ret xe_bl)) zs_nil)
    (zs_cons (z_set (i := 2) hN (by rfl) (Or.inl rfl) (xe_call (ok__law_lot T) b.r b.tk (by rfl) T.g__law_lot (xa_cons (xe_var (pv 1)) xa_nil)))
    (zs_cons (z_set (i := 3) hN (by rfl) (Or.inl rfl) (xe_call (ok__law_plain T) b.r b.tk (by rfl) T.g__law_plain (xa_cons (xe_var (pv 2)) xa_nil)))
    (zs_cons (z_set (i := 4) hN (by rfl) (Or.inl rfl) (xe_call (ok__law_parts T) b.r b.tk (by rfl) T.g__law_parts (xa_cons (xe_var (pv 3)) xa_nil)))
    (zs_cons (z_set (i := 5) hN (by rfl) (Or.inl rfl) (xe_make (C := "Bank") T.k_Bank (ok_Bank___init__ T) b.r b.tk (by rfl) T.g_Bank (xa_cons (xe_var (pv 2)) xa_nil)))
    (zs_cons (z_if (xt_not (xt_val (xe_call (ok__law_asked T) b.r b.tk (by rfl) T.g__law_asked (xa_cons (xe_var (pv 5)) (xa_cons (xe_ix b.u1 (xe_var (pv 4)) xe_int) (xa_cons (xe_ix b.u1 (xe_var (pv 4)) xe_int) xa_nil)))))) (zs_one (z_ret xe_bl)) zs_nil)
    (zs_cons (z_if (xt_not (xt_val (xe_call (ok__law_asked T) b.r b.tk (by rfl) T.g__law_asked (xa_cons (xe_make0 (C := "Bank") T.k_Bank (ok_Bank___init___d1 T) b.r b.tk (by rfl) T.g_Bank) (xa_cons (xe_lst xa_nil) (xa_cons (xe_lst xa_nil) xa_nil)))))) (zs_one (z_ret xe_bl)) zs_nil)
    (zs_one (z_ret (xe_andV (xe_call (ok__law_same T) b.r b.tk (by rfl) T.g__law_same (xa_cons (xe_fld (C := "Bank") (nm := "extra") T.c_Bank T.a_Bank_extra (xe_var (pv 5))) (xa_cons (xe_callTy call_tuple_of does_tuple (by rfl) T.n_tuple (by decide +kernel) (xa_cons (xe_var (pv 3)) xa_nil)) xa_nil))) (xe_one (xe_call (ok__law_asked T) b.r b.tk (by rfl) T.g__law_asked (xa_cons (xe_var (pv 5)) (xa_cons (xe_ix b.u1 (xe_var (pv 4)) xe_int) (xa_cons (xe_ix b.u1 (xe_var (pv 4)) xe_int) xa_nil))))))))))))))))
def F_law : FD := fun ds m => if ds.length = 1 then bodyF 6 den_law ds m else .bad
theorem ok_law (T : Txt K mg) : FnD P w K mg base 8 (He.ga K "law") F_law := by
  obtain ⟨fd, F⟩ := T.f_law
  exact FnD.of (N := N_law) (ps := ["script"]) (g := den_law) F fs_law rfl (fun _ _ _ _ _ _ us hl => match us, hl with | [_], _ => rfl) (bd_law T)
/-! ### the head -/
def fn : List He.DefD := [⟨("_law_draw", none), "_law_draw", "_law_draw", defArgs (top 25), defBody (top 25), defScope (top 25), [], []⟩,
  ⟨("check_length", none), "check_length", "check_length", defArgs (top 12), defBody (top 12), defScope (top 12), [], []⟩,
  ⟨("check_cell", none), "check_cell", "check_cell", defArgs (top 9), defBody (top 9), defScope (top 9), [], []⟩,
  ⟨("check_cells", none), "check_cells", "check_cells", defArgs (top 13), defBody (top 13), defScope (top 13), [], []⟩,
  ⟨("_on_shore", none), "_on_shore", "_on_shore", defArgs (top 16), defBody (top 16), defScope (top 16), [], []⟩,
  ⟨("_check_off_shore", none), "_check_off_shore", "_check_off_shore", defArgs (top 17), defBody (top 17), defScope (top 17), [], []⟩,
  ⟨("Bank", some "__init__"), "__init__", "Bank.__init__", defArgs (inClass (top 18) 0), defBody (inClass (top 18) 0), defScope (inClass (top 18) 0), [.adr (He.dflAt ("Bank", some "__init__") 0)], []⟩,
  ⟨("_beside_shore", none), "_beside_shore", "_beside_shore", defArgs (top 21), defBody (top 21), defScope (top 21), [], []⟩,
  ⟨("neighbours", none), "neighbours", "neighbours", defArgs (top 10), defBody (top 10), defScope (top 10), [], []⟩,
  ⟨("_take_joined", none), "_take_joined", "_take_joined", defArgs (top 20), defBody (top 20), defScope (top 20), [], []⟩,
  ⟨("islands", none), "islands", "islands", defArgs (top 23), defBody (top 23), defScope (top 23), [], []⟩,
  ⟨("landfast", none), "landfast", "landfast", defArgs (top 22), defBody (top 22), defScope (top 22), [], []⟩,
  ⟨("_law_blocks", none), "_law_blocks", "_law_blocks", defArgs (top 32), defBody (top 32), defScope (top 32), [], []⟩,
  ⟨("_law_lot", none), "_law_lot", "_law_lot", defArgs (top 29), defBody (top 29), defScope (top 29), [], []⟩,
  ⟨("_law_plain", none), "_law_plain", "_law_plain", defArgs (top 27), defBody (top 27), defScope (top 27), [], []⟩,
  ⟨("_law_near", none), "_law_near", "_law_near", defArgs (top 28), defBody (top 28), defScope (top 28), [], []⟩,
  ⟨("_law_parts", none), "_law_parts", "_law_parts", defArgs (top 30), defBody (top 30), defScope (top 30), [], []⟩,
  ⟨("_law_same", none), "_law_same", "_law_same", defArgs (top 26), defBody (top 26), defScope (top 26), [], []⟩,
  ⟨("Bank", some "__eq__"), "__eq__", "Bank.__eq__", defArgs (inClass (top 18) 3), defBody (inClass (top 18) 3), defScope (inClass (top 18) 3), [], []⟩,
  ⟨("Bank", some "__or__"), "__or__", "Bank.__or__", defArgs (inClass (top 18) 4), defBody (inClass (top 18) 4), defScope (inClass (top 18) 4), [], []⟩,
  ⟨("_law_asked", none), "_law_asked", "_law_asked", defArgs (top 31), defBody (top 31), defScope (top 31), [], []⟩,
  ⟨("law", none), "law", "law", defArgs (top 33), defBody (top 33), defScope (top 33), [], []⟩]
def fa : List He.Fa := [.glo "_law_draw", .glo "check_length", .glo "check_cell", .glo "check_cells", .glo "_on_shore", .glo "_check_off_shore", .glo "Bank", .glo "_beside_shore", .glo "neighbours", .glo "_take_joined", .glo "islands", .glo "landfast", .glo "_law_blocks", .glo "_law_lot", .glo "_law_plain", .glo "_law_near", .glo "_law_parts", .glo "_law_same", .glo "_law_asked", .glo "law", .free "int", .free "abs", .free "range", .free "len", .free "list", .free "sorted", .free "tuple", .free "isinstance", .free "bool", .free "str", .int "_MOST_EXTRA" (10000), .int "REACH" (120), .cls "Bank", .noat "Bank" "_places", .noat "Bank" "extra", .meth "Bank" "__eq__", .meth "Bank" "__or__", .mkr "Bank"]
def exB (K : PySem.W.Frag) : Bool := (insB K "Bank" && (PySem.W.selfFirst K (He.ga K "Bank") && (tup0B K (He.dflAt ("Bank", some "__init__") 0 K) && true)))
abbrev R : PySem.W.OpenRow := PySem.W.OpenLaw.row PySem.Challenge.rw_neverpenned_k46_landfast
abbrev hk : PySem.W.Hook := hookE 5 fa fn exB
def ob (s : PySem.W.SharedT) : AlE := obE 5 fa fn exB (HandSHeadRun.getT s)
theorem ob_eq (s : PySem.W.SharedT) : ob s = hk.obs s.abs := obE_eq (HandSHeadRun.getT_eq s)
def names1 : List Str := ["_wall", "__name__", "_field_copy", "PlayError", "TooMany", "BadCell", "OnShore", "REACH", "check_cell", "neighbours", "check_length", "check_cells", "_MOST_EXTRA", "_on_shore", "_check_off_shore", "Bank", "_take_joined", "_beside_shore", "landfast", "islands", "_law_draw", "_law_same", "_law_plain", "_law_near", "_law_lot", "_law_parts", "_law_asked", "_law_blocks"]
theorem run (w : World) : HandSHeadRun.RunEq R (PySem.W.view R.prog [33]) hk ob 8000 names1 w := by
  intro os
  kernel_rfl
theorem txt_of {K : PySem.W.Frag} {h : Heap} {mg : Str → Option Value} (X : K.In h) (G : h.Ns mainGlobals mg) (c : He.SaysD fa fn K) (e : exB K = true) : Txt K mg := by
  unfold exB at e
  obtain ⟨e0, e⟩ := He.ba e
  obtain ⟨e1, e⟩ := He.ba e
  obtain ⟨e2, e⟩ := He.ba e
  exact ⟨He.glo_ok X G (c.fact 0 (f := .glo "_law_draw") rfl),
    He.glo_ok X G (c.fact 1 (f := .glo "check_length") rfl),
    He.glo_ok X G (c.fact 2 (f := .glo "check_cell") rfl),
    He.glo_ok X G (c.fact 3 (f := .glo "check_cells") rfl),
    He.glo_ok X G (c.fact 4 (f := .glo "_on_shore") rfl),
    He.glo_ok X G (c.fact 5 (f := .glo "_check_off_shore") rfl),
    He.glo_ok X G (c.fact 6 (f := .glo "Bank") rfl),
    He.glo_ok X G (c.fact 7 (f := .glo "_beside_shore") rfl),
    He.glo_ok X G (c.fact 8 (f := .glo "neighbours") rfl),
    He.glo_ok X G (c.fact 9 (f := .glo "_take_joined") rfl),
    He.glo_ok X G (c.fact 10 (f := .glo "islands") rfl),
    He.glo_ok X G (c.fact 11 (f := .glo "landfast") rfl),
    He.glo_ok X G (c.fact 12 (f := .glo "_law_blocks") rfl),
    He.glo_ok X G (c.fact 13 (f := .glo "_law_lot") rfl),
    He.glo_ok X G (c.fact 14 (f := .glo "_law_plain") rfl),
    He.glo_ok X G (c.fact 15 (f := .glo "_law_near") rfl),
    He.glo_ok X G (c.fact 16 (f := .glo "_law_parts") rfl),
    He.glo_ok X G (c.fact 17 (f := .glo "_law_same") rfl),
    He.glo_ok X G (c.fact 18 (f := .glo "_law_asked") rfl),
    He.glo_ok X G (c.fact 19 (f := .glo "law") rfl),
    He.free_ok X G (c.fact 20 (f := .free "int") rfl),
    He.free_ok X G (c.fact 21 (f := .free "abs") rfl),
    He.free_ok X G (c.fact 22 (f := .free "range") rfl),
    He.free_ok X G (c.fact 23 (f := .free "len") rfl),
    He.free_ok X G (c.fact 24 (f := .free "list") rfl),
    He.free_ok X G (c.fact 25 (f := .free "sorted") rfl),
    He.free_ok X G (c.fact 26 (f := .free "tuple") rfl),
    He.free_ok X G (c.fact 27 (f := .free "isinstance") rfl),
    He.free_ok X G (c.fact 28 (f := .free "bool") rfl),
    He.free_ok X G (c.fact 29 (f := .free "str") rfl),
    He.int_ok X G (c.fact 30 (f := .int "_MOST_EXTRA" (10000)) rfl),
    He.int_ok X G (c.fact 31 (f := .int "REACH" (120)) rfl),
    He.cls_ok (c.fact 32 (f := .cls "Bank") rfl),
    He.noat_ok (c.fact 33 (f := .noat "Bank" "_places") rfl),
    He.noat_ok (c.fact 34 (f := .noat "Bank" "extra") rfl),
    He.meth_ok (c.fact 35 (f := .meth "Bank" "__eq__") rfl),
    He.meth_ok (c.fact 36 (f := .meth "Bank" "__or__") rfl),
    He.mkr_ok (c.fact 37 (f := .mkr "Bank") rfl),
    insB_ok (He.cls_ok (c.fact 32 rfl)) e0,
    e1,
    fun ρ H => VRs.one (tup0_ok (by exact e2) ρ H),
    c.def_ 0 rfl,
    c.def_ 1 rfl,
    c.def_ 2 rfl,
    c.def_ 3 rfl,
    c.def_ 4 rfl,
    c.def_ 5 rfl,
    c.def_ 6 rfl,
    c.def_ 7 rfl,
    c.def_ 8 rfl,
    c.def_ 9 rfl,
    c.def_ 10 rfl,
    c.def_ 11 rfl,
    c.def_ 12 rfl,
    c.def_ 13 rfl,
    c.def_ 14 rfl,
    c.def_ 15 rfl,
    c.def_ 16 rfl,
    c.def_ 17 rfl,
    c.def_ 18 rfl,
    c.def_ 19 rfl,
    c.def_ 20 rfl,
    c.def_ 21 rfl⟩
end NP
end

section
set_option maxHeartbeats 200000
/-! Plain facts of the functions that readings are made of. -/
namespace PD
open PySem L2

/-- all but the numbers in S stand as they were -/
structure Kp (S : List Nat) (m m' : M) : Prop where
  len : m.length ≤ m'.length
  at_ : ∀ i, i < m.length → i ∉ S → m'[i]? = m[i]?
theorem Kp.rfl' {S : List Nat} {m : M} : Kp S m m := ⟨Nat.le_refl _, fun _ _ _ => rfl⟩
theorem Kp.trans {S : List Nat} {a b c : M} (h : Kp S a b) (k : Kp S b c) : Kp S a c :=
  ⟨Nat.le_trans h.len k.len, fun i hi hs => (k.at_ i (Nat.lt_of_lt_of_le hi h.len) hs).trans (h.at_ i hi hs)⟩
theorem Kp.mono {S T : List Nat} {a b : M} (h : Kp S a b) (k : ∀ x ∈ S, x ∈ T) : Kp T a b := ⟨h.len, fun i hi hs => h.at_ i hi fun z => hs (k i z)⟩
theorem Kp.app {S : List Nat} {m l : M} : Kp S m (m ++ l) := ⟨by simp, fun i hi _ => List.getElem?_append_left hi⟩
theorem Kp.set {S : List Nat} {m : M} {n : Nat} {o : MO} (h : n ∈ S) : Kp S m (m.set n o) := ⟨by simp, fun i hi hs => List.getElem?_set_ne (fun z => hs (by rw [← z]; exact h))⟩
/-- numbers that came later than m0 need not be told -/
theorem Kp.trans_new {S : List Nat} {m0 a b : M} (h : Kp S m0 a) {T : List Nat} (k : Kp T a b) (ht : ∀ x ∈ T, x ∈ S ∨ m0.length ≤ x) : Kp S m0 b :=
  ⟨Nat.le_trans h.len k.len, fun i hi hs => (k.at_ i (Nat.lt_of_lt_of_le hi h.len) fun z => (ht i z).elim hs fun q => Nat.lt_irrefl _ (Nat.lt_of_lt_of_le hi q)).trans (h.at_ i hi hs)⟩
theorem Kp.get {S : List Nat} {a b : M} (h : Kp S a b) {i : Nat} {o : MO} (e : a[i]? = some o) (hs : i ∉ S) : b[i]? = some o := by
  rw [h.at_ i (List.getElem?_eq_some_iff.mp e).1 hs, e]
theorem lt_of_get {m : M} {i : Nat} {o : MO} (e : m[i]? = some o) : i < m.length := (List.getElem?_eq_some_iff.mp e).1
theorem get_new {m l : M} {o : MO} : (m ++ o :: l)[m.length]? = some o := by simp
theorem get_old {m l : M} {i : Nat} {o : MO} (e : m[i]? = some o) : (m ++ l)[i]? = some o := by rw [List.getElem?_append_left (lt_of_get e), e]
theorem get_set {m : M} {i : Nat} {o u : MO} (e : m[i]? = some o) : (m.set i u)[i]? = some u := by rw [List.getElem?_set_self (lt_of_get e)]
theorem get_set_ne {m : M} {i j : Nat} {u : MO} (h : i ≠ j) : (m.set i u)[j]? = m[j]? := List.getElem?_set_ne h
theorem lsAt_of {m : M} {n : Nat} {xs : List D} (e : m[n]? = some (.lst xs)) : lsAt m n = some xs := by unfold lsAt; rw [e]

/-! ### cells as values -/
abbrev Cell : Type := Int × Int
def cellsD (cs : List Cell) : List D := cs.map cellD
def cellP (c : Cell) : PyData := .tuple [.int c.1, .int c.2]
theorem py_int {n : Nat} {i : Int} {m : M} : py (n + 1) (.int i) m = some (.int i) := rfl
theorem pyAll_map {α : Type} {f : D → Option PyData} {g : α → D} {p : α → PyData} : ∀ xs : List α, (∀ x ∈ xs, f (g x) = some (p x)) → pyAll f (xs.map g) = some (xs.map p)
  | [], _ => rfl
  | x :: xs, h => by
    simp only [List.map_cons, pyAll]
    rw [h x List.mem_cons_self, pyAll_map xs fun y hy => h y (List.mem_cons_of_mem _ hy)]
theorem py_cell {n : Nat} {c : Cell} {m : M} : py (n + 2) (cellD c) m = some (cellP c) := rfl
theorem py_ints {n : Nat} {p : Nat} {is : List Int} {m : M} (e : m[p]? = some (.lst (is.map D.int))) : py (n + 2) (.ref p) m = some (.list (is.map PyData.int)) := by
  show (match lsAt m p with
    | some xs => (pyAll (fun d => py (n + 1) d m) xs).map PyData.list
    | none => none) = _
  rw [lsAt_of e]
  show (pyAll (fun d => py (n + 1) d m) (is.map D.int)).map PyData.list = _
  rw [pyAll_map (p := PyData.int) is fun _ _ => rfl]
  rfl
theorem py_cells {n : Nat} {p : Nat} {cs : List Cell} {m : M} (e : m[p]? = some (.lst (cellsD cs))) : py (n + 3) (.ref p) m = some (.list (cs.map cellP)) := by
  show (match lsAt m p with
    | some xs => (pyAll (fun d => py (n + 2) d m) xs).map PyData.list
    | none => none) = _
  rw [lsAt_of e]
  show (pyAll (fun d => py (n + 2) d m) (cs.map cellD)).map PyData.list = _
  rw [pyAll_map (p := cellP) cs fun _ _ => rfl]
  rfl
theorem py_tcells {n : Nat} {cs : List Cell} {m : M} : py (n + 3) (.tup (cellsD cs)) m = some (.tuple (cs.map cellP)) := by
  show (pyAll (fun d => py (n + 2) d m) (cellsD cs)).map PyData.tuple = _
  unfold cellsD
  rw [pyAll_map (p := cellP) cs fun _ _ => rfl]
  rfl
theorem eqv_int (a b : Int) : PyData.eqv (.int a) (.int b) = decide (a = b) := by simp [PyData.eqv]; rfl
theorem eqvAll_map {α : Type} [DecidableEq α] {p : α → PyData} (h : ∀ a b, PyData.eqv (p a) (p b) = decide (a = b)) : ∀ as bs : List α, PyData.eqvAll (as.map p) (bs.map p) = decide (as = bs)
  | [], [] => by simp [PyData.eqvAll]
  | [], b :: bs => by simp [PyData.eqvAll]
  | a :: as, [] => by simp [PyData.eqvAll]
  | a :: as, b :: bs => by simp [PyData.eqvAll, h, eqvAll_map h as bs]
theorem eqv_cell (a b : Cell) : PyData.eqv (cellP a) (cellP b) = decide (a = b) := by
  unfold cellP
  simp only [PyData.eqv, PyData.eqvAll, eqv_int, Bool.and_true]
  rw [Bool.eq_iff_iff, Bool.and_eq_true, decide_eq_true_iff, Prod.ext_iff]
  exact and_congr (by simp) (by simp)
theorem eqv_ints (as bs : List Int) : PyData.eqv (.list (as.map PyData.int)) (.list (bs.map PyData.int)) = decide (as = bs) := by simp only [PyData.eqv, eqvAll_map eqv_int]
theorem eqv_cells (as bs : List Cell) : PyData.eqv (.list (as.map cellP)) (.list (bs.map cellP)) = decide (as = bs) := by simp only [PyData.eqv, eqvAll_map eqv_cell]
theorem eqv_tcells (as bs : List Cell) : PyData.eqv (.tuple (as.map cellP)) (.tuple (bs.map cellP)) = decide (as = bs) := by simp only [PyData.eqv, eqvAll_map eqv_cell]
theorem anyEq_cells (cs : List Cell) (c : Cell) : anyEq (cs.map cellP) (cellP c) = decide (c ∈ cs) := by
  unfold anyEq
  rw [Bool.eq_iff_iff, List.any_eq_true, decide_eq_true_iff]
  constructor
  · rintro ⟨x, hx, e⟩
    obtain ⟨a, ha, rfl⟩ := List.mem_map.mp hx
    rw [eqv_cell, decide_eq_true_iff] at e
    rw [← e]
    exact ha
  · intro h
    exact ⟨cellP c, List.mem_map_of_mem h, by rw [eqv_cell, decide_eq_true_iff]⟩
/-! ### == -/
section
variable {m : M}
theorem dEq_int {a b : Int} : dEq (.int a) (.int b) m = .ok (.bl (decide (a = b))) m := by
  unfold dEq eqD
  simp only [pyN, py_int, eqv_int]
theorem dEq_ints {p q : Nat} {as bs : List Int} (e : m[p]? = some (.lst (as.map D.int))) (f : m[q]? = some (.lst (bs.map D.int))) : dEq (.ref p) (.ref q) m = .ok (.bl (decide (as = bs))) m := by
  unfold dEq eqD pyN
  simp only [py_ints e, py_ints f, eqv_ints]
theorem dEq_cells {p q : Nat} {as bs : List Cell} (e : m[p]? = some (.lst (cellsD as))) (f : m[q]? = some (.lst (cellsD bs))) : dEq (.ref p) (.ref q) m = .ok (.bl (decide (as = bs))) m := by
  unfold dEq eqD pyN
  simp only [py_cells e, py_cells f, eqv_cells]
theorem dNe_cells {p q : Nat} {as bs : List Cell} (e : m[p]? = some (.lst (cellsD as))) (f : m[q]? = some (.lst (cellsD bs))) : dNe (.ref p) (.ref q) m = .ok (.bl (!decide (as = bs))) m := by
  unfold dNe eqD pyN
  simp only [py_cells e, py_cells f, eqv_cells]
theorem dEq_tcells {as bs : List Cell} : dEq (.tup (cellsD as)) (.tup (cellsD bs)) m = .ok (.bl (decide (as = bs))) m := by
  unfold dEq eqD pyN
  simp only [py_tcells, eqv_tcells]
theorem dIn_cells {q : Nat} {c : Cell} {cs : List Cell} (f : m[q]? = some (.lst (cellsD cs))) : dIn (cellD c) (.ref q) m = .ok (.bl (decide (c ∈ cs))) m := by
  unfold dIn inD pyN
  simp only [py_cells f, py_cell, anyEq_cells]
theorem dNotIn_cells {q : Nat} {c : Cell} {cs : List Cell} (f : m[q]? = some (.lst (cellsD cs))) : dNotIn (cellD c) (.ref q) m = .ok (.bl (!decide (c ∈ cs))) m := by
  unfold dNotIn inD pyN
  simp only [py_cells f, py_cell, anyEq_cells]
end
/-! ### dicts with cells as keys -/
def keyC (c : Cell) : List Key := [.inl c.1, .inl c.2]
theorem keyC_inj {a b : Cell} : keyC a = keyC b ↔ a = b := by
  unfold keyC
  constructor
  · intro h
    simp only [List.cons.injEq, Sum.inl.injEq, and_true] at h
    exact Prod.ext h.1 h.2
  · intro h
    rw [h]
theorem keyT_cell (c : Cell) : keyT (cellD c) = some (keyC c) := rfl
def setD (cs : List Cell) : List (List Key × D) := cs.map fun c => (keyC c, D.bl true)
theorem valD_set (c : Cell) : ∀ cs : List Cell, valD (setD cs) (keyC c) = if c ∈ cs then some (.bl true) else none
  | [] => rfl
  | a :: cs => by
    unfold setD
    simp only [List.map_cons, valD, keyC_inj]
    by_cases h : a = c
    · rw [if_pos h, if_pos (by rw [h]; exact List.mem_cons_self)]
    · rw [if_neg h]
      have := valD_set c cs
      unfold setD at this
      rw [this]
      by_cases q : c ∈ cs
      · rw [if_pos q, if_pos (List.mem_cons_of_mem _ q)]
      · rw [if_neg q, if_neg (by simp [q, Ne.symm h])]
theorem dropD_set (c : Cell) : ∀ cs : List Cell, dropD (setD cs) (keyC c) = setD (cs.filter fun x => decide (x ≠ c))
  | [] => rfl
  | a :: cs => by
    have ih := dropD_set c cs
    unfold setD at ih ⊢
    simp only [List.map_cons, dropD, keyC_inj]
    by_cases h : a = c
    · rw [if_pos h, ih, List.filter_cons_of_neg (by simp [h])]
    · rw [if_neg h, ih, List.filter_cons_of_pos (by simp [h])]
      rfl
theorem putD_set (c : Cell) : ∀ cs : List Cell, putD (setD cs) (keyC c) (.bl true) = setD (if c ∈ cs then cs else cs ++ [c])
  | [] => rfl
  | a :: cs => by
    have ih := putD_set c cs
    unfold setD at ih ⊢
    simp only [List.map_cons, putD, keyC_inj]
    by_cases h : a = c
    · rw [if_pos h, if_pos (by rw [h]; exact List.mem_cons_self), List.map_cons]
      congr 1
      rw [List.map_map]
      apply List.map_congr_left
      intro x _
      simp only [Function.comp]
      by_cases q : keyC x = keyC c
      · rw [if_pos q]
      · rw [if_neg q]
    · rw [if_neg h, ih]
      by_cases q : c ∈ cs
      · rw [if_pos q, if_pos (List.mem_cons_of_mem _ q), List.map_cons]
      · rw [if_neg q, if_neg (by simp [q, Ne.symm h]), List.cons_append, List.map_cons]
theorem setD_len (cs : List Cell) : (setD cs).length = cs.length := by simp [setD]
theorem dIn_set {m : M} {q : Nat} {c : Cell} {cs : List Cell} (f : m[q]? = some (.dT (setD cs))) : dIn (cellD c) (.ref q) m = .ok (.bl (decide (c ∈ cs))) m := by
  have h : lsAt m q = none := by unfold lsAt; rw [f]
  have e : py 8 (.ref q) m = none := by
    show (match lsAt m q with
      | some xs => (pyAll (fun d => py 7 d m) xs).map PyData.list
      | none => none) = _
    rw [h]
  unfold dIn inD pyN
  simp only [e, py_cell, dLook, f, keyT_cell, Option.map_some, valD_set]
  by_cases z : c ∈ cs <;> simp [z]
theorem dNotIn_set {m : M} {q : Nat} {c : Cell} {cs : List Cell} (f : m[q]? = some (.dT (setD cs))) : dNotIn (cellD c) (.ref q) m = .ok (.bl (!decide (c ∈ cs))) m := by
  have h : lsAt m q = none := by unfold lsAt; rw [f]
  have e : py 8 (.ref q) m = none := by
    show (match lsAt m q with
      | some xs => (pyAll (fun d => py 7 d m) xs).map PyData.list
      | none => none) = _
    rw [h]
  unfold dNotIn inD pyN
  simp only [e, py_cell, dLook, f, keyT_cell, Option.map_some, valD_set]
  by_cases z : c ∈ cs <;> simp [z]
theorem delD_set {m : M} {q : Nat} {c : Cell} {cs : List Cell} (f : m[q]? = some (.dT (setD cs))) (h : c ∈ cs) : delD (.ref q) (cellD c) m = some (m.set q (.dT (setD (cs.filter fun x => decide (x ≠ c))))) := by
  unfold delD
  simp only [f, keyT_cell, valD_set, if_pos h, Option.isSome_some, if_true, dropD_set]
/-! ### sorted cells -/
theorem pairsD_cells : ∀ cs : List Cell, pairsD (cellsD cs) = some cs
  | [] => rfl
  | c :: cs => by
    have ih := pairsD_cells cs
    unfold cellsD at ih ⊢
    simp only [List.map_cons, pairsD, ih]
    rfl
theorem bSorted_cells {m : M} {q : Nat} {cs : List Cell} (f : m[q]? = some (.lst (cellsD cs))) : bSorted [.ref q] m = .ok (.ref m.length) (m ++ [.lst (cellsD (sortC cs))]) := by
  show sortD (.ref q) m = _
  unfold sortD
  simp only [lstOf, lsAt_of f, pairsD_cells]
  rfl
theorem bTuple_cells {m : M} {q : Nat} {cs : List Cell} (f : m[q]? = some (.lst (cellsD cs))) : bTuple [.ref q] m = .ok (.tup (cellsD cs)) m := by
  show tupleD (.ref q) m = _
  unfold tupleD
  simp only [lstOf, lsAt_of f]
theorem keyDT_cell (c : Cell) : keyDT (keyC c) = cellD c := rfl
theorem bList_set {m : M} {q : Nat} {cs : List Cell} (f : m[q]? = some (.dT (setD cs))) : bList [.ref q] m = .ok (.ref m.length) (m ++ [.lst (cellsD cs)]) := by
  show listD (.ref q) m = _
  unfold listD
  simp only [f]
  simp [setD, cellsD, keyDT_cell, Function.comp_def]
theorem bList_lst {m : M} {q : Nat} {xs : List D} (f : m[q]? = some (.lst xs)) : bList [.ref q] m = .ok (.ref m.length) (m ++ [.lst xs]) := by
  show listD (.ref q) m = _
  unfold listD
  simp only [f]
theorem bList_tup {m : M} {xs : List D} : bList [.tup xs] m = .ok (.ref m.length) (m ++ [.lst xs]) := by
  rfl
/-! ### subscripts -/
theorem ixN_nat {n j : Nat} (h : j < n) : ixN n (j : Int) = some j := by
  unfold ixN
  rw [if_pos (by omega), if_pos (by omega)]
  simp
theorem ixN_zero {n : Nat} (h : 0 < n) : ixN n 0 = some 0 := ixN_nat (j := 0) h
theorem ixD_nat {x : D} {m : M} {xs : List D} {j : Nat} {d : D} (h : itemsOf x m = some xs) (e : xs[j]? = some d) : ixD x (.int (j : Int)) m = .ok d m := by
  unfold ixD
  have q : atI xs (j : Int) = some d := by
    unfold atI
    rw [ixN_nat (List.getElem?_eq_some_iff.mp e).1]
    exact e
  simp only [h, q]
theorem ixD_zero {x : D} {m : M} {xs : List D} {d : D} (h : itemsOf x m = some (d :: xs)) : ixD x (.int 0) m = .ok d m := ixD_nat (j := 0) h rfl
theorem items_ref {m : M} {n : Nat} {xs : List D} (e : m[n]? = some (.lst xs)) : itemsOf (.ref n) m = some xs := lsAt_of e
theorem popAt_zero {m : M} {n : Nat} {d : D} {r : List D} (e : m[n]? = some (.lst (d :: r))) : popAtD (.ref n) (.int 0) m = .ok d (m.set n (.lst r)) := by
  unfold popAtD
  have q : seqIndex? 0 (d :: r).length = some 0 := by
    unfold seqIndex?
    simp
  simp only [lsAt_of e, q]
  rw [if_pos (by decide)]
  rfl
theorem store_zero {m : M} {n : Nat} {d d0 : D} {r : List D} (e : m[n]? = some (.lst (d0 :: r))) : storeD (.ref n) (.int 0) d m = some (m.set n (.lst (d :: r))) := by
  unfold storeD
  have q : ixN (d0 :: r).length 0 = some 0 := ixN_zero (by simp)
  simp only [e, q]
  rfl
theorem app_ok {m : M} {n : Nat} {xs : List D} {y : D} (e : m[n]? = some (.lst xs)) (h : xs.length < cap) : appD (.ref n) y m = .ok .non (m.set n (.lst (xs ++ [y]))) := by
  unfold appD
  simp only [lsAt_of e]
  rw [if_pos h]
theorem len_lst {m : M} {n : Nat} {xs : List D} (e : m[n]? = some (.lst xs)) : bLen [.ref n] m = .ok (.int xs.length) m := by
  show lenD (.ref n) m = _
  unfold lenD
  simp only [e]
theorem add_lst {m : M} {a b : Nat} {xs ys : List D} (e : m[a]? = some (.lst xs)) (f : m[b]? = some (.lst ys)) (h : xs.length + ys.length ≤ cap) : dAdd (.ref a) (.ref b) m = .ok (.ref m.length) (m ++ [.lst (xs ++ ys)]) := by
  unfold dAdd
  simp only [lsAt_of e, lsAt_of f]
  rw [if_pos h]
end PD
end

section
set_option maxHeartbeats 200000
/-! Loops and comprehensions, told by what stands between the turns. -/
namespace PD
open PySem L2

theorem loopI_inv {t : TD} {body : DS} (P : Nat → DSt → M → Prop) : ∀ (xs : List D) (i : Nat) (δ : DSt) (m : M), P i δ m →
    (∀ j x δ m, xs[j]? = some x → P (i + j) δ m → ∃ δ1, t x δ = some δ1 ∧ ∃ δ2 m2, body δ1 m = .nx δ2 m2 ∧ P (i + j + 1) δ2 m2) → ∃ δ' m', loopI t body xs δ m = .nx δ' m' ∧ P (i + xs.length) δ' m'
  | [], i, δ, m, h, _ => ⟨δ, m, rfl, h⟩
  | x :: xs, i, δ, m, h, k => by
    obtain ⟨δ1, e1, δ2, m2, e2, h2⟩ := k 0 x δ m rfl h
    obtain ⟨δ', m', e3, h3⟩ := loopI_inv P xs (i + 1) δ2 m2 h2 fun j y δ m hj hp => by
      have := k (j + 1) y δ m (by simpa using hj) (by rw [show i + (j + 1) = i + 1 + j from by omega]; exact hp)
      rw [show i + (j + 1) + 1 = i + 1 + j + 1 from by omega] at this
      exact this
    refine ⟨δ', m', ?_, by rw [show i + (x :: xs).length = i + 1 + xs.length from by simp; omega]; exact h3⟩
    unfold loopI
    simp only [e1, e2, after_nx]
    exact e3
theorem loopL_inv {t : TD} {body : DS} {n : Nat} {xs : List D} (P : Nat → DSt → M → Prop) (hl : ∀ i δ m, P i δ m → lsAt m n = some xs)
    (hs : ∀ i x δ m, xs[i]? = some x → P i δ m → ∃ δ1, t x δ = some δ1 ∧ ∃ δ2 m2, body δ1 m = .nx δ2 m2 ∧ P (i + 1) δ2 m2) : ∀ (k i : Nat) (δ : DSt) (m : M), k + i = xs.length → P i δ m → ∃ δ' m', loopL t body n k i δ m = .nx δ' m' ∧ P xs.length δ' m'
  | 0, i, δ, m, e, h => by
    refine ⟨δ, m, ?_, by rw [← e]; simpa using h⟩
    unfold loopL
    have q : xs[i]? = none := List.getElem?_eq_none (by omega)
    simp only [hl i δ m h, q]
  | k + 1, i, δ, m, e, h => by
    have hi : i < xs.length := by omega
    obtain ⟨δ1, e1, δ2, m2, e2, h2⟩ := hs i xs[i] δ m (List.getElem?_eq_getElem hi) h
    obtain ⟨δ', m', e3, h3⟩ := loopL_inv P hl hs k (i + 1) δ2 m2 (by omega) h2
    refine ⟨δ', m', ?_, h3⟩
    unfold loopL
    simp only [hl i δ m h, List.getElem?_eq_getElem hi, e1, e2, after_nx]
    exact e3
/-- what an iterator walks -/
def srcI (I : ItD) (m : M) : Option (List D) := match I with
  | .items xs => some xs
  | .live n => lsAt m n
/-- for x in ..: the list that is walked stands still -/
theorem sFor_inv {it : DSt → M → Out ItD} {t : TD} {body : DS} {δ : DSt} {m m1 : M} {I : ItD} {xs : List D} (hi : it δ m = .ok I m1) (hx : srcI I m1 = some xs) (P : Nat → DSt → M → Prop) (h0 : P 0 δ m1) (hl : ∀ i δ m, P i δ m → srcI I m = some xs)
    (hs : ∀ i x δ m, xs[i]? = some x → P i δ m → ∃ δ1, t x δ = some δ1 ∧ ∃ δ2 m2, body δ1 m = .nx δ2 m2 ∧ P (i + 1) δ2 m2) : ∃ δ' m', sFor it t body δ m = .nx δ' m' ∧ P xs.length δ' m' := by
  unfold sFor
  rw [hi, toS_ok]
  cases I with
  | items ys =>
    cases hx
    obtain ⟨δ', m', e, h⟩ := loopI_inv (t := t) (body := body) P xs 0 δ m1 h0 fun j x δ m hj hp => by
      rw [Nat.zero_add] at hp ⊢
      exact hs j x δ m hj hp
    rw [Nat.zero_add] at h
    exact ⟨δ', m', e, h⟩
  | live n =>
    have hx' : lsAt m1 n = some xs := hx
    simp only [hx']
    exact loopL_inv P hl hs xs.length 0 δ m1 (by omega) h0
theorem itemAt_src {I : ItD} {m l : M} {xs : List D} (h : srcI I m = some xs) (i : Nat) : itemAt I i (m ++ l) = some xs[i]? := by
  cases I with
  | items ys => cases h; rfl
  | live n =>
    have h' : lsAt m n = some xs := h
    show (lsAt (m ++ l) n).map (·[i]?) = _
    rw [lsAt_of (get_old (lsAt_ok h'))]
    rfl
theorem itemsN_src {I : ItD} {m : M} {xs : List D} (h : srcI I m = some xs) : itemsN I m = xs.length := by
  cases I with
  | items ys => cases h; rfl
  | live n =>
    have h' : lsAt m n = some xs := h
    show (match lsAt m n with | some xs => xs.length | none => 0) = _
    rw [h']
theorem set_new {m : M} {o u : MO} : (m ++ [o]).set m.length u = m ++ [u] := by
  rw [List.set_append_right _ _ (Nat.le_refl _)]
  simp
theorem compG_pure {I : ItD} {t : TD} {test : DB} {elt : DE} {δw : DSt} {m : M} {xs : List D} {b : D → Bool} {f : D → D} (hx : srcI I m = some xs) (hc : xs.length ≤ cap)
    (h : ∀ x ∈ xs, ∃ δ1, t x δw = some δ1 ∧ ∀ acc, test δ1 (m ++ [.lst acc]) = .ok (b x) (m ++ [.lst acc]) ∧ (b x = true → elt δ1 (m ++ [.lst acc]) = .ok (f x) (m ++ [.lst acc]))) :
    ∀ (k i : Nat) (acc : List D), k + i = xs.length → acc.length ≤ i → compG I t test elt m.length δw k i (m ++ [.lst acc]) = .ok () (m ++ [.lst (acc ++ ((xs.drop i).filter b).map f)])
  | 0, i, acc, e, ha => by
    unfold compG
    have q : xs[i]? = none := List.getElem?_eq_none (by omega)
    rw [List.drop_eq_nil_of_le (by omega)]
    simp only [itemAt_src hx, q]
    simp
  | k + 1, i, acc, e, ha => by
    have hi : i < xs.length := by omega
    obtain ⟨δ1, e1, h2⟩ := h xs[i] (List.getElem_mem hi)
    obtain ⟨e2, e3⟩ := h2 acc
    rw [List.drop_eq_getElem_cons hi]
    unfold compG
    simp only [itemAt_src hx, List.getElem?_eq_getElem hi, e1, e2]
    cases hb : b xs[i] with
    | true =>
      have q : pushD m.length (f xs[i]) (m ++ [.lst acc]) = some (m ++ [.lst (acc ++ [f xs[i]])]) := by
        unfold pushD
        rw [lsAt_of get_new]
        simp only [set_new]
        rw [if_pos (by omega)]
      simp only [e3 hb, q]
      rw [compG_pure hx hc h k (i + 1) (acc ++ [f xs[i]]) (by omega) (by simp; omega), List.filter_cons_of_pos hb]
      simp
    | false =>
      simp only []
      rw [compG_pure hx hc h k (i + 1) acc (by omega) (by omega), List.filter_cons_of_neg (by simp [hb])]
/-- [f(x) for x in xs if b(x)], nothing else is made -/
theorem dLc_pure {it : DSt → M → Out ItD} {I : ItD} {t : TD} {vs : List Nat} {test : DB} {elt : DE} {δ : DSt} {m m0 : M} {xs : List D} (b : D → Bool) (f : D → D) (hi : it δ m0 = .ok I m) (hx : srcI I m = some xs) (hc : xs.length ≤ cap)
    (h : ∀ x ∈ xs, ∃ δ1, t x (wipeD δ vs) = some δ1 ∧ ∀ acc, test δ1 (m ++ [.lst acc]) = .ok (b x) (m ++ [.lst acc]) ∧ (b x = true → elt δ1 (m ++ [.lst acc]) = .ok (f x) (m ++ [.lst acc]))) :
    dLc it t vs test elt δ m0 = .ok (.ref m.length) (m ++ [.lst ((xs.filter b).map f)]) := by
  unfold dLc
  rw [hi, bind_ok, itemsN_src hx, compG_pure hx hc h xs.length 0 [] (by omega) (by simp), bind_ok]
  simp
theorem compGD_pure {I : ItD} {t : TD} {ke ve : DE} {δw : DSt} {m : M} {cs : List Cell} (hx : srcI I m = some (cellsD cs)) (hc : cs.length ≤ cap)
    (h : ∀ c ∈ cs, ∃ δ1, t (cellD c) δw = some δ1 ∧ ∀ m', ke δ1 m' = .ok (cellD c) m' ∧ ve δ1 m' = .ok (.bl true) m') :
    ∀ (k i : Nat) (ds : List Cell), k + i = cs.length → ds.length ≤ i → ∃ es, compGD I t bYes ke ve m.length δw k i (m ++ [.dT (setD ds)]) = .ok () (m ++ [.dT (setD es)]) ∧ (∀ x, x ∈ es ↔ x ∈ ds ∨ x ∈ cs.drop i) ∧ (ds.Nodup → es.Nodup) ∧ es.length ≤ cs.length
  | 0, i, ds, e, ha => by
    refine ⟨ds, ?_, fun x => by rw [List.drop_eq_nil_of_le (by omega)]; simp, id, by omega⟩
    unfold compGD
    have q : (cellsD cs)[i]? = none := List.getElem?_eq_none (by simp [cellsD]; omega)
    simp only [itemAt_src hx, q]
  | k + 1, i, ds, e, ha => by
    have hi : i < cs.length := by omega
    obtain ⟨δ1, e1, h2⟩ := h cs[i] (List.getElem_mem hi)
    have q : (cellsD cs)[i]? = some (cellD cs[i]) := by unfold cellsD; rw [List.getElem?_map, List.getElem?_eq_getElem hi]; rfl
    have p : putAt m.length (cellD cs[i]) (.bl true) (m ++ [.dT (setD ds)]) = some (m ++ [.dT (setD (if cs[i] ∈ ds then ds else ds ++ [cs[i]]))]) := by
      unfold putAt
      rw [show (m ++ [MO.dT (setD ds)])[m.length]? = some (MO.dT (setD ds)) from get_new]
      simp only [keyT_cell, setD_len, putD_set, set_new]
      rw [if_pos (by omega)]
    have la : (if cs[i] ∈ ds then ds else ds ++ [cs[i]]).length ≤ i + 1 := by
      by_cases z : cs[i] ∈ ds
      · rw [if_pos z]
        omega
      · rw [if_neg z, List.length_append, List.length_singleton]
        omega
    obtain ⟨es, e3, h3, h4, h5⟩ := compGD_pure hx hc h k (i + 1) (if cs[i] ∈ ds then ds else ds ++ [cs[i]]) (by omega) la
    refine ⟨es, ?_, fun x => ?_, fun nd => h4 ?_, h5⟩
    · unfold compGD
      simp only [itemAt_src hx, q, e1, bYes, (h2 _).1, (h2 _).2, p]
      exact e3
    · rw [h3, List.drop_eq_getElem_cons hi, List.mem_cons]
      by_cases z : cs[i] ∈ ds
      · rw [if_pos z]
        constructor
        · rintro (h | h)
          · exact .inl h
          · exact .inr (.inr h)
        · rintro (h | rfl | h)
          · exact .inl h
          · exact .inl z
          · exact .inr h
      · rw [if_neg z, List.mem_append, List.mem_singleton, or_assoc]
    · by_cases z : cs[i] ∈ ds
      · rw [if_pos z]; exact nd
      · rw [if_neg z, List.nodup_append]
        exact ⟨nd, by simp, fun a ha b hb => by simp at hb; subst hb; exact fun q => z (q ▸ ha)⟩
/-- {c: True for c in cs} -/
theorem dDc_set {it : DSt → M → Out ItD} {I : ItD} {t : TD} {vs : List Nat} {ke ve : DE} {δ : DSt} {m m0 : M} {cs : List Cell} (hi : it δ m0 = .ok I m) (hx : srcI I m = some (cellsD cs)) (hc : cs.length ≤ cap)
    (h : ∀ c ∈ cs, ∃ δ1, t (cellD c) (wipeD δ vs) = some δ1 ∧ ∀ m', ke δ1 m' = .ok (cellD c) m' ∧ ve δ1 m' = .ok (.bl true) m') :
    ∃ es, dDc true it t vs bYes ke ve δ m0 = .ok (.ref m.length) (m ++ [.dT (setD es)]) ∧ (∀ x, x ∈ es ↔ x ∈ cs) ∧ es.Nodup ∧ es.length ≤ cs.length := by
  obtain ⟨es, e, h1, h2, h3⟩ := compGD_pure hx hc h cs.length 0 [] (by omega) (by simp)
  refine ⟨es, ?_, fun x => by rw [h1]; simp, h2 List.nodup_nil, h3⟩
  have e' : compGD I t bYes ke ve m.length (wipeD δ vs) cs.length 0 (m ++ [empD true]) = .ok () (m ++ [.dT (setD es)]) := e
  unfold dDc
  rw [hi, bind_ok, itemsN_src hx, show (cellsD cs).length = cs.length from by simp [cellsD], e', bind_ok]
/-- while: turn i stands at P i, there are no more than N turns -/
theorem loopW_inv {t : DB} {body : DS} {N : Nat} (P : Nat → DSt → M → Prop) (Q : DSt → M → Prop) (hN : ∀ i δ m, P i δ m → i ≤ N)
    (hs : ∀ i δ m, P i δ m → (∃ m1, t δ m = .ok true m1 ∧ ∃ δ2 m2, body δ m1 = .nx δ2 m2 ∧ P (i + 1) δ2 m2) ∨ ∃ m1, t δ m = .ok false m1 ∧ Q δ m1) : ∀ (k i : Nat) (δ : DSt) (m : M), N < k + i → P i δ m → ∃ δ' m', loopW t body k δ m = .nx δ' m' ∧ Q δ' m'
  | 0, i, δ, m, hk, h => by
    have := hN i δ m h
    omega
  | k + 1, i, δ, m, hk, h => by
    rcases hs i δ m h with ⟨m1, e1, δ2, m2, e2, h2⟩ | ⟨m1, e1, q⟩
    · obtain ⟨δ', m', e3, h3⟩ := loopW_inv P Q hN hs k (i + 1) δ2 m2 (by omega) h2
      refine ⟨δ', m', ?_, h3⟩
      unfold loopW
      simp only [e1, toS_ok, if_true, e2, after_nx]
      exact e3
    · refine ⟨δ, m1, ?_, q⟩
      unfold loopW
      simp only [e1, toS_ok]
      rfl
theorem aNil_ap {δ : DSt} {m : M} : aNil δ m = .ok [] m := rfl
theorem aCons_ap {f : DE} {fs : DA} {δ : DSt} {m : M} : aCons f fs δ m = (f δ m).bind fun x m1 => (fs δ m1).bind fun xs m2 => .ok (x :: xs) m2 := rfl
theorem args1 {f : DE} {δ : DSt} {m m1 : M} {x : D} (e : f δ m = .ok x m1) : aCons f aNil δ m = .ok [x] m1 := by
  rw [aCons_ap, e]
  rfl
theorem args2 {f g : DE} {δ : DSt} {m m1 m2 : M} {x y : D} (e : f δ m = .ok x m1) (e2 : g δ m1 = .ok y m2) : aCons f (aCons g aNil) δ m = .ok [x, y] m2 := by
  rw [aCons_ap, e, bind_ok, args1 e2]
  rfl
theorem call_of {F : FD} {fs : DA} {δ : DSt} {m m1 : M} {xs : List D} (e : fs δ m = .ok xs m1) : dCall F fs δ m = F xs m1 := by
  unfold dCall
  rw [e, bind_ok]
/-- a comprehension whose items make things -/
theorem compG_inv {I : ItD} {t : TD} {test : DB} {elt : DE} {nD : Nat} {δw : DSt} {xs : List D} (P : Nat → M → Prop) (hI : ∀ i m, P i m → itemAt I i m = some xs[i]?)
    (hs : ∀ i x m, xs[i]? = some x → P i m → ∃ δ1, t x δw = some δ1 ∧ test δ1 m = .ok true m ∧ ∃ y m2, elt δ1 m = .ok y m2 ∧ ∃ m3, pushD nD y m2 = some m3 ∧ P (i + 1) m3) :
    ∀ (k i : Nat) (m : M), k + i = xs.length → P i m → ∃ m', compG I t test elt nD δw k i m = .ok () m' ∧ P xs.length m'
  | 0, i, m, e, h => by
    refine ⟨m, ?_, by rw [← e]; simpa using h⟩
    unfold compG
    have q : xs[i]? = none := List.getElem?_eq_none (by omega)
    simp only [hI i m h, q]
  | k + 1, i, m, e, h => by
    have hi : i < xs.length := by omega
    obtain ⟨δ1, e1, e2, y, m2, e3, m3, e4, h2⟩ := hs i xs[i] m (List.getElem?_eq_getElem hi) h
    obtain ⟨m', e5, h3⟩ := compG_inv P hI hs k (i + 1) m3 (by omega) h2
    refine ⟨m', ?_, h3⟩
    unfold compG
    simp only [hI i m h, List.getElem?_eq_getElem hi, e1, e2, e3, e4]
    exact e5
end PD
end

section
set_option maxHeartbeats 200000
namespace NP
open PySem L2 PD
/-! ### _law_draw -/
def PoolAt (m : M) (p : Nat) : Prop := ∃ ns : List Int, m[p]? = some (.lst (ns.map D.int)) ∧ (∀ n ∈ ns, 0 ≤ n) ∧ ns.length ≤ 100
theorem ix_head {m : M} {p : Nat} {n : Int} {r : List D} (e : m[p]? = some (.lst (.int n :: r))) : ixD (.ref p) (.int 0) m = .ok (.int n) m := ixD_zero (items_ref e)
theorem draw_ok {m : M} {p : Nat} {k : Int} (hp : PoolAt m p) (hk : 0 < k) (hk2 : k < 1073741824) : ∃ d m', F__law_draw [.ref p, .int k] m = .ok (.int d) m' ∧ 0 ≤ d ∧ d < k ∧ PoolAt m' p ∧ Kp [p] m m' := by
  obtain ⟨ns, e, hn, hl⟩ := hp
  have e1 : (m ++ [MO.lst []])[p]? = some (.lst (ns.map D.int)) := get_old e
  have e2 : (m ++ [MO.lst []])[m.length]? = some (.lst (([] : List Int).map D.int)) := get_new
  have c0 : (0 : Nat) ≤ cap := Nat.zero_le _
  cases ns with
  | nil =>
    refine ⟨0, m ++ [.lst []], ?_, Int.le_refl _, hk, ⟨[], e1, by simp, by simp⟩, Kp.app⟩
    simp only [F__law_draw, den__law_draw, bodyF, PD.sFld, PD.sAug, dFld, SO.out, dVar, dC, PD.d2, PD.d1, aNil_ap, aCons_ap, dTup, dLst, dCall, dAndV, dOrV, dNotV, dIf, dChain, dB, bNot, bAnd, bOr, sSkip, sSeq, sAsg, sExpr, sRet, sRetN, sIf, sBrk, sCont, sTgt, gN, gT, gsCons, gsNil, tupItems, sStore, sDel, dLm, dLm0, on1, on2, dInt2, dInt2c, dNeg, boolD, iSeq, PD.iRng1, iRange1, bInt, intD, bAbs, absD, bind_ok, toS_ok, List.map_cons, List.map_nil, List.cons_append, List.nil_append, List.replicate, List.getElem?_cons_zero, List.getElem?_cons_succ, List.set_cons_zero, List.set_cons_succ, List.length_cons, List.length_nil, if_true, if_false, Option.bind_some, Bool.false_eq_true, decide_true, decide_false, Bool.not_true, Bool.not_false, if_pos c0, dEq_ints e1 e2]
  | cons n r =>
    have hn0 : 0 ≤ n := hn n List.mem_cons_self
    have q0 : ixD (.ref p) (.int 0) (m ++ [.lst []]) = .ok (.int n) (m ++ [.lst []]) := ix_head e1
    have e3 : ((m ++ [MO.lst []]).set p (.lst (.int (n / k) :: r.map D.int)))[p]? = some (.lst (.int (n / k) :: r.map D.int)) := get_set e1
    have q1 := ix_head e3
    have st : storeD (.ref p) (.int 0) (.int (n / k)) (m ++ [.lst []]) = some ((m ++ [MO.lst []]).set p (.lst (.int (n / k) :: r.map D.int))) := store_zero e1
    have ck : decide (0 < k) = true := decide_eq_true hk
    have ck2 : decide (0 < k ∧ k < 1073741824) = true := decide_eq_true ⟨hk, hk2⟩
    have ne : decide (n :: r = ([] : List Int)) = false := rfl
    have kp1 : Kp [p] m ((m ++ [MO.lst []]).set p (.lst (.int (n / k) :: r.map D.int))) := Kp.app.trans (Kp.set (by simp))
    have pp := popAt_zero e3
    by_cases z : n / k = 0
    · refine ⟨n % k, (((m ++ [MO.lst []]).set p (.lst (.int (n / k) :: r.map D.int))).set p (.lst (r.map D.int))), ?_, Int.emod_nonneg _ (by omega), Int.emod_lt_of_pos _ hk, ⟨r, get_set e3, fun x hx => hn x (List.mem_cons_of_mem _ hx), by simp at hl; omega⟩, kp1.trans (Kp.set (by simp))⟩
      have z' : decide (n / k = 0) = true := decide_eq_true z
      simp only [F__law_draw, den__law_draw, bodyF, PD.sFld, PD.sAug, dFld, SO.out, dVar, dC, PD.d2, PD.d1, aNil_ap, aCons_ap, dTup, dLst, dCall, dAndV, dOrV, dNotV, dIf, dChain, dB, bNot, bAnd, bOr, sSkip, sSeq, sAsg, sExpr, sRet, sRetN, sIf, sBrk, sCont, sTgt, gN, gT, gsCons, gsNil, tupItems, sStore, sDel, dLm, dLm0, on1, on2, dInt2, dInt2c, dNeg, boolD, iSeq, PD.iRng1, iRange1, bInt, intD, bAbs, absD, bind_ok, toS_ok, List.map_cons, List.map_nil, List.cons_append, List.nil_append, List.replicate, List.getElem?_cons_zero, List.getElem?_cons_succ, List.set_cons_zero, List.set_cons_succ, List.length_cons, List.length_nil, if_true, if_false, Option.bind_some, Bool.false_eq_true, decide_true, decide_false, Bool.not_true, Bool.not_false, if_pos c0, dEq_ints e1 e2, ne, q0, ck, ck2, st, q1, dEq_int, z', pp, lsAt_of e3]
    · refine ⟨n % k, ((m ++ [MO.lst []]).set p (.lst (.int (n / k) :: r.map D.int))), ?_, Int.emod_nonneg _ (by omega), Int.emod_lt_of_pos _ hk, ⟨n / k :: r, e3, fun x hx => ?_, by simpa using hl⟩, kp1⟩
      · have z' : decide (n / k = 0) = false := decide_eq_false z
        simp only [F__law_draw, den__law_draw, bodyF, PD.sFld, PD.sAug, dFld, SO.out, dVar, dC, PD.d2, PD.d1, aNil_ap, aCons_ap, dTup, dLst, dCall, dAndV, dOrV, dNotV, dIf, dChain, dB, bNot, bAnd, bOr, sSkip, sSeq, sAsg, sExpr, sRet, sRetN, sIf, sBrk, sCont, sTgt, gN, gT, gsCons, gsNil, tupItems, sStore, sDel, dLm, dLm0, on1, on2, dInt2, dInt2c, dNeg, boolD, iSeq, PD.iRng1, iRange1, bInt, intD, bAbs, absD, bind_ok, toS_ok, List.map_cons, List.map_nil, List.cons_append, List.nil_append, List.replicate, List.getElem?_cons_zero, List.getElem?_cons_succ, List.set_cons_zero, List.set_cons_succ, List.length_cons, List.length_nil, if_true, if_false, Option.bind_some, Bool.false_eq_true, decide_true, decide_false, Bool.not_true, Bool.not_false, if_pos c0, dEq_ints e1 e2, ne, q0, ck, ck2, st, q1, dEq_int, z']
      · rcases List.mem_cons.mp hx with rfl | hx
        · exact Int.ediv_nonneg hn0 (by omega)
        · exact hn x (List.mem_cons_of_mem _ hx)
/-! ### cells -/
def okC (c : Cell) : Prop := -120 ≤ c.1 ∧ c.1 ≤ 120 ∧ -120 ≤ c.2 ∧ c.2 ≤ 120
theorem cellD_eq (c : Cell) : cellD c = .tup [.int c.1, .int c.2] := rfl
theorem check_cell_ok {c : Cell} {m : M} (h : okC c) : F_check_cell [cellD c] m = .ok .non m := by
  obtain ⟨h1, h2, h3, h4⟩ := h
  have g1 := decide_eq_true h1
  have g2 := decide_eq_true h2
  have g3 := decide_eq_true h3
  have g4 := decide_eq_true h4
  simp only [F_check_cell, den_check_cell, cellD_eq, bodyF, PD.sFld, PD.sAug, dFld, SO.out, dVar, dC, PD.d2, PD.d1, aNil_ap, aCons_ap, dTup, dLst, dCall, dAndV, dOrV, dNotV, dIf, dChain, dB, bNot, bAnd, bOr, sSkip, sSeq, sAsg, sExpr, sRet, sRetN, sIf, sBrk, sCont, sTgt, gN, gT, gsCons, gsNil, tupItems, sStore, sDel, dLm, dLm0, on1, on2, dInt2, dInt2c, dNeg, boolD, iSeq, PD.iRng1, iRange1, bInt, intD, bAbs, absD, bind_ok, toS_ok, List.map_cons, List.map_nil, List.cons_append, List.nil_append, List.replicate, List.getElem?_cons_zero, List.getElem?_cons_succ, List.set_cons_zero, List.set_cons_succ, List.length_cons, List.length_nil, if_true, if_false, Option.bind_some, Bool.false_eq_true, decide_true, decide_false, Bool.not_true, Bool.not_false, g1, g2, g3, g4]
theorem on_shore_ok {c : Cell} {m : M} : F__on_shore [cellD c] m = .ok (.bl (decide (c.1 < 0))) m := by
  have q : ixD (cellD c) (.int 0) m = .ok (.int c.1) m := ixD_zero (xs := [.int c.2]) rfl
  simp only [F__on_shore, den__on_shore, bodyF, PD.sFld, PD.sAug, dFld, SO.out, dVar, dC, PD.d2, PD.d1, aNil_ap, aCons_ap, dTup, dLst, dCall, dAndV, dOrV, dNotV, dIf, dChain, dB, bNot, bAnd, bOr, sSkip, sSeq, sAsg, sExpr, sRet, sRetN, sIf, sBrk, sCont, sTgt, gN, gT, gsCons, gsNil, tupItems, sStore, sDel, dLm, dLm0, on1, on2, dInt2, dInt2c, dNeg, boolD, iSeq, PD.iRng1, iRange1, bInt, intD, bAbs, absD, bind_ok, toS_ok, List.map_cons, List.map_nil, List.cons_append, List.nil_append, List.replicate, List.getElem?_cons_zero, List.getElem?_cons_succ, List.set_cons_zero, List.set_cons_succ, List.length_cons, List.length_nil, if_true, if_false, Option.bind_some, Bool.false_eq_true, decide_true, decide_false, Bool.not_true, Bool.not_false, q]
def nearC (c : Cell) : List Cell := [(c.1 + 1, c.2), (c.1, c.2 + 1), (c.1 - 1, c.2), (c.1, c.2 - 1)]
theorem cap1 {n : Nat} (h : n ≤ 100000) : n ≤ cap := Nat.le_trans h (by decide)
theorem neighbours_ok {c : Cell} {m : M} (h : okC c) : F_neighbours [cellD c] m = .ok (.ref m.length) (m ++ [.lst (cellsD (nearC c))]) := by
  have c2 : (0 + 1 + 1 : Nat) ≤ cap := by decide
  have c4 : (0 + 1 + 1 + 1 + 1 : Nat) ≤ cap := by decide
  have k := check_cell_ok (m := m) h
  have q : cellsD (nearC c) = [.tup [.int (c.1 + 1), .int c.2], .tup [.int c.1, .int (c.2 + 1)], .tup [.int (c.1 - 1), .int c.2], .tup [.int c.1, .int (c.2 - 1)]] := rfl
  rw [q]
  rw [cellD_eq] at k ⊢
  simp only [F_neighbours, den_neighbours, bodyF, PD.sFld, PD.sAug, dFld, SO.out, dVar, dC, PD.d2, PD.d1, aNil_ap, aCons_ap, dTup, dLst, dCall, dAndV, dOrV, dNotV, dIf, dChain, dB, bNot, bAnd, bOr, sSkip, sSeq, sAsg, sExpr, sRet, sRetN, sIf, sBrk, sCont, sTgt, gN, gT, gsCons, gsNil, tupItems, sStore, sDel, dLm, dLm0, on1, on2, dInt2, dInt2c, dNeg, boolD, iSeq, PD.iRng1, iRange1, bInt, intD, bAbs, absD, bind_ok, toS_ok, List.map_cons, List.map_nil, List.cons_append, List.nil_append, List.replicate, List.getElem?_cons_zero, List.getElem?_cons_succ, List.set_cons_zero, List.set_cons_succ, List.length_cons, List.length_nil, if_true, if_false, Option.bind_some, Bool.false_eq_true, decide_true, decide_false, Bool.not_true, Bool.not_false, k, dAdd, dSub, if_pos c2, if_pos c4]
theorem near_ok {c : Cell} {m : M} : F__law_near [cellD c] m = .ok (.ref m.length) (m ++ [.lst (cellsD (nearC c))]) := by
  have c2 : (0 + 1 + 1 : Nat) ≤ cap := by decide
  have c4 : (0 + 1 + 1 + 1 + 1 : Nat) ≤ cap := by decide
  have q0 : ixD (cellD c) (.int 0) m = .ok (.int c.1) m := ixD_zero (xs := [.int c.2]) rfl
  have q1 : ixD (cellD c) (.int 1) m = .ok (.int c.2) m := ixD_nat (j := 1) (xs := [.int c.1, .int c.2]) rfl rfl
  have q : cellsD (nearC c) = [.tup [.int (c.1 + 1), .int c.2], .tup [.int c.1, .int (c.2 + 1)], .tup [.int (c.1 - 1), .int c.2], .tup [.int c.1, .int (c.2 - 1)]] := rfl
  rw [q]
  simp only [F__law_near, den__law_near, bodyF, PD.sFld, PD.sAug, dFld, SO.out, dVar, dC, PD.d2, PD.d1, aNil_ap, aCons_ap, dTup, dLst, dCall, dAndV, dOrV, dNotV, dIf, dChain, dB, bNot, bAnd, bOr, sSkip, sSeq, sAsg, sExpr, sRet, sRetN, sIf, sBrk, sCont, sTgt, gN, gT, gsCons, gsNil, tupItems, sStore, sDel, dLm, dLm0, on1, on2, dInt2, dInt2c, dNeg, boolD, iSeq, PD.iRng1, iRange1, bInt, intD, bAbs, absD, bind_ok, toS_ok, List.map_cons, List.map_nil, List.cons_append, List.nil_append, List.replicate, List.getElem?_cons_zero, List.getElem?_cons_succ, List.set_cons_zero, List.set_cons_succ, List.length_cons, List.length_nil, if_true, if_false, Option.bind_some, Bool.false_eq_true, decide_true, decide_false, Bool.not_true, Bool.not_false, q0, q1, dAdd, dSub, if_pos c2, if_pos c4]
/-- something that is walked as these cells -/
inductive Walks (m : M) : D → List Cell → Prop where
  | lst {n : Nat} {cs : List Cell} (e : m[n]? = some (.lst (cellsD cs))) : Walks m (.ref n) cs
  | tup {cs : List Cell} : Walks m (.tup (cellsD cs)) cs
  | wt : Walks m (.wt []) []
theorem Walks.it {m : M} {x : D} {cs : List Cell} (w : Walks m x cs) : ∃ I, iterD x m = .ok I m ∧ srcI I m = some (cellsD cs) := by
  cases w with
  | lst e =>
    rename_i n
    refine ⟨.live n, ?_, lsAt_of e⟩
    unfold iterD
    simp only [lsAt_of e]
  | tup => exact ⟨.items (cellsD cs), rfl, rfl⟩
  | wt => exact ⟨.items [], rfl, rfl⟩
theorem Walks.len {m : M} {x : D} {cs : List Cell} (w : Walks m x cs) : bLen [x] m = .ok (.int cs.length) m := by
  cases w with
  | lst e => rw [len_lst e]; simp [cellsD]
  | tup =>
    show Out.ok (D.int (cellsD cs).length) m = _
    simp [cellsD]
  | wt => rfl
theorem Walks.keep {S : List Nat} {m m' : M} {x : D} {cs : List Cell} (w : Walks m x cs) (k : Kp S m m') (h : ∀ n, x = .ref n → n ∉ S) : Walks m' x cs := by
  cases w with
  | lst e => exact .lst (k.get e (h _ rfl))
  | tup => exact .tup
  | wt => exact .wt
theorem cellsD_at {cs : List Cell} {i : Nat} {x : D} (h : (cellsD cs)[i]? = some x) : ∃ c, c ∈ cs ∧ x = cellD c ∧ cs[i]? = some c := by
  unfold cellsD at h
  rw [List.getElem?_map] at h
  cases e : cs[i]? with
  | none => rw [e] at h; cases h
  | some c =>
    rw [e] at h
    cases h
    exact ⟨c, List.mem_of_getElem? e, rfl, rfl⟩
theorem check_cells_ok {x : D} {m : M} {cs : List Cell} (w : Walks m x cs) (hl : cs.length ≤ 10000) (h : ∀ c ∈ cs, okC c) : F_check_cells [x, .int 10000] m = .ok .non m := by
  obtain ⟨I, e1, e2⟩ := w.it
  have e3 := w.len
  have l1 : F_check_length [x, .int 10000] m = .ok .non m := by
    have d : decide ((10000 : Int) < cs.length) = false := decide_eq_false (by omega)
    simp only [F_check_length, den_check_length, bodyF, PD.sFld, PD.sAug, dFld, SO.out, dVar, dC, PD.d2, PD.d1, aNil_ap, aCons_ap, dTup, dLst, dCall, dAndV, dOrV, dNotV, dIf, dChain, dB, bNot, bAnd, bOr, sSkip, sSeq, sAsg, sExpr, sRet, sRetN, sIf, sBrk, sCont, sTgt, gN, gT, gsCons, gsNil, tupItems, sStore, sDel, dLm, dLm0, on1, on2, dInt2, dInt2c, dNeg, boolD, iSeq, PD.iRng1, iRange1, bInt, intD, bAbs, absD, bind_ok, toS_ok, List.map_cons, List.map_nil, List.cons_append, List.nil_append, List.replicate, List.getElem?_cons_zero, List.getElem?_cons_succ, List.set_cons_zero, List.set_cons_succ, List.length_cons, List.length_nil, if_true, if_false, Option.bind_some, Bool.false_eq_true, decide_true, decide_false, Bool.not_true, Bool.not_false, e3, d]
  have it : iSeq (dVar 0) [some x, some (.int 10000), none] m = .ok I m := by
    simp only [bodyF, PD.sFld, PD.sAug, dFld, SO.out, dVar, dC, PD.d2, PD.d1, aNil_ap, aCons_ap, dTup, dLst, dCall, dAndV, dOrV, dNotV, dIf, dChain, dB, bNot, bAnd, bOr, sSkip, sSeq, sAsg, sExpr, sRet, sRetN, sIf, sBrk, sCont, sTgt, gN, gT, gsCons, gsNil, tupItems, sStore, sDel, dLm, dLm0, on1, on2, dInt2, dInt2c, dNeg, boolD, iSeq, PD.iRng1, iRange1, bInt, intD, bAbs, absD, bind_ok, toS_ok, List.map_cons, List.map_nil, List.cons_append, List.nil_append, List.replicate, List.getElem?_cons_zero, List.getElem?_cons_succ, List.set_cons_zero, List.set_cons_succ, List.length_cons, List.length_nil, if_true, if_false, Option.bind_some, Bool.false_eq_true, decide_true, decide_false, Bool.not_true, Bool.not_false, e1]
  obtain ⟨δ', m', e4, h4⟩ := sFor_inv (t := gN 2) (body := lb_check_cells_0) it e2 (fun _ δ m1 => m1 = m ∧ ∃ d, δ = [some x, some (.int 10000), d]) ⟨rfl, none, rfl⟩ (fun _ _ _ h => by rw [h.1]; exact e2) fun i y δ m1 hy hp => by
    obtain ⟨rfl, d, rfl⟩ := hp
    obtain ⟨c, hc, rfl, _⟩ := cellsD_at hy
    refine ⟨[some x, some (.int 10000), some (cellD c)], rfl, [some x, some (.int 10000), some (cellD c)], m1, ?_, rfl, _, rfl⟩
    simp only [lb_check_cells_0, bodyF, PD.sFld, PD.sAug, dFld, SO.out, dVar, dC, PD.d2, PD.d1, aNil_ap, aCons_ap, dTup, dLst, dCall, dAndV, dOrV, dNotV, dIf, dChain, dB, bNot, bAnd, bOr, sSkip, sSeq, sAsg, sExpr, sRet, sRetN, sIf, sBrk, sCont, sTgt, gN, gT, gsCons, gsNil, tupItems, sStore, sDel, dLm, dLm0, on1, on2, dInt2, dInt2c, dNeg, boolD, iSeq, PD.iRng1, iRange1, bInt, intD, bAbs, absD, bind_ok, toS_ok, List.map_cons, List.map_nil, List.cons_append, List.nil_append, List.replicate, List.getElem?_cons_zero, List.getElem?_cons_succ, List.set_cons_zero, List.set_cons_succ, List.length_cons, List.length_nil, if_true, if_false, Option.bind_some, Bool.false_eq_true, decide_true, decide_false, Bool.not_true, Bool.not_false, check_cell_ok (h c hc)]
  obtain ⟨rfl, _⟩ := h4
  simp only [F_check_cells, den_check_cells, bodyF, PD.sFld, PD.sAug, dFld, SO.out, dVar, dC, PD.d2, PD.d1, aNil_ap, aCons_ap, dTup, dLst, dCall, dAndV, dOrV, dNotV, dIf, dChain, dB, bNot, bAnd, bOr, sSkip, sSeq, sAsg, sExpr, sRet, sRetN, sIf, sBrk, sCont, sTgt, gN, gT, gsCons, gsNil, tupItems, sStore, sDel, dLm, dLm0, on1, on2, dInt2, dInt2c, dNeg, boolD, iSeq, PD.iRng1, iRange1, bInt, intD, bAbs, absD, bind_ok, toS_ok, List.map_cons, List.map_nil, List.cons_append, List.nil_append, List.replicate, List.getElem?_cons_zero, List.getElem?_cons_succ, List.set_cons_zero, List.set_cons_succ, List.length_cons, List.length_nil, if_true, if_false, Option.bind_some, Bool.false_eq_true, decide_true, decide_false, Bool.not_true, Bool.not_false, l1, e4]
theorem off_shore_ok {x : D} {m : M} {cs : List Cell} (w : Walks m x cs) (h : ∀ c ∈ cs, 0 ≤ c.1) : F__check_off_shore [x] m = .ok .non m := by
  obtain ⟨I, e1, e2⟩ := w.it
  have e3 := w.len
  have it : iSeq (dVar 0) [some x, none] m = .ok I m := by
    simp only [bodyF, PD.sFld, PD.sAug, dFld, SO.out, dVar, dC, PD.d2, PD.d1, aNil_ap, aCons_ap, dTup, dLst, dCall, dAndV, dOrV, dNotV, dIf, dChain, dB, bNot, bAnd, bOr, sSkip, sSeq, sAsg, sExpr, sRet, sRetN, sIf, sBrk, sCont, sTgt, gN, gT, gsCons, gsNil, tupItems, sStore, sDel, dLm, dLm0, on1, on2, dInt2, dInt2c, dNeg, boolD, iSeq, PD.iRng1, iRange1, bInt, intD, bAbs, absD, bind_ok, toS_ok, List.map_cons, List.map_nil, List.cons_append, List.nil_append, List.replicate, List.getElem?_cons_zero, List.getElem?_cons_succ, List.set_cons_zero, List.set_cons_succ, List.length_cons, List.length_nil, if_true, if_false, Option.bind_some, Bool.false_eq_true, decide_true, decide_false, Bool.not_true, Bool.not_false, e1]
  obtain ⟨δ', m', e4, h4⟩ := sFor_inv (t := gN 1) (body := lb__check_off_shore_0) it e2 (fun _ δ m1 => m1 = m ∧ ∃ d, δ = [some x, d]) ⟨rfl, none, rfl⟩ (fun _ _ _ h => by rw [h.1]; exact e2) fun i y δ m1 hy hp => by
    obtain ⟨rfl, d, rfl⟩ := hp
    obtain ⟨c, hc, rfl, _⟩ := cellsD_at hy
    refine ⟨[some x, some (cellD c)], rfl, [some x, some (cellD c)], m1, ?_, rfl, _, rfl⟩
    have d : decide (c.1 < 0) = false := decide_eq_false (by have := h c hc; omega)
    simp only [lb__check_off_shore_0, bodyF, PD.sFld, PD.sAug, dFld, SO.out, dVar, dC, PD.d2, PD.d1, aNil_ap, aCons_ap, dTup, dLst, dCall, dAndV, dOrV, dNotV, dIf, dChain, dB, bNot, bAnd, bOr, sSkip, sSeq, sAsg, sExpr, sRet, sRetN, sIf, sBrk, sCont, sTgt, gN, gT, gsCons, gsNil, tupItems, sStore, sDel, dLm, dLm0, on1, on2, dInt2, dInt2c, dNeg, boolD, iSeq, PD.iRng1, iRange1, bInt, intD, bAbs, absD, bind_ok, toS_ok, List.map_cons, List.map_nil, List.cons_append, List.nil_append, List.replicate, List.getElem?_cons_zero, List.getElem?_cons_succ, List.set_cons_zero, List.set_cons_succ, List.length_cons, List.length_nil, if_true, if_false, Option.bind_some, Bool.false_eq_true, decide_true, decide_false, Bool.not_true, Bool.not_false, on_shore_ok, d]
  obtain ⟨rfl, _⟩ := h4
  simp only [F__check_off_shore, den__check_off_shore, bodyF, List.length_cons, List.length_nil, if_true, List.map_cons, List.map_nil, List.replicate, List.cons_append, List.nil_append]
  rw [e4]
  rfl
/-! ### banks -/
/-- strictly rising -/
def SS (S : List Cell) : Prop := S.Pairwise fun a b => SrtO.lexB a b = true
theorem SS.nodup {S : List Cell} (h : SS S) : S.Nodup := by
  refine h.imp fun {a b} h e => ?_
  subst e
  have := lexB_true.mp h
  omega
theorem ss_uniq : ∀ {S T : List Cell}, SS S → SS T → (∀ x, x ∈ S ↔ x ∈ T) → S = T := fun {S T} h k e => by
  have p : S.Perm T := (List.perm_ext_iff_of_nodup h.nodup k.nodup).mpr e
  refine List.Perm.eq_of_pairwise (fun a b _ _ h1 h2 => ?_) h k p
  have a1 := lexB_true.mp h1
  have a2 := lexB_true.mp h2
  omega
theorem ss_sortC {cs : List Cell} (h : cs.Nodup) : SS (sortC cs) := by
  have h1 := sortC_sorted cs
  have h2 : (sortC cs).Nodup := (sortC_perm cs).nodup_iff.mpr h
  refine (h1.and h2).imp fun {a b} ⟨q, n⟩ => ?_
  rw [leC_true] at q
  rw [lexB_true]
  by_cases e : a.1 = b.1
  · by_cases e2 : a.2 = b.2
    · exact absurd (Prod.ext e e2) n
    · omega
  · omega
theorem mem_sortC {cs : List Cell} {x : Cell} : x ∈ sortC cs ↔ x ∈ cs := (sortC_perm cs).mem_iff
theorem sortC_ss {cs : List Cell} (h : SS cs) : sortC cs = cs := ss_uniq (ss_sortC h.nodup) h fun _ => mem_sortC
def bankO (p : Nat) (S : List Cell) : MO := .ins "Bank" [("_places", .ref p), ("extra", .tup (cellsD S))]
structure BankAt (m : M) (n : Nat) (S : List Cell) : Prop where
  ss : SS S
  at_ : ∃ p es, m[n]? = some (bankO p S) ∧ m[p]? = some (.dT (setD es)) ∧ ∀ x, x ∈ es ↔ x ∈ S
theorem BankAt.keep {T : List Nat} {m m' : M} {n : Nat} {S : List Cell} (b : BankAt m n S) (k : Kp T m m') (h : T = []) : BankAt m' n S := by
  subst h
  obtain ⟨s, p, es, h1, h2, h3⟩ := b
  exact ⟨s, p, es, k.get h1 (by simp), k.get h2 (by simp), h3⟩
theorem ins_at {m : M} {n : Nat} {C : String} {fl : List (String × D)} (e : m[n]? = some (.ins C fl)) : insAt C (.ref n) m = some (n, fl) := by
  unfold insAt
  simp only [e]
  rw [if_pos trivial]
theorem make_ok {x : D} {m : M} {cs : List Cell} (w : Walks m x cs) (hl : cs.length ≤ 10000) (h : ∀ c ∈ cs, okC c) (h0 : ∀ c ∈ cs, 0 ≤ c.1) :
    ∃ S m', F_Bank___init__ [.ref m.length, x] (m ++ [.ins "Bank" []]) = .ok .non m' ∧ Kp [] m m' ∧ BankAt m' m.length S ∧ (∀ c, c ∈ S ↔ c ∈ cs) ∧ S.length ≤ cs.length ∧ m.length < m'.length := by
  have w1 : Walks (m ++ [.ins "Bank" []]) x cs := w.keep (S := []) Kp.app (by simp)
  have k1 : Kp [m.length] m (m ++ [.ins "Bank" []]) := Kp.app
  have a0 : (m ++ [MO.ins "Bank" []])[m.length]? = some (.ins "Bank" []) := get_new
  have l1 : (m ++ [MO.ins "Bank" []]).length = m.length + 1 := by simp
  generalize m ++ [MO.ins "Bank" []] = m1 at *
  obtain ⟨I, e1, e2⟩ := w1.it
  have cc := check_cells_ok w1 hl h
  have co := off_shore_ok w1 h0
  have it : iSeq (dVar 1) [some (.ref m.length), some x, none] m1 = .ok I m1 := by
    simp only [bodyF, PD.sFld, PD.sAug, dFld, SO.out, dVar, dC, PD.d2, PD.d1, aNil_ap, aCons_ap, dTup, dLst, dCall, dAndV, dOrV, dNotV, dIf, dChain, dB, bNot, bAnd, bOr, sSkip, sSeq, sAsg, sExpr, sRet, sRetN, sIf, sBrk, sCont, sTgt, gN, gT, gsCons, gsNil, tupItems, sStore, sDel, dLm, dLm0, on1, on2, dInt2, dInt2c, dNeg, boolD, iSeq, PD.iRng1, iRange1, bInt, intD, bAbs, absD, bind_ok, toS_ok, List.map_cons, List.map_nil, List.cons_append, List.nil_append, List.replicate, List.getElem?_cons_zero, List.getElem?_cons_succ, List.set_cons_zero, List.set_cons_succ, List.length_cons, List.length_nil, if_true, if_false, Option.bind_some, Bool.false_eq_true, decide_true, decide_false, Bool.not_true, Bool.not_false, e1]
  obtain ⟨es, e4, h4, h5, h6⟩ := dDc_set (t := gN 2) (vs := [2]) (ke := dVar 2) (ve := dC (.bl true)) it e2 (cap1 (by omega)) (fun c hc => ⟨[some (.ref m.length), some x, some (cellD c)], rfl, fun m' => ⟨rfl, rfl⟩⟩)
  have b1 : (m1 ++ [MO.dT (setD es)])[m.length]? = some (.ins "Bank" []) := get_old a0
  have b2 : (m1 ++ [MO.dT (setD es)])[m1.length]? = some (.dT (setD es)) := get_new
  have k2 := k1.trans (Kp.app (l := [MO.dT (setD es)]))
  have l2 : (m1 ++ [MO.dT (setD es)]).length = m.length + 2 := by simp [l1]
  generalize m1 ++ [MO.dT (setD es)] = m2 at *
  have i1 := ins_at b1
  have c1 : (m2.set m.length (.ins "Bank" [("_places", .ref m1.length)]))[m.length]? = some (.ins "Bank" [("_places", .ref m1.length)]) := get_set b1
  have c2 : (m2.set m.length (.ins "Bank" [("_places", .ref m1.length)]))[m1.length]? = some (.dT (setD es)) := by rw [get_set_ne (by omega)]; exact b2
  have k3 := k2.trans (Kp.set (o := .ins "Bank" [("_places", .ref m1.length)]) (List.mem_singleton.mpr rfl))
  have l3 : (m2.set m.length (.ins "Bank" [("_places", .ref m1.length)])).length = m.length + 2 := by simp [l2]
  have p1 : putFD [] "_places" (.ref m1.length) = [("_places", D.ref m1.length)] := rfl
  generalize em3 : m2.set m.length (.ins "Bank" [("_places", .ref m1.length)]) = m3 at *
  have i2 := ins_at c1
  have f1 : fldD [("_places", D.ref m1.length)] "_places" = some (.ref m1.length) := rfl
  have q1 := bList_set c2
  have d1 : (m3 ++ [MO.lst (cellsD es)])[m3.length]? = some (.lst (cellsD es)) := get_new
  have d2 : (m3 ++ [MO.lst (cellsD es)])[m.length]? = some (.ins "Bank" [("_places", .ref m1.length)]) := get_old c1
  have d3 : (m3 ++ [MO.lst (cellsD es)])[m1.length]? = some (.dT (setD es)) := get_old c2
  have k4 := k3.trans (Kp.app (l := [MO.lst (cellsD es)]))
  have l4 : (m3 ++ [MO.lst (cellsD es)]).length = m.length + 3 := by simp [l3]
  generalize m3 ++ [MO.lst (cellsD es)] = m4 at *
  have q2 := bSorted_cells d1
  have g1 : (m4 ++ [MO.lst (cellsD (sortC es))])[m4.length]? = some (.lst (cellsD (sortC es))) := get_new
  have g2 : (m4 ++ [MO.lst (cellsD (sortC es))])[m.length]? = some (.ins "Bank" [("_places", .ref m1.length)]) := get_old d2
  have g3 : (m4 ++ [MO.lst (cellsD (sortC es))])[m1.length]? = some (.dT (setD es)) := get_old d3
  have k5 := k4.trans (Kp.app (l := [MO.lst (cellsD (sortC es))]))
  have l5 : (m4 ++ [MO.lst (cellsD (sortC es))]).length = m.length + 4 := by simp [l4]
  generalize m4 ++ [MO.lst (cellsD (sortC es))] = m5 at *
  have q3 := bTuple_cells g1
  have i3 := ins_at g2
  have p2 : putFD [("_places", D.ref m1.length)] "extra" (.tup (cellsD (sortC es))) = [("_places", D.ref m1.length), ("extra", .tup (cellsD (sortC es)))] := rfl
  have n0 : (0 : Nat) < 100 := by decide
  have n1 : (0 + 1 : Nat) < 100 := by decide
  refine ⟨sortC es, m5.set m.length (bankO m1.length (sortC es)), ?_, ?_, ⟨ss_sortC h5, m1.length, es, get_set g2, by rw [get_set_ne (by omega)]; exact g3, fun x => mem_sortC.symm⟩, fun c => by rw [mem_sortC, h4], by rw [(sortC_perm es).length_eq]; exact h6, by simp [l5]⟩
  · unfold bankO
    simp only [F_Bank___init__, den_Bank___init__, bodyF, PD.sFld, PD.sAug, dFld, SO.out, dVar, dC, PD.d2, PD.d1, aNil_ap, aCons_ap, dTup, dLst, dCall, dAndV, dOrV, dNotV, dIf, dChain, dB, bNot, bAnd, bOr, sSkip, sSeq, sAsg, sExpr, sRet, sRetN, sIf, sBrk, sCont, sTgt, gN, gT, gsCons, gsNil, tupItems, sStore, sDel, dLm, dLm0, on1, on2, dInt2, dInt2c, dNeg, boolD, iSeq, PD.iRng1, iRange1, bInt, intD, bAbs, absD, bind_ok, toS_ok, List.map_cons, List.map_nil, List.cons_append, List.nil_append, List.replicate, List.getElem?_cons_zero, List.getElem?_cons_succ, List.set_cons_zero, List.set_cons_succ, List.length_cons, List.length_nil, if_true, if_false, Option.bind_some, Bool.false_eq_true, decide_true, decide_false, Bool.not_true, Bool.not_false, List.append_nil, cc, co, e4, i1, p1, n0, n1, em3, i2, f1, q1, q2, q3, i3, p2, Nat.add_zero]
  · exact ⟨by simp [l5], fun i hi _ => (k5.trans (Kp.set (List.mem_singleton.mpr rfl))).at_ i hi (by simp; omega)⟩
theorem make0_ok {m : M} : ∃ m', F_Bank___init___d1 [.ref m.length] (m ++ [.ins "Bank" []]) = .ok .non m' ∧ Kp [] m m' ∧ BankAt m' m.length [] ∧ m.length < m'.length := by
  obtain ⟨S, m', e, k, b, h, _, l⟩ := make_ok (x := .wt []) (m := m) .wt (by decide) (by simp) (by simp)
  have : S = [] := List.eq_nil_iff_forall_not_mem.mpr fun c hc => by simpa using (h c).mp hc
  subst this
  exact ⟨m', e, k, b, l⟩
/-- Bank(..) -/
theorem dMake_ok {F : FD} {fs : DA} {δ : DSt} {m m1 m2 : M} {xs : List D} (e : fs δ m = .ok xs m1) (e2 : F (.ref m1.length :: xs) (m1 ++ [.ins "Bank" []]) = .ok .non m2) : dMake "Bank" F fs δ m = .ok (.ref m1.length) m2 := by
  unfold dMake
  simp only [e, bind_ok, e2]
end NP
end

section
set_option maxHeartbeats 200000
namespace NP
open PySem L2 PD
/-! ### cells that are joined -/
inductive Conn (L : Cell → Prop) : Cell → Cell → Prop where
  | refl {a : Cell} (h : L a) : Conn L a a
  | step {a b c : Cell} (h : Conn L a b) (hc : c ∈ nearC b) (hl : L c) : Conn L a c
theorem near_symm {a b : Cell} : b ∈ nearC a ↔ a ∈ nearC b := by
  unfold nearC
  simp only [List.mem_cons, List.not_mem_nil, or_false, Prod.ext_iff]
  omega
theorem Conn.left {L : Cell → Prop} {a b : Cell} (h : Conn L a b) : L a := by
  induction h with
  | refl h => exact h
  | step _ _ _ ih => exact ih
theorem Conn.right {L : Cell → Prop} {a b : Cell} (h : Conn L a b) : L b := by
  cases h with
  | refl h => exact h
  | step _ _ h => exact h
theorem Conn.trans {L : Cell → Prop} {a b c : Cell} (h : Conn L a b) (k : Conn L b c) : Conn L a c := by
  induction k with
  | refl _ => exact h
  | step _ hc hl ih => exact .step ih hc hl
theorem Conn.symm {L : Cell → Prop} {a b : Cell} (h : Conn L a b) : Conn L b a := by
  induction h with
  | refl h => exact .refl h
  | step h hc hl ih => exact (Conn.step (.refl hl) (near_symm.mp hc) h.right).trans ih
theorem Conn.mono {L L' : Cell → Prop} {a b : Cell} (k : ∀ x, L x → L' x) (h : Conn L a b) : Conn L' a b := by
  induction h with
  | refl h => exact .refl (k _ h)
  | step h hc hl ih => exact .step ih hc (k _ hl)
/-- a set that is closed keeps what is joined -/
theorem Conn.closed {L P : Cell → Prop} {a b : Cell} (h : Conn L a b) (ha : P a) (k : ∀ x y, P x → y ∈ nearC x → L y → P y) : P b := by
  induction h with
  | refl _ => exact ha
  | step _ hc hl ih => exact k _ _ ih hc hl
/-- .. and within the closed set -/
theorem Conn.within {L P : Cell → Prop} {a b : Cell} (h : Conn L a b) (ha : P a) (k : ∀ x y, P x → y ∈ nearC x → L y → P y) : Conn (fun x => L x ∧ P x) a b := by
  induction h with
  | refl h => exact .refl ⟨h, ha⟩
  | step _ hc hl ih => exact .step ih hc ⟨hl, k _ _ ih.right.2 hc hl⟩
/-! ### _take_joined -/
theorem filter_lt {c : Cell} : ∀ {L : List Cell}, c ∈ L → (L.filter fun x => decide (x ≠ c)).length + 1 ≤ L.length
  | a :: L, h => by
    by_cases e : a = c
    · rw [List.filter_cons_of_neg (by simp [e])]
      have := List.length_filter_le (fun x => decide (x ≠ c)) L
      rw [List.length_cons]
      omega
    · rw [List.filter_cons_of_pos (by simp [e])]
      rcases List.mem_cons.mp h with q | q
      · exact absurd q.symm e
      · have := filter_lt q
        rw [List.length_cons, List.length_cons]
        omega
/-- between the turns -/
structure TJ (L st T R : List Cell) : Prop where
  nd : T.Nodup
  rest : ∀ x, x ∈ R ↔ x ∈ L ∧ x ∉ T
  sub : ∀ x ∈ T, x ∈ L
  rc : ∀ x ∈ T, ∃ s ∈ st, Conn (· ∈ L) s x
  len : T.length + R.length ≤ L.length
theorem TJ.take {L st T R : List Cell} {c : Cell} (h : TJ L st T R) (hc : c ∈ R) (k : ∃ s ∈ st, Conn (· ∈ L) s c) : TJ L st (T ++ [c]) (R.filter fun x => decide (x ≠ c)) := by
  obtain ⟨h1, h2⟩ := (h.rest c).mp hc
  refine ⟨?_, fun x => ?_, fun x hx => ?_, fun x hx => ?_, ?_⟩
  · rw [List.nodup_append]
    exact ⟨h.nd, by simp, fun a ha b hb => by simp at hb; subst hb; exact fun q => h2 (q ▸ ha)⟩
  · rw [List.mem_filter, h.rest, List.mem_append, List.mem_singleton, decide_eq_true_iff, not_or, and_assoc]
  · rcases List.mem_append.mp hx with hx | hx
    · exact h.sub x hx
    · rw [List.mem_singleton.mp hx]; exact h1
  · rcases List.mem_append.mp hx with hx | hx
    · exact h.rc x hx
    · rw [List.mem_singleton.mp hx]; exact k
  · have := filter_lt hc
    have := h.len
    simp only [List.length_append, List.length_singleton]
    omega
theorem del_set {m : M} {q t : Nat} {R : List Cell} {T : List D} {c : Cell} (h1 : m[q]? = some (.dT (setD R))) (h2 : m[t]? = some (.lst T)) (hne : q ≠ t) : (m.set q (.dT (setD (R.filter fun x => decide (x ≠ c)))))[t]? = some (.lst T) := by rw [get_set_ne hne]; exact h2
theorem cellsD_snoc {T : List Cell} {c : Cell} : cellsD T ++ [cellD c] = cellsD (T ++ [c]) := by simp [cellsD]
theorem len_cellsD {T : List Cell} : (cellsD T).length = T.length := by simp [cellsD]
/-- del left[c]; taken.append(c) -/
theorem take_one {δ : DSt} {m : M} {q t i : Nat} {T R : List Cell} {c : Cell} (d0 : δ[0]? = some (some (.ref q))) (d2 : δ[2]? = some (some (.ref t))) (di : δ[i]? = some (some (cellD c))) (h1 : m[q]? = some (.dT (setD R))) (h2 : m[t]? = some (.lst (cellsD T))) (hne : q ≠ t) (hc : c ∈ R) (hl : T.length < cap) :
    ∃ m', sSeq (sDel (dVar 0) (dVar i)) (sExpr (dLm appD (dVar 2) (dVar i))) δ m = .nx δ m' ∧ m'[q]? = some (.dT (setD (R.filter fun x => decide (x ≠ c)))) ∧ m'[t]? = some (.lst (cellsD (T ++ [c]))) ∧ Kp [q, t] m m' := by
  have e1 := delD_set h1 hc
  have e2 := del_set (c := c) h1 h2 hne
  have e3 := app_ok (y := cellD c) e2 (by rw [len_cellsD]; exact hl)
  rw [cellsD_snoc] at e3
  refine ⟨_, ?_, ?_, get_set e2, (Kp.set (by simp)).trans (Kp.set (by simp))⟩
  · simp only [bodyF, PD.sFld, PD.sAug, dFld, SO.out, dVar, dC, PD.d2, PD.d1, aNil_ap, aCons_ap, dTup, dLst, dCall, dAndV, dOrV, dNotV, dIf, dChain, dB, bNot, bAnd, bOr, sSkip, sSeq, sAsg, sExpr, sRet, sRetN, sIf, sBrk, sCont, sTgt, gN, gT, gsCons, gsNil, tupItems, sStore, sDel, dLm, dLm0, on1, on2, dInt2, dInt2c, dNeg, boolD, iSeq, PD.iRng1, iRange1, bInt, intD, bAbs, absD, bind_ok, toS_ok, List.map_cons, List.map_nil, List.cons_append, List.nil_append, List.replicate, List.getElem?_cons_zero, List.getElem?_cons_succ, List.set_cons_zero, List.set_cons_succ, List.length_cons, List.length_nil, if_true, if_false, Option.bind_some, Bool.false_eq_true, decide_true, decide_false, Bool.not_true, Bool.not_false, d0, d2, di, e1, lsAt_of e2, e3]
  · rw [get_set_ne (Ne.symm hne)]
    exact get_set h1
theorem take_joined_ok {m : M} {q r : Nat} {L st : List Cell} (hq : m[q]? = some (.dT (setD L))) (hr : m[r]? = some (.lst (cellsD st))) (hL : L.length ≤ 10000) (hok : ∀ c ∈ L, okC c) (hst : ∀ c ∈ st, c ∈ L) (hnd : st.Nodup) :
    ∃ T R m', F__take_joined [.ref q, .ref r] m = .ok (.ref m.length) m' ∧ m'[m.length]? = some (.lst (cellsD T)) ∧ m'[q]? = some (.dT (setD R)) ∧ Kp [q] m m' ∧ m.length < m'.length ∧ TJ L st T R ∧ (∀ s ∈ st, s ∈ T) ∧ ∀ a ∈ T, ∀ b ∈ nearC a, b ∈ L → b ∈ T := by
  have hqr : q ≠ r := fun e => by rw [e, hr] at hq; cases hq
  have hql := lt_of_get hq
  have hrl := lt_of_get hr
  have a0 : (m ++ [MO.lst (cellsD [])])[m.length]? = some (.lst (cellsD [])) := get_new
  have a1 : (m ++ [MO.lst (cellsD [])])[q]? = some (.dT (setD L)) := get_old hq
  have a2 : (m ++ [MO.lst (cellsD [])])[r]? = some (.lst (cellsD st)) := get_old hr
  have k1 : Kp [q, m.length] m (m ++ [MO.lst (cellsD [])]) := Kp.app
  have l1 : m.length < (m ++ [MO.lst (cellsD [])]).length := by simp
  have el : [MO.lst []] = [MO.lst (cellsD [])] := rfl
  generalize em1 : m ++ [MO.lst (cellsD [])] = m1 at *
  -- the starts
  have it : iSeq (dVar 1) [some (.ref q), some (.ref r), some (.ref m.length), none, none, none] m1 = .ok (.live r) m1 := by
    simp only [bodyF, PD.sFld, PD.sAug, dFld, SO.out, dVar, dC, PD.d2, PD.d1, aNil_ap, aCons_ap, dTup, dLst, dCall, dAndV, dOrV, dNotV, dIf, dChain, dB, bNot, bAnd, bOr, sSkip, sSeq, sAsg, sExpr, sRet, sRetN, sIf, sBrk, sCont, sTgt, gN, gT, gsCons, gsNil, tupItems, sStore, sDel, dLm, dLm0, on1, on2, dInt2, dInt2c, dNeg, boolD, iSeq, PD.iRng1, iRange1, bInt, intD, bAbs, absD, bind_ok, toS_ok, List.map_cons, List.map_nil, List.cons_append, List.nil_append, List.replicate, List.getElem?_cons_zero, List.getElem?_cons_succ, List.set_cons_zero, List.set_cons_succ, List.length_cons, List.length_nil, if_true, if_false, Option.bind_some, Bool.false_eq_true, decide_true, decide_false, Bool.not_true, Bool.not_false, iterD, lsAt_of a2]
  obtain ⟨δ2, m2, e2, d, T1, R1, rfl, b0, b1, b2, bk, bl, bj, bs⟩ := sFor_inv (t := gN 3) (body := lb__take_joined_0) it (lsAt_of a2)
    (fun i δ mm => ∃ d T R, δ = [some (.ref q), some (.ref r), some (.ref m.length), d, none, none] ∧ mm[m.length]? = some (.lst (cellsD T)) ∧ mm[q]? = some (.dT (setD R)) ∧ mm[r]? = some (.lst (cellsD st)) ∧ Kp [q, m.length] m mm ∧ m.length < mm.length ∧ TJ L st T R ∧ T = st.take i)
    ⟨none, [], L, rfl, a0, a1, a2, k1, l1, ⟨List.nodup_nil, by simp, by simp, by simp, by simp⟩, rfl⟩ (fun i δ mm ⟨_, _, _, _, _, _, z, _⟩ => lsAt_of z) (fun i x δ mm hx ⟨d, T, R, e, b0, b1, b2, bk, bl, bj, bt⟩ => by
      subst e
      obtain ⟨c, hc, rfl, hi⟩ := cellsD_at hx
      have hcR : c ∈ R := (bj.rest c).mpr ⟨hst c hc, fun hT => by
        rw [bt] at hT
        obtain ⟨j, hj⟩ := List.mem_iff_getElem?.mp hT
        have hj' := hj
        rw [List.getElem?_take] at hj'
        by_cases hji : j < i
        · rw [if_pos hji] at hj'
          have := nodup_at hnd hj' hi
          omega
        · rw [if_neg hji] at hj'
          cases hj'⟩
      obtain ⟨m', e, c1, c2, ck⟩ := take_one (δ := [some (.ref q), some (.ref r), some (.ref m.length), some (cellD c), none, none]) (i := 3) rfl rfl rfl b1 b0 (by omega) hcR (by have := bj.len; unfold cap; omega)
      refine ⟨[some (.ref q), some (.ref r), some (.ref m.length), some (cellD c), none, none], rfl, _, m', e, some (cellD c), T ++ [c], _, rfl, c2, c1, ck.get b2 (by simp; omega), bk.trans ck, Nat.lt_of_lt_of_le bl ck.len, bj.take hcR ⟨c, hc, .refl (hst c hc)⟩, ?_⟩
      rw [bt, List.take_add_one, hi]
      rfl)
  have bT : T1 = st := by rw [bs, len_cellsD, List.take_length]
  -- the walk
  have w := loopW_inv (t := dB (PD.d2 dLt (dVar 4) (dCall bLen (aCons (dVar 2) aNil)))) (body := lb__take_joined_2) (N := 10000)
    (fun i δ mm => ∃ d3 d5 T R, δ = [some (.ref q), some (.ref r), some (.ref m.length), d3, some (.int (i : Nat)), d5] ∧ mm[m.length]? = some (.lst (cellsD T)) ∧ mm[q]? = some (.dT (setD R)) ∧ Kp [q, m.length] m mm ∧ m.length < mm.length ∧ TJ L st T R ∧ (∀ s ∈ st, s ∈ T) ∧ i ≤ T.length ∧ ∀ j a, j < i → T[j]? = some a → ∀ b ∈ nearC a, b ∈ L → b ∈ T)
    (fun δ mm => ∃ d3 d4 d5 T R, δ = [some (.ref q), some (.ref r), some (.ref m.length), d3, d4, d5] ∧ mm[m.length]? = some (.lst (cellsD T)) ∧ mm[q]? = some (.dT (setD R)) ∧ Kp [q, m.length] m mm ∧ m.length < mm.length ∧ TJ L st T R ∧ (∀ s ∈ st, s ∈ T) ∧ ∀ a ∈ T, ∀ b ∈ nearC a, b ∈ L → b ∈ T)
    (fun i δ mm ⟨_, _, T, R, _, _, _, _, _, bj, _, hi, _⟩ => by have := bj.len; omega) (fun i δ mm ⟨d3, d5, T, R, e, b0, b1, bk, bl, bj, bs, hi, cl⟩ => by
      subst e
      by_cases hlt : i < T.length
      · refine .inl ⟨mm, ?_, ?_⟩
        · have dd : decide ((i : Int) < T.length) = true := decide_eq_true (by omega)
          simp only [bodyF, PD.sFld, PD.sAug, dFld, SO.out, dVar, dC, PD.d2, PD.d1, aNil_ap, aCons_ap, dTup, dLst, dCall, dAndV, dOrV, dNotV, dIf, dChain, dB, bNot, bAnd, bOr, sSkip, sSeq, sAsg, sExpr, sRet, sRetN, sIf, sBrk, sCont, sTgt, gN, gT, gsCons, gsNil, tupItems, sStore, sDel, dLm, dLm0, on1, on2, dInt2, dInt2c, dNeg, boolD, iSeq, PD.iRng1, iRange1, bInt, intD, bAbs, absD, bind_ok, toS_ok, List.map_cons, List.map_nil, List.cons_append, List.nil_append, List.replicate, List.getElem?_cons_zero, List.getElem?_cons_succ, List.set_cons_zero, List.set_cons_succ, List.length_cons, List.length_nil, if_true, if_false, Option.bind_some, Bool.false_eq_true, decide_true, decide_false, Bool.not_true, Bool.not_false, len_lst b0, len_cellsD, dd]
        · have hTi : T[i]? = some T[i] := List.getElem?_eq_getElem hlt
          have hTm : T[i] ∈ T := List.getElem_mem hlt
          have ho := hok _ (bj.sub _ hTm)
          have hix : ixD (.ref m.length) (.int (i : Nat)) mm = .ok (cellD T[i]) mm := ixD_nat (items_ref b0) (by unfold cellsD; rw [List.getElem?_map, hTi]; rfl)
          have c0 : (mm ++ [MO.lst (cellsD (nearC T[i]))])[m.length]? = some (.lst (cellsD T)) := get_old b0
          have c1 : (mm ++ [MO.lst (cellsD (nearC T[i]))])[q]? = some (.dT (setD R)) := get_old b1
          have c2 : (mm ++ [MO.lst (cellsD (nearC T[i]))])[mm.length]? = some (.lst (cellsD (nearC T[i]))) := get_new
          have ck : Kp [q, m.length] m (mm ++ [MO.lst (cellsD (nearC T[i]))]) := bk.trans Kp.app
          have cl1 : m.length < (mm ++ [MO.lst (cellsD (nearC T[i]))]).length := by simp; omega
          have hmm : m.length ≠ mm.length := by omega
          have hqm : q ≠ mm.length := by have := lt_of_get b1; omega
          have it2 : iSeq (dCall F_neighbours (aCons (PD.d2 ixD (dVar 2) (dVar 4)) aNil)) [some (.ref q), some (.ref r), some (.ref m.length), d3, some (.int (i : Nat)), d5] mm = .ok (.live mm.length) (mm ++ [MO.lst (cellsD (nearC T[i]))]) := by
            simp only [bodyF, PD.sFld, PD.sAug, dFld, SO.out, dVar, dC, PD.d2, PD.d1, aNil_ap, aCons_ap, dTup, dLst, dCall, dAndV, dOrV, dNotV, dIf, dChain, dB, bNot, bAnd, bOr, sSkip, sSeq, sAsg, sExpr, sRet, sRetN, sIf, sBrk, sCont, sTgt, gN, gT, gsCons, gsNil, tupItems, sStore, sDel, dLm, dLm0, on1, on2, dInt2, dInt2c, dNeg, boolD, iSeq, PD.iRng1, iRange1, bInt, intD, bAbs, absD, bind_ok, toS_ok, List.map_cons, List.map_nil, List.cons_append, List.nil_append, List.replicate, List.getElem?_cons_zero, List.getElem?_cons_succ, List.set_cons_zero, List.set_cons_succ, List.length_cons, List.length_nil, if_true, if_false, Option.bind_some, Bool.false_eq_true, decide_true, decide_false, Bool.not_true, Bool.not_false, hix, neighbours_ok ho, iterD, lsAt_of c2]
          obtain ⟨δ3, m3, e3, d, T2, R2, rfl, f0, f1, f2, fk, fl, fj, fs, ft, fc⟩ := sFor_inv (t := gN 5) (body := lb__take_joined_1) it2 (lsAt_of c2)
            (fun j δ m3 => ∃ d T2 R2, δ = [some (.ref q), some (.ref r), some (.ref m.length), d3, some (.int (i : Nat)), d] ∧ m3[m.length]? = some (.lst (cellsD T2)) ∧ m3[q]? = some (.dT (setD R2)) ∧ m3[mm.length]? = some (.lst (cellsD (nearC T[i]))) ∧ Kp [q, m.length] m m3 ∧ m.length < m3.length ∧ TJ L st T2 R2 ∧ (∀ s ∈ st, s ∈ T2) ∧ (∃ l, T2 = T ++ l) ∧ ∀ b ∈ (nearC T[i]).take j, b ∈ L → b ∈ T2)
            ⟨d5, T, R, rfl, c0, c1, c2, ck, cl1, bj, bs, ⟨[], by simp⟩, by simp⟩ (fun j δ m3 ⟨_, _, _, _, _, _, z, _⟩ => lsAt_of z) (fun j x δ m3 hx ⟨d, T2, R2, e, f0, f1, f2, fk, fl, fj, fs, ⟨l, ft⟩, fc⟩ => by
              subst e
              obtain ⟨b, hb, rfl, hj⟩ := cellsD_at hx
              refine ⟨[some (.ref q), some (.ref r), some (.ref m.length), d3, some (.int (i : Nat)), some (cellD b)], rfl, ?_⟩
              have tk : (nearC T[i]).take (j + 1) = (nearC T[i]).take j ++ [b] := by
                rw [List.take_add_one, hj]
                rfl
              by_cases hbR : b ∈ R2
              · obtain ⟨m', e, g1, g2, gk⟩ := take_one (δ := [some (.ref q), some (.ref r), some (.ref m.length), d3, some (.int (i : Nat)), some (cellD b)]) (i := 5) rfl rfl rfl f1 f0 (by omega) hbR (by have := fj.len; unfold cap; omega)
                have hk : ∃ s ∈ st, Conn (· ∈ L) s b := by
                  obtain ⟨s, hs, hc⟩ := bj.rc _ hTm
                  exact ⟨s, hs, .step hc hb ((fj.rest b).mp hbR).1⟩
                refine ⟨_, m', ?_, some (cellD b), T2 ++ [b], _, rfl, g2, g1, gk.get f2 (by simp; omega), fk.trans gk, Nat.lt_of_lt_of_le fl gk.len, fj.take hbR hk, fun s hs => List.mem_append_left _ (fs s hs), ⟨l ++ [b], by rw [ft, List.append_assoc]⟩, fun x hx hxL => ?_⟩
                · have hd : decide (b ∈ R2) = true := decide_eq_true hbR
                  have hin := dIn_set (c := b) f1
                  rw [hd] at hin
                  unfold lb__take_joined_1 sIf dB
                  simp only [PD.d2, dVar, List.getElem?_cons_zero, List.getElem?_cons_succ, bind_ok, hin, boolD, toS_ok, if_true]
                  exact e
                · rw [tk] at hx
                  rcases List.mem_append.mp hx with hx | hx
                  · exact List.mem_append_left _ (fc x hx hxL)
                  · exact List.mem_append_right _ hx
              · refine ⟨_, m3, ?_, some (cellD b), T2, R2, rfl, f0, f1, f2, fk, fl, fj, fs, ⟨l, ft⟩, fun x hx hxL => ?_⟩
                · have hd : decide (b ∈ R2) = false := decide_eq_false hbR
                  have hin := dIn_set (c := b) f1
                  rw [hd] at hin
                  simp only [lb__take_joined_1, bodyF, PD.sFld, PD.sAug, dFld, SO.out, dVar, dC, PD.d2, PD.d1, aNil_ap, aCons_ap, dTup, dLst, dCall, dAndV, dOrV, dNotV, dIf, dChain, dB, bNot, bAnd, bOr, sSkip, sSeq, sAsg, sExpr, sRet, sRetN, sIf, sBrk, sCont, sTgt, gN, gT, gsCons, gsNil, tupItems, sStore, sDel, dLm, dLm0, on1, on2, dInt2, dInt2c, dNeg, boolD, iSeq, PD.iRng1, iRange1, bInt, intD, bAbs, absD, bind_ok, toS_ok, List.map_cons, List.map_nil, List.cons_append, List.nil_append, List.replicate, List.getElem?_cons_zero, List.getElem?_cons_succ, List.set_cons_zero, List.set_cons_succ, List.length_cons, List.length_nil, if_true, if_false, Option.bind_some, Bool.false_eq_true, decide_true, decide_false, Bool.not_true, Bool.not_false, hin]
                · rw [tk] at hx
                  rcases List.mem_append.mp hx with hx | hx
                  · exact fc x hx hxL
                  · rw [List.mem_singleton.mp hx] at hxL ⊢
                    exact Classical.byContradiction fun z => hbR ((fj.rest b).mpr ⟨hxL, z⟩))
          obtain ⟨l, ft⟩ := ft
          refine ⟨[some (.ref q), some (.ref r), some (.ref m.length), d3, some (.int ((i + 1 : Nat) : Int)), d], m3, ?_, d3, d, T2, R2, rfl, f0, f1, fk, fl, fj, fs, by rw [ft, List.length_append]; omega, fun j a hj ha b hb hbL => ?_⟩
          · have ee : ((i + 1 : Nat) : Int) = (i : Int) + 1 := by omega
            rw [ee]
            simp only [lb__take_joined_2, bodyF, PD.sFld, PD.sAug, dFld, SO.out, dVar, dC, PD.d2, PD.d1, aNil_ap, aCons_ap, dTup, dLst, dCall, dAndV, dOrV, dNotV, dIf, dChain, dB, bNot, bAnd, bOr, sSkip, sSeq, sAsg, sExpr, sRet, sRetN, sIf, sBrk, sCont, sTgt, gN, gT, gsCons, gsNil, tupItems, sStore, sDel, dLm, dLm0, on1, on2, dInt2, dInt2c, dNeg, boolD, iSeq, PD.iRng1, iRange1, bInt, intD, bAbs, absD, bind_ok, toS_ok, List.map_cons, List.map_nil, List.cons_append, List.nil_append, List.replicate, List.getElem?_cons_zero, List.getElem?_cons_succ, List.set_cons_zero, List.set_cons_succ, List.length_cons, List.length_nil, if_true, if_false, Option.bind_some, Bool.false_eq_true, decide_true, decide_false, Bool.not_true, Bool.not_false]
            simp only [e3, bodyF, PD.sFld, PD.sAug, dFld, SO.out, dVar, dC, PD.d2, PD.d1, aNil_ap, aCons_ap, dTup, dLst, dCall, dAndV, dOrV, dNotV, dIf, dChain, dB, bNot, bAnd, bOr, sSkip, sSeq, sAsg, sExpr, sRet, sRetN, sIf, sBrk, sCont, sTgt, gN, gT, gsCons, gsNil, tupItems, sStore, sDel, dLm, dLm0, on1, on2, dInt2, dInt2c, dNeg, boolD, iSeq, PD.iRng1, iRange1, bInt, intD, bAbs, absD, bind_ok, toS_ok, List.map_cons, List.map_nil, List.cons_append, List.nil_append, List.replicate, List.getElem?_cons_zero, List.getElem?_cons_succ, List.set_cons_zero, List.set_cons_succ, List.length_cons, List.length_nil, if_true, if_false, Option.bind_some, Bool.false_eq_true, decide_true, decide_false, Bool.not_true, Bool.not_false]
          · by_cases hji : j < i
            · rw [ft, List.getElem?_append_left (by omega)] at ha
              rw [ft]
              exact List.mem_append_left _ (cl j a hji ha b hb hbL)
            · have : j = i := by omega
              subst this
              rw [ft, List.getElem?_append_left hlt, hTi] at ha
              cases ha
              rw [len_cellsD, List.take_length] at fc
              exact fc b hb hbL
      · refine .inr ⟨mm, ?_, d3, _, d5, T, R, rfl, b0, b1, bk, bl, bj, bs, fun a ha => ?_⟩
        · have dd : decide ((i : Int) < T.length) = false := decide_eq_false (by omega)
          simp only [bodyF, PD.sFld, PD.sAug, dFld, SO.out, dVar, dC, PD.d2, PD.d1, aNil_ap, aCons_ap, dTup, dLst, dCall, dAndV, dOrV, dNotV, dIf, dChain, dB, bNot, bAnd, bOr, sSkip, sSeq, sAsg, sExpr, sRet, sRetN, sIf, sBrk, sCont, sTgt, gN, gT, gsCons, gsNil, tupItems, sStore, sDel, dLm, dLm0, on1, on2, dInt2, dInt2c, dNeg, boolD, iSeq, PD.iRng1, iRange1, bInt, intD, bAbs, absD, bind_ok, toS_ok, List.map_cons, List.map_nil, List.cons_append, List.nil_append, List.replicate, List.getElem?_cons_zero, List.getElem?_cons_succ, List.set_cons_zero, List.set_cons_succ, List.length_cons, List.length_nil, if_true, if_false, Option.bind_some, Bool.false_eq_true, decide_true, decide_false, Bool.not_true, Bool.not_false, len_lst b0, len_cellsD, dd]
        · obtain ⟨j, hj⟩ := List.mem_iff_getElem?.mp ha
          exact cl j a (by have := (List.getElem?_eq_some_iff.mp hj).1; omega) hj)
    1000000 0 [some (.ref q), some (.ref r), some (.ref m.length), d, some (.int 0), none] m2 (by omega) ⟨d, none, T1, R1, rfl, b0, b1, bk, bl, bj, fun s hs => by rw [bT]; exact hs, Nat.zero_le _, fun j a hj => by omega⟩
  obtain ⟨δ4, m4, e4, d3, d4, d5, T, R, rfl, g0, g1, gk, gl, gj, gs, gc⟩ := w
  refine ⟨T, R, m4, ?_, g0, g1, ⟨gk.len, fun i hi hs => gk.at_ i hi (by simp at hs ⊢; omega)⟩, gl, gj, gs, gc⟩
  have c0 : (0 : Nat) ≤ cap := Nat.zero_le _
  rw [← el] at em1
  simp only [F__take_joined, den__take_joined, bodyF, PD.sFld, PD.sAug, dFld, SO.out, dVar, dC, PD.d2, PD.d1, aNil_ap, aCons_ap, dTup, dLst, dCall, dAndV, dOrV, dNotV, dIf, dChain, dB, bNot, bAnd, bOr, sSkip, sSeq, sAsg, sExpr, sRet, sRetN, sIf, sBrk, sCont, sTgt, gN, gT, gsCons, gsNil, tupItems, sStore, sDel, dLm, dLm0, on1, on2, dInt2, dInt2c, dNeg, boolD, iSeq, PD.iRng1, iRange1, bInt, intD, bAbs, absD, bind_ok, toS_ok, List.map_cons, List.map_nil, List.cons_append, List.nil_append, List.replicate, List.getElem?_cons_zero, List.getElem?_cons_succ, List.set_cons_zero, List.set_cons_succ, List.length_cons, List.length_nil, if_true, if_false, Option.bind_some, Bool.false_eq_true, decide_true, decide_false, Bool.not_true, Bool.not_false, if_pos c0, em1, e2, sWhile, e4]
end NP
end

section
set_option maxHeartbeats 200000
namespace NP
open PySem L2 PD
def Fast (S : List Cell) (x : Cell) : Prop := ∃ s, s ∈ S ∧ s.1 = 0 ∧ Conn (· ∈ S) s x
/-- a bank as the law makes them -/
structure Good (S : List Cell) : Prop where
  ss : SS S
  len : S.length ≤ 10000
  ok : ∀ c ∈ S, okC c
  pos : ∀ c ∈ S, 0 ≤ c.1
theorem fld_extra {m : M} {n : Nat} {S : List Cell} (b : BankAt m n S) {δ : DSt} {i : Nat} (d : δ[i]? = some (some (.ref n))) : dFld "Bank" "extra" (dVar i) δ m = .ok (.tup (cellsD S)) m := by
  obtain ⟨_, p, es, h1, _⟩ := b
  have f : fldD [("_places", D.ref p), ("extra", .tup (cellsD S))] "extra" = some (.tup (cellsD S)) := by
    unfold fldD fldD
    rw [if_neg (by decide), if_pos rfl]
  have q := ins_at (show m[n]? = some (.ins "Bank" [("_places", .ref p), ("extra", .tup (cellsD S))]) from h1)
  simp only [bodyF, PD.sFld, PD.sAug, dFld, SO.out, dVar, dC, PD.d2, PD.d1, aNil_ap, aCons_ap, dTup, dLst, dCall, dAndV, dOrV, dNotV, dIf, dChain, dB, bNot, bAnd, bOr, sSkip, sSeq, sAsg, sExpr, sRet, sRetN, sIf, sBrk, sCont, sTgt, gN, gT, gsCons, gsNil, tupItems, sStore, sDel, dLm, dLm0, on1, on2, dInt2, dInt2c, dNeg, boolD, iSeq, PD.iRng1, iRange1, bInt, intD, bAbs, absD, bind_ok, toS_ok, List.map_cons, List.map_nil, List.cons_append, List.nil_append, List.replicate, List.getElem?_cons_zero, List.getElem?_cons_succ, List.set_cons_zero, List.set_cons_succ, List.length_cons, List.length_nil, if_true, if_false, Option.bind_some, Bool.false_eq_true, decide_true, decide_false, Bool.not_true, Bool.not_false, d, q, f]
theorem beside_ok {m : M} {n : Nat} {S : List Cell} (b : BankAt m n S) (hl : S.length ≤ 10000) : F__beside_shore [.ref n] m = .ok (.ref m.length) (m ++ [.lst (cellsD (S.filter fun c => decide (c.1 = 0)))]) := by
  have it : iSeq (dFld "Bank" "extra" (dVar 0)) [some (.ref n), none] m = .ok (.items (cellsD S)) m := by
    unfold iSeq
    rw [fld_extra b rfl, bind_ok]
    rfl
  have e := dLc_pure (t := gN 1) (vs := [1]) (test := dB (PD.d2 dEq (PD.d2 ixD (dVar 1) (dC (.int 0))) (dC (.int 0)))) (elt := dVar 1) (fun x => match x with | .tup (.int i :: _) => decide (i = 0) | _ => false) id it rfl (by rw [len_cellsD]; exact cap1 (by omega)) (fun x hx => by
    obtain ⟨c, hc, rfl⟩ := List.mem_map.mp hx
    refine ⟨[some (.ref n), some (cellD c)], rfl, fun acc => ⟨?_, fun _ => rfl⟩⟩
    have q : ixD (cellD c) (.int 0) (m ++ [MO.lst acc]) = .ok (.int c.1) (m ++ [MO.lst acc]) := ixD_zero (xs := [.int c.2]) rfl
    simp only [bodyF, PD.sFld, PD.sAug, dFld, SO.out, dVar, dC, PD.d2, PD.d1, aNil_ap, aCons_ap, dTup, dLst, dCall, dAndV, dOrV, dNotV, dIf, dChain, dB, bNot, bAnd, bOr, sSkip, sSeq, sAsg, sExpr, sRet, sRetN, sIf, sBrk, sCont, sTgt, gN, gT, gsCons, gsNil, tupItems, sStore, sDel, dLm, dLm0, on1, on2, dInt2, dInt2c, dNeg, boolD, iSeq, PD.iRng1, iRange1, bInt, intD, bAbs, absD, bind_ok, toS_ok, List.map_cons, List.map_nil, List.cons_append, List.nil_append, List.replicate, List.getElem?_cons_zero, List.getElem?_cons_succ, List.set_cons_zero, List.set_cons_succ, List.length_cons, List.length_nil, if_true, if_false, Option.bind_some, Bool.false_eq_true, decide_true, decide_false, Bool.not_true, Bool.not_false, q, dEq_int]
    rfl)
  have e2 : ((cellsD S).filter fun x => match x with | .tup (.int i :: _) => decide (i = 0) | _ => false) = cellsD (S.filter fun c => decide (c.1 = 0)) := by
    unfold cellsD
    rw [List.filter_map]
    rfl
  rw [List.map_id, e2] at e
  simp only [F__beside_shore, den__beside_shore, bodyF, PD.sFld, PD.sAug, dFld, SO.out, dVar, dC, PD.d2, PD.d1, aNil_ap, aCons_ap, dTup, dLst, dCall, dAndV, dOrV, dNotV, dIf, dChain, dB, bNot, bAnd, bOr, sSkip, sSeq, sAsg, sExpr, sRet, sRetN, sIf, sBrk, sCont, sTgt, gN, gT, gsCons, gsNil, tupItems, sStore, sDel, dLm, dLm0, on1, on2, dInt2, dInt2c, dNeg, boolD, iSeq, PD.iRng1, iRange1, bInt, intD, bAbs, absD, bind_ok, toS_ok, List.map_cons, List.map_nil, List.cons_append, List.nil_append, List.replicate, List.getElem?_cons_zero, List.getElem?_cons_succ, List.set_cons_zero, List.set_cons_succ, List.length_cons, List.length_nil, if_true, if_false, Option.bind_some, Bool.false_eq_true, decide_true, decide_false, Bool.not_true, Bool.not_false, e]
/-- left = {cell: True for cell in bank.extra} -/
theorem left_ok {m : M} {n i : Nat} {S : List Cell} {δ δ1 : DSt} (b : BankAt m n S) (hl : S.length ≤ 10000) (d : δ[0]? = some (some (.ref n))) (h : i < δ.length) :
    ∃ es, dDc true (iSeq (dFld "Bank" "extra" (dVar 0))) (gN i) [i] bYes (dVar i) (dC (.bl true)) δ m = .ok (.ref m.length) (m ++ [.dT (setD es)]) ∧ (∀ x, x ∈ es ↔ x ∈ S) ∧ es.length ≤ S.length := by
  have it : iSeq (dFld "Bank" "extra" (dVar 0)) δ m = .ok (.items (cellsD S)) m := by
    unfold iSeq
    rw [fld_extra b d, bind_ok]
    rfl
  obtain ⟨es, e, h1, h2, h3⟩ := dDc_set (t := gN i) (vs := [i]) (ke := dVar i) (ve := dC (.bl true)) it rfl (cap1 (by omega)) (fun c hc => ⟨_, rfl, fun m' => ⟨by
    unfold dVar wipeD wipeD
    rw [List.getElem?_set_self (by simpa using h)], rfl⟩⟩)
  exact ⟨es, e, h1, h3⟩
/-- what is taken from the shore -/
theorem tj_mem {L st T R : List Cell} (j : TJ L st T R) (hs : ∀ s ∈ st, s ∈ T) (hc : ∀ a ∈ T, ∀ b ∈ nearC a, b ∈ L → b ∈ T) (x : Cell) : x ∈ T ↔ ∃ s ∈ st, Conn (· ∈ L) s x :=
  ⟨j.rc x, fun ⟨s, h1, h2⟩ => h2.closed (P := (· ∈ T)) (hs s h1) fun a b ha hb hbL => hc a ha b hb hbL⟩
theorem conn_congr {L L' : Cell → Prop} (h : ∀ x, L x ↔ L' x) {a b : Cell} : Conn L a b ↔ Conn L' a b := ⟨.mono fun x => (h x).mp, .mono fun x => (h x).mpr⟩
/-- the shore's part is taken away: both defs begin so -/
theorem shore_ok {m : M} {n : Nat} {S es : List Cell} {q : Nat} (g : Good S) (b : BankAt m n S) (hq : m[q]? = some (.dT (setD es))) (he : ∀ x, x ∈ es ↔ x ∈ S) (hl : es.length ≤ S.length) :
    ∃ T R m', dCall F__take_joined (aCons (dC (.ref q)) (aCons (dC (.ref m.length)) aNil)) [] (m ++ [.lst (cellsD (S.filter fun c => decide (c.1 = 0)))]) = .ok (.ref (m.length + 1)) m' ∧ m'[m.length + 1]? = some (.lst (cellsD T)) ∧ m'[q]? = some (.dT (setD R)) ∧ Kp [q] m m' ∧ m.length + 1 < m'.length ∧
      T.Nodup ∧ (∀ x, x ∈ T ↔ Fast S x) ∧ (∀ x, x ∈ R ↔ x ∈ S ∧ ¬ Fast S x) ∧ T.length ≤ 10000 ∧ R.length ≤ 10000 := by
  obtain ⟨T, R, m', e, h1, h2, h3, h4, h5, h6, h7⟩ := take_joined_ok (m := m ++ [.lst (cellsD (S.filter fun c => decide (c.1 = 0)))]) (q := q) (r := m.length) (get_old hq) get_new (Nat.le_trans hl g.len) (fun c hc => g.ok c ((he c).mp hc)) (fun c hc => (he c).mpr (List.mem_filter.mp hc).1) (g.ss.nodup.filter _)
  have ln : (m ++ [MO.lst (cellsD (S.filter fun c => decide (c.1 = 0)))]).length = m.length + 1 := by simp
  rw [ln] at e h1 h4
  have hT : ∀ x, x ∈ T ↔ Fast S x := fun x => by
    rw [tj_mem h5 h6 h7]
    constructor
    · rintro ⟨s, hs, hc⟩
      obtain ⟨a1, a2⟩ := List.mem_filter.mp hs
      exact ⟨s, a1, of_decide_eq_true a2, (conn_congr he).mp hc⟩
    · rintro ⟨s, a1, a2, hc⟩
      exact ⟨s, List.mem_filter.mpr ⟨a1, decide_eq_true a2⟩, (conn_congr he).mpr hc⟩
  have ln := h5.len
  refine ⟨T, R, m', ?_, h1, h2, (Kp.app (S := [q])).trans h3, h4, h5.nd, hT, fun x => by rw [h5.rest, he, hT], by have := g.len; omega, by have := g.len; omega⟩
  simp only [bodyF, PD.sFld, PD.sAug, dFld, SO.out, dVar, dC, PD.d2, PD.d1, aNil_ap, aCons_ap, dTup, dLst, dCall, dAndV, dOrV, dNotV, dIf, dChain, dB, bNot, bAnd, bOr, sSkip, sSeq, sAsg, sExpr, sRet, sRetN, sIf, sBrk, sCont, sTgt, gN, gT, gsCons, gsNil, tupItems, sStore, sDel, dLm, dLm0, on1, on2, dInt2, dInt2c, dNeg, boolD, iSeq, PD.iRng1, iRange1, bInt, intD, bAbs, absD, bind_ok, toS_ok, List.map_cons, List.map_nil, List.cons_append, List.nil_append, List.replicate, List.getElem?_cons_zero, List.getElem?_cons_succ, List.set_cons_zero, List.set_cons_succ, List.length_cons, List.length_nil, if_true, if_false, Option.bind_some, Bool.false_eq_true, decide_true, decide_false, Bool.not_true, Bool.not_false, e]
theorem landfast_ok {m : M} {n : Nat} {S : List Cell} (g : Good S) (b : BankAt m n S) : ∃ r F m', F_landfast [.ref n] m = .ok (.ref r) m' ∧ Kp [] m m' ∧ m.length ≤ r ∧ r < m'.length ∧ BankAt m' r F ∧ (∀ x, x ∈ F ↔ Fast S x) ∧ Good F := by
  obtain ⟨es, e1, h1, h2⟩ := left_ok (i := 2) (δ := [some (.ref n), none, none]) (δ1 := []) b g.len rfl (by simp)
  have a0 : (m ++ [MO.dT (setD es)])[m.length]? = some (.dT (setD es)) := get_new
  have k0 : Kp [] m (m ++ [MO.dT (setD es)]) := Kp.app
  have b0 := b.keep k0 rfl
  have l0 : (m ++ [MO.dT (setD es)]).length = m.length + 1 := by simp
  generalize m ++ [MO.dT (setD es)] = m1 at *
  have e2 := beside_ok b0 g.len
  obtain ⟨T, R, m2, e3, t1, t2, tk, tl, td, tm, tr, tn, _⟩ := shore_ok g b0 a0 h1 h2
  simp only [bodyF, PD.sFld, PD.sAug, dFld, SO.out, dVar, dC, PD.d2, PD.d1, aNil_ap, aCons_ap, dTup, dLst, dCall, dAndV, dOrV, dNotV, dIf, dChain, dB, bNot, bAnd, bOr, sSkip, sSeq, sAsg, sExpr, sRet, sRetN, sIf, sBrk, sCont, sTgt, gN, gT, gsCons, gsNil, tupItems, sStore, sDel, dLm, dLm0, on1, on2, dInt2, dInt2c, dNeg, boolD, iSeq, PD.iRng1, iRange1, bInt, intD, bAbs, absD, bind_ok, toS_ok, List.map_cons, List.map_nil, List.cons_append, List.nil_append, List.replicate, List.getElem?_cons_zero, List.getElem?_cons_succ, List.set_cons_zero, List.set_cons_succ, List.length_cons, List.length_nil, if_true, if_false, Option.bind_some, Bool.false_eq_true, decide_true, decide_false, Bool.not_true, Bool.not_false] at e3
  have hFS : ∀ x, Fast S x → x ∈ S := fun x ⟨s, _, _, h⟩ => h.right
  obtain ⟨F, m3, e4, bk, bb, bm, bl, bg⟩ := make_ok (Walks.lst t1) tn (fun c hc => g.ok c (hFS c ((tm c).mp hc))) (fun c hc => g.pos c (hFS c ((tm c).mp hc)))
  have kk : Kp [] m m2 := k0.trans_new tk (by simp)
  refine ⟨m2.length, F, m3, ?_, kk.trans bk, kk.len, bg, bb, fun x => by rw [bm, tm], bb.ss, Nat.le_trans bl tn, fun c hc => g.ok c (hFS c ((tm c).mp ((bm c).mp hc))), fun c hc => g.pos c (hFS c ((tm c).mp ((bm c).mp hc)))⟩
  have ea : dCall F__take_joined (aCons (dVar 1) (aCons (dCall F__beside_shore (aCons (dVar 0) aNil)) aNil)) [some (.ref n), some (.ref m.length), none] m1 = .ok (.ref (m1.length + 1)) m2 := by
    simp only [bodyF, PD.sFld, PD.sAug, dFld, SO.out, dVar, dC, PD.d2, PD.d1, aNil_ap, aCons_ap, dTup, dLst, dCall, dAndV, dOrV, dNotV, dIf, dChain, dB, bNot, bAnd, bOr, sSkip, sSeq, sAsg, sExpr, sRet, sRetN, sIf, sBrk, sCont, sTgt, gN, gT, gsCons, gsNil, tupItems, sStore, sDel, dLm, dLm0, on1, on2, dInt2, dInt2c, dNeg, boolD, iSeq, PD.iRng1, iRange1, bInt, intD, bAbs, absD, bind_ok, toS_ok, List.map_cons, List.map_nil, List.cons_append, List.nil_append, List.replicate, List.getElem?_cons_zero, List.getElem?_cons_succ, List.set_cons_zero, List.set_cons_succ, List.length_cons, List.length_nil, if_true, if_false, Option.bind_some, Bool.false_eq_true, decide_true, decide_false, Bool.not_true, Bool.not_false, e2, e3]
  have ec := dMake_ok (F := F_Bank___init__) (args1 ea) e4
  simp only [F_landfast, den_landfast, bodyF, PD.sFld, PD.sAug, dFld, SO.out, dVar, dC, PD.d2, PD.d1, aNil_ap, aCons_ap, dTup, dLst, dCall, dAndV, dOrV, dNotV, dIf, dChain, dB, bNot, bAnd, bOr, sSkip, sSeq, sAsg, sExpr, sRet, sRetN, sIf, sBrk, sCont, sTgt, gN, gT, gsCons, gsNil, tupItems, sStore, sDel, dLm, dLm0, on1, on2, dInt2, dInt2c, dNeg, boolD, iSeq, PD.iRng1, iRange1, bInt, intD, bAbs, absD, bind_ok, toS_ok, List.map_cons, List.map_nil, List.cons_append, List.nil_append, List.replicate, List.getElem?_cons_zero, List.getElem?_cons_succ, List.set_cons_zero, List.set_cons_succ, List.length_cons, List.length_nil, if_true, if_false, Option.bind_some, Bool.false_eq_true, decide_true, decide_false, Bool.not_true, Bool.not_false, e1, ec]
end NP
end

section
set_option maxHeartbeats 200000
namespace NP
open PySem L2 PD
def hd (cs : List Cell) : Cell := cs.headD (0, 0)
def ltC (a b : Cell) : Prop := SrtO.lexB a b = true
theorem ltC_iff {a b : Cell} : ltC a b ↔ a.1 < b.1 ∨ (a.1 = b.1 ∧ a.2 < b.2) := SrtO.lexB_iff
theorem ltC_trans {a b c : Cell} (h : ltC a b) (k : ltC b c) : ltC a c := by
  rw [ltC_iff] at *
  omega
theorem ltC_irrefl {a : Cell} : ¬ ltC a a := by
  rw [ltC_iff]
  omega
/-- the lists are the parts of S that do not hang on the shore -/
structure Part (S cs : List Cell) : Prop where
  ne : cs ≠ []
  ss : SS cs
  mem : ∀ a ∈ cs, a ∈ S ∧ ¬ Fast S a ∧ ∀ x, x ∈ cs ↔ Conn (· ∈ S) a x
structure Parts (S : List Cell) (css : List (List Cell)) : Prop where
  each : ∀ cs ∈ css, Part S cs
  all : ∀ a ∈ S, ¬ Fast S a → ∃ cs ∈ css, a ∈ cs
  ord : css.Pairwise fun c d => ltC (hd c) (hd d)
theorem hd_mem {cs : List Cell} (h : cs ≠ []) : hd cs ∈ cs := by
  cases cs with
  | nil => exact absurd rfl h
  | cons a r => exact List.mem_cons_self
theorem hd_le {cs : List Cell} (h : SS cs) {a : Cell} (ha : a ∈ cs) : a = hd cs ∨ ltC (hd cs) a := by
  cases cs with
  | nil => simp at ha
  | cons b r =>
    rcases List.mem_cons.mp ha with e | ha
    · exact .inl e
    · exact .inr ((List.pairwise_cons.mp h).1 a ha)
theorem part_eq {S c d : List Cell} (h : Part S c) (k : Part S d) {a : Cell} (ha : a ∈ c) (hb : a ∈ d) : c = d :=
  ss_uniq h.ss k.ss fun x => ((h.mem a ha).2.2 x).trans ((k.mem a hb).2.2 x).symm
theorem parts_uniq {S : List Cell} {c d : List (List Cell)} (h : Parts S c) (k : Parts S d) : c = d := by
  have nd : ∀ {e : List (List Cell)}, Parts S e → e.Nodup := fun q => q.ord.imp fun z e => by
    subst e
    exact ltC_irrefl z
  have sub : ∀ {e f : List (List Cell)}, Parts S e → Parts S f → ∀ x, x ∈ e → x ∈ f := fun {e f} q1 q2 x hx => by
    have hp := q1.each x hx
    have hm := hd_mem hp.ne
    obtain ⟨a1, a2, a3⟩ := hp.mem _ hm
    obtain ⟨y, hy, hy2⟩ := q2.all _ a1 a2
    rw [part_eq hp (q2.each y hy) hm hy2]
    exact hy
  have p : c.Perm d := (List.perm_ext_iff_of_nodup (nd h) (nd k)).mpr fun x => ⟨sub h k x, sub k h x⟩
  exact List.Perm.eq_of_pairwise (fun a b _ _ h1 h2 => absurd (ltC_trans h1 h2) ltC_irrefl) h.ord k.ord p
theorem parts_congr {S S' : List Cell} {c : List (List Cell)} (e : ∀ x, x ∈ S ↔ x ∈ S') (h : Parts S c) : Parts S' c := by
  have ef : ∀ x, Fast S x ↔ Fast S' x := fun x => ⟨fun ⟨s, a, b, q⟩ => ⟨s, (e s).mp a, b, (conn_congr e).mp q⟩, fun ⟨s, a, b, q⟩ => ⟨s, (e s).mpr a, b, (conn_congr e).mpr q⟩⟩
  exact ⟨fun cs hc => ⟨(h.each cs hc).ne, (h.each cs hc).ss, fun a ha => ⟨(e a).mp ((h.each cs hc).mem a ha).1, fun z => ((h.each cs hc).mem a ha).2.1 ((ef a).mpr z), fun x => (((h.each cs hc).mem a ha).2.2 x).trans (conn_congr e)⟩⟩, fun a ha hn => h.all a ((e a).mpr ha) fun z => hn ((ef a).mp z), h.ord⟩
/-- lists of lists in the store, none older than lo -/
structure ListsAt (lo : Nat) (m : M) (r : Nat) (css : List (List Cell)) : Prop where
  ex : ∃ ns : List Nat, m[r]? = some (MO.lst (ns.map D.ref)) ∧ ns.length = css.length ∧ (∀ n ∈ ns, lo ≤ n ∧ n ≠ r) ∧ ∀ (i n : Nat) (cs : List Cell), ns[i]? = some n → css[i]? = some cs → m[n]? = some (MO.lst (cellsD cs))
theorem ListsAt.keep {lo r : Nat} {T : List Nat} {m m' : M} {css : List (List Cell)} (h : ListsAt lo m r css) (k : Kp T m m') (hr : r ∉ T) (hT : ∀ x ∈ T, x < lo) : ListsAt lo m' r css := by
  obtain ⟨ns, h1, h2, h3, h4⟩ := h
  refine ⟨ns, k.get h1 hr, h2, h3, fun i n cs a b => k.get (h4 i n cs a b) fun z => ?_⟩
  have := (h3 n (List.mem_of_getElem? a)).1
  have := hT n z
  omega
theorem fast_conn {S : List Cell} {a b : Cell} (h : Fast S a) (k : Conn (· ∈ S) a b) : Fast S b := by
  obtain ⟨s, h1, h2, h3⟩ := h
  exact ⟨s, h1, h2, h3.trans k⟩
theorem part_of {S : List Cell} {c : Cell} {T : List Cell} (hc : c ∈ S) (hn : ¬ Fast S c) (hT : ∀ x, x ∈ T ↔ Conn (· ∈ S) c x) (nd : T.Nodup) : Part S (sortC T) := by
  have hcT : c ∈ sortC T := mem_sortC.mpr ((hT c).mpr (.refl hc))
  refine ⟨fun e => (by rw [e] at hcT; cases hcT), ss_sortC nd, fun a ha => ?_⟩
  have ha' := (hT a).mp (mem_sortC.mp ha)
  exact ⟨ha'.right, fun z => hn (fast_conn z ha'.symm), fun x => by
    rw [mem_sortC, hT]
    exact ⟨fun h => ha'.symm.trans h, fun h => ha'.trans h⟩⟩
theorem ss_at {S : List Cell} (h : SS S) {i j : Nat} {a b : Cell} (ha : S[i]? = some a) (hb : S[j]? = some b) (hij : i < j) : ltC a b := by
  obtain ⟨h1, e1⟩ := List.getElem?_eq_some_iff.mp ha
  obtain ⟨h2, e2⟩ := List.getElem?_eq_some_iff.mp hb
  have := List.pairwise_iff_getElem.mp h i j h1 h2 hij
  rw [e1, e2] at this
  exact this
theorem mem_take {α : Type} {S : List α} {i : Nat} {a : α} : a ∈ S.take i ↔ ∃ j, j < i ∧ S[j]? = some a := by
  constructor
  · intro h
    obtain ⟨j, hj⟩ := List.mem_iff_getElem?.mp h
    rw [List.getElem?_take] at hj
    by_cases q : j < i
    · rw [if_pos q] at hj; exact ⟨j, q, hj⟩
    · rw [if_neg q] at hj; cases hj
  · rintro ⟨j, h1, h2⟩
    refine List.mem_iff_getElem?.mpr ⟨j, ?_⟩
    rw [List.getElem?_take, if_pos h1, h2]
theorem islands_ok {m : M} {n : Nat} {S : List Cell} (g : Good S) (b : BankAt m n S) : ∃ r css m', F_islands [.ref n] m = .ok (.ref r) m' ∧ Kp [] m m' ∧ m.length ≤ r ∧ r < m'.length ∧ ListsAt m.length m' r css ∧ Parts S css ∧ css.length ≤ S.length := by
  obtain ⟨es, e1, h1, h2⟩ := left_ok (i := 3) (δ := [some (.ref n), none, none, none]) (δ1 := []) b g.len rfl (by simp)
  have a0 : (m ++ [MO.dT (setD es)])[m.length]? = some (.dT (setD es)) := get_new
  have k0 : Kp [] m (m ++ [MO.dT (setD es)]) := Kp.app
  have b0 := b.keep k0 rfl
  have l0 : (m ++ [MO.dT (setD es)]).length = m.length + 1 := by simp
  generalize m ++ [MO.dT (setD es)] = m1 at *
  have e2 := beside_ok b0 g.len
  obtain ⟨T, R, m2, e3, t1, t2, tk, tl, td, tm, tr, tn, trn⟩ := shore_ok g b0 a0 h1 h2
  simp only [bodyF, PD.sFld, PD.sAug, dFld, SO.out, dVar, dC, PD.d2, PD.d1, aNil_ap, aCons_ap, dTup, dLst, dCall, dAndV, dOrV, dNotV, dIf, dChain, dB, bNot, bAnd, bOr, sSkip, sSeq, sAsg, sExpr, sRet, sRetN, sIf, sBrk, sCont, sTgt, gN, gT, gsCons, gsNil, tupItems, sStore, sDel, dLm, dLm0, on1, on2, dInt2, dInt2c, dNeg, boolD, iSeq, PD.iRng1, iRange1, bInt, intD, bAbs, absD, bind_ok, toS_ok, List.map_cons, List.map_nil, List.cons_append, List.nil_append, List.replicate, List.getElem?_cons_zero, List.getElem?_cons_succ, List.set_cons_zero, List.set_cons_succ, List.length_cons, List.length_nil, if_true, if_false, Option.bind_some, Bool.false_eq_true, decide_true, decide_false, Bool.not_true, Bool.not_false] at e3
  have kk : Kp [] m m2 := k0.trans_new tk (by simp)
  have ea : dCall F__take_joined (aCons (dVar 1) (aCons (dCall F__beside_shore (aCons (dVar 0) aNil)) aNil)) [some (.ref n), some (.ref m.length), none, none] m1 = .ok (.ref (m1.length + 1)) m2 := by
    simp only [bodyF, PD.sFld, PD.sAug, dFld, SO.out, dVar, dC, PD.d2, PD.d1, aNil_ap, aCons_ap, dTup, dLst, dCall, dAndV, dOrV, dNotV, dIf, dChain, dB, bNot, bAnd, bOr, sSkip, sSeq, sAsg, sExpr, sRet, sRetN, sIf, sBrk, sCont, sTgt, gN, gT, gsCons, gsNil, tupItems, sStore, sDel, dLm, dLm0, on1, on2, dInt2, dInt2c, dNeg, boolD, iSeq, PD.iRng1, iRange1, bInt, intD, bAbs, absD, bind_ok, toS_ok, List.map_cons, List.map_nil, List.cons_append, List.nil_append, List.replicate, List.getElem?_cons_zero, List.getElem?_cons_succ, List.set_cons_zero, List.set_cons_succ, List.length_cons, List.length_nil, if_true, if_false, Option.bind_some, Bool.false_eq_true, decide_true, decide_false, Bool.not_true, Bool.not_false, e2, e3]
  -- found = []
  have f0 : (m2 ++ [MO.lst []])[m2.length]? = some (.lst (([] : List Nat).map D.ref)) := get_new
  have f1 : (m2 ++ [MO.lst []])[m.length]? = some (.dT (setD R)) := get_old t2
  have fk : Kp [] m (m2 ++ [MO.lst []]) := kk.trans Kp.app
  have fl : m2.length < (m2 ++ [MO.lst []]).length := by simp
  have hlt : m.length < m2.length := by omega
  have em3 : ∃ z, z = m2 ++ [MO.lst []] := ⟨_, rfl⟩
  obtain ⟨m3, em3⟩ := em3
  rw [← em3] at f0 f1 fk fl
  have it : iSeq (dFld "Bank" "extra" (dVar 0)) [some (.ref n), some (.ref m.length), some (.ref m2.length), none] m3 = .ok (.items (cellsD S)) m3 := by
    unfold iSeq
    rw [fld_extra (b.keep fk rfl) rfl, bind_ok]
    rfl
  obtain ⟨δ', m', e4, d, R', css, rfl, c1, c2, ck, cl, cr, crn, cp, co, ca, cn⟩ := sFor_inv (t := gN 3) (body := lb_islands_0) (xs := cellsD S) it rfl
    (fun i δ mm => ∃ d R css, δ = [some (.ref n), some (.ref m.length), some (.ref m2.length), d] ∧ ListsAt m.length mm m2.length css ∧ mm[m.length]? = some (.dT (setD R)) ∧ Kp [] m mm ∧ m2.length < mm.length ∧ (∀ x, x ∈ R ↔ x ∈ S ∧ ¬ Fast S x ∧ ∀ cs ∈ css, x ∉ cs) ∧ R.length ≤ 10000 ∧
      (∀ cs ∈ css, Part S cs ∧ hd cs ∈ S.take i) ∧ (css.Pairwise fun c d => ltC (hd c) (hd d)) ∧ (∀ a ∈ S.take i, ¬ Fast S a → ∃ cs ∈ css, a ∈ cs) ∧ css.length ≤ i)
    ⟨none, R, [], rfl, ⟨[], f0, rfl, by simp, by simp⟩, f1, fk, fl, fun x => by rw [tr]; simp, trn, by simp, List.Pairwise.nil, by simp, Nat.le_refl _⟩ (fun _ _ _ _ => rfl) (fun i x δ mm hx ⟨d, R, css, e, c1, c2, ck, cl, cr, crn, cp, co, ca, cn⟩ => by
      subst e
      obtain ⟨c, hc, rfl, hi⟩ := cellsD_at hx
      refine ⟨[some (.ref n), some (.ref m.length), some (.ref m2.length), some (cellD c)], rfl, ?_⟩
      by_cases hR : c ∈ R
      · obtain ⟨q1, q2, q3⟩ := (cr c).mp hR
        have o1 : (mm ++ [MO.lst (cellsD [c])])[mm.length]? = some (.lst (cellsD [c])) := get_new
        have o2 : (mm ++ [MO.lst (cellsD [c])])[m.length]? = some (.dT (setD R)) := get_old c2
        have ol : (mm ++ [MO.lst (cellsD [c])]).length = mm.length + 1 := by simp
        have ok : Kp [] mm (mm ++ [MO.lst (cellsD [c])]) := Kp.app
        have eo : ∃ z, z = mm ++ [MO.lst (cellsD [c])] := ⟨_, rfl⟩
        obtain ⟨m4, eo⟩ := eo
        rw [← eo] at o1 o2 ol ok
        have hRS : ∀ x ∈ R, x ∈ S := fun x hx => ((cr x).mp hx).1
        obtain ⟨T, R2, m5, e5, u1, u2, uk, ul, uj, us, uc⟩ := take_joined_ok (m := m4) o2 o1 crn (fun x hx => g.ok x (hRS x hx)) (fun x hx => by rw [List.mem_singleton.mp hx]; exact hR) (by simp)
        -- R is closed in S
        have hcl : ∀ x y, x ∈ R → y ∈ nearC x → y ∈ S → y ∈ R := fun x y hx hy hyS => by
          obtain ⟨p1, p2, p3⟩ := (cr x).mp hx
          have xy : Conn (· ∈ S) y x := .step (.refl hyS) (near_symm.mp hy) p1
          exact (cr y).mpr ⟨hyS, fun z => p2 (fast_conn z xy), fun cs hcs hyc => p3 cs hcs (((cp cs hcs).1.mem y hyc).2.2 x |>.mpr xy)⟩
        have hT : ∀ x, x ∈ T ↔ Conn (· ∈ S) c x := fun x => by
          rw [tj_mem uj us uc]
          constructor
          · rintro ⟨s, hs, h⟩
            rw [List.mem_singleton.mp hs] at h
            exact h.mono hRS
          · intro h
            exact ⟨c, List.mem_singleton.mpr rfl, (h.within (P := (· ∈ R)) hR hcl).mono fun x hx => hx.2⟩
        have hp : Part S (sortC T) := part_of hc q2 hT uj.nd
        have hcT : c ∈ T := (hT c).mpr (.refl hc)
        have hTR : ∀ x ∈ T, x ∈ R := uj.sub
        have hhd : hd (sortC T) = c := by
          have hm := hd_mem hp.ne
          rcases hd_le hp.ss (mem_sortC.mpr hcT) with z | z
          · exact z.symm
          · exfalso
            have hR' := hTR _ (mem_sortC.mp hm)
            obtain ⟨r1, r2, r3⟩ := (cr _).mp hR'
            obtain ⟨j, hj⟩ := List.mem_iff_getElem?.mp r1
            by_cases hji : j < i
            · obtain ⟨cs, w1, w2⟩ := ca _ (mem_take.mpr ⟨j, hji, hj⟩) r2
              exact r3 cs w1 w2
            · by_cases hje : j = i
              · subst hje
                rw [hi] at hj
                cases hj
                exact ltC_irrefl z
              · exact ltC_irrefl (ltC_trans z (ss_at g.ss hi hj (by omega)))
        have v1 := bSorted_cells u1
        have v2 : (m5 ++ [MO.lst (cellsD (sortC T))])[m5.length]? = some (.lst (cellsD (sortC T))) := get_new
        have kU : Kp [m.length] mm (m5 ++ [MO.lst (cellsD (sortC T))]) := (ok.mono (by simp)).trans (uk.trans Kp.app)
        obtain ⟨ns, n1, n2, n3, n4⟩ := c1
        have w1 : (m5 ++ [MO.lst (cellsD (sortC T))])[m2.length]? = some (.lst (ns.map D.ref)) := kU.get n1 (by simp; omega)
        have w2 : (m5 ++ [MO.lst (cellsD (sortC T))])[m.length]? = some (.dT (setD R2)) := get_old u2
        have wl : (m5 ++ [MO.lst (cellsD (sortC T))]).length = m5.length + 1 := by simp
        have hm5 : mm.length + 1 < m5.length := by omega
        have ew : ∃ z, z = m5 ++ [MO.lst (cellsD (sortC T))] := ⟨_, rfl⟩
        obtain ⟨m6, ew⟩ := ew
        rw [← ew] at v1 v2 kU w1 w2 wl
        have hns : (ns.map D.ref).length < cap := by
          have hle : i < S.length := (List.getElem?_eq_some_iff.mp hi).1
          have := g.len
          rw [List.length_map, n2]
          unfold cap
          omega
        have ap := app_ok (y := D.ref m5.length) w1 hns
        refine ⟨[some (.ref n), some (.ref m.length), some (.ref m2.length), some (cellD c)], m6.set m2.length (.lst (ns.map D.ref ++ [.ref m5.length])), ?_, some (cellD c), R2, css ++ [sortC T], rfl, ⟨ns ++ [m5.length], ?_, ?_, ?_, ?_⟩, ?_, ?_, ?_, ?_, ?_, ?_, ?_, ?_, ?_⟩
        · have hd : decide (c ∈ R) = true := decide_eq_true hR
          have hin := dIn_set (c := c) c2
          rw [hd] at hin
          have c1' : (0 + 1 : Nat) ≤ cap := by decide
          have el : [MO.lst [cellD c]] = [MO.lst (cellsD [c])] := rfl
          simp only [lb_islands_0, bodyF, PD.sFld, PD.sAug, dFld, SO.out, dVar, dC, PD.d2, PD.d1, aNil_ap, aCons_ap, dTup, dLst, dCall, dAndV, dOrV, dNotV, dIf, dChain, dB, bNot, bAnd, bOr, sSkip, sSeq, sAsg, sExpr, sRet, sRetN, sIf, sBrk, sCont, sTgt, gN, gT, gsCons, gsNil, tupItems, sStore, sDel, dLm, dLm0, on1, on2, dInt2, dInt2c, dNeg, boolD, iSeq, PD.iRng1, iRange1, bInt, intD, bAbs, absD, bind_ok, toS_ok, List.map_cons, List.map_nil, List.cons_append, List.nil_append, List.replicate, List.getElem?_cons_zero, List.getElem?_cons_succ, List.set_cons_zero, List.set_cons_succ, List.length_cons, List.length_nil, if_true, if_false, Option.bind_some, Bool.false_eq_true, decide_true, decide_false, Bool.not_true, Bool.not_false, hin, lsAt_of n1, if_pos c1', el, ← eo, e5, v1, ap]
        · rw [get_set w1]
          simp
        · simp [n2]
        · intro k hk
          rcases List.mem_append.mp hk with hk | hk
          · exact n3 k hk
          · rw [List.mem_singleton.mp hk]
            omega
        · intro j k cs hj hcs
          have hkne : k ≠ m2.length := by
            rcases List.mem_append.mp (List.mem_of_getElem? hj) with z | z
            · exact (n3 k z).2
            · rw [List.mem_singleton.mp z]; omega
          rw [get_set_ne (Ne.symm hkne)]
          by_cases hjl : j < ns.length
          · rw [List.getElem?_append_left hjl] at hj
            rw [List.getElem?_append_left (by omega)] at hcs
            have hkl := n4 j k cs hj hcs
            refine kU.get hkl ?_
            intro z
            rw [List.mem_singleton] at z
            subst z
            rw [c2] at hkl
            cases hkl
          · have hje : j = ns.length := by
              have := (List.getElem?_eq_some_iff.mp hj).1
              simp at this
              omega
            subst hje
            rw [List.getElem?_append_right (Nat.le_refl _)] at hj
            rw [n2, List.getElem?_append_right (Nat.le_refl _)] at hcs
            simp at hj hcs
            subst hj hcs
            exact v2
        · rw [get_set_ne (by omega)]
          exact w2
        · have ks : Kp [m.length, m2.length] mm (m6.set m2.length (.lst (ns.map D.ref ++ [.ref m5.length]))) := (kU.mono (by simp)).trans (Kp.set (by simp))
          exact ck.trans_new ks (fun x hx => by simp at hx; omega)
        · rw [List.length_set, wl]
          omega
        · intro x
          rw [uj.rest, cr, hT]
          constructor
          · rintro ⟨⟨p1, p2, p3⟩, p4⟩
            refine ⟨p1, p2, fun cs hcs => ?_⟩
            rcases List.mem_append.mp hcs with z | z
            · exact p3 cs z
            · rw [List.mem_singleton.mp z, mem_sortC, hT]
              exact p4
          · rintro ⟨p1, p2, p3⟩
            refine ⟨⟨p1, p2, fun cs hcs => p3 cs (List.mem_append_left _ hcs)⟩, fun z => ?_⟩
            exact p3 (sortC T) (List.mem_append_right _ (List.mem_singleton.mpr rfl)) (mem_sortC.mpr ((hT x).mpr z))
        · have := uj.len
          omega
        · intro cs hcs
          rcases List.mem_append.mp hcs with z | z
          · obtain ⟨p1, p2⟩ := cp cs z
            obtain ⟨j, hj1, hj2⟩ := mem_take.mp p2
            exact ⟨p1, mem_take.mpr ⟨j, by omega, hj2⟩⟩
          · rw [List.mem_singleton.mp z, hhd]
            exact ⟨hp, mem_take.mpr ⟨i, by omega, hi⟩⟩
        · rw [List.pairwise_append]
          refine ⟨co, List.pairwise_singleton _ _, fun a ha b' hb => ?_⟩
          rw [List.mem_singleton.mp hb, hhd]
          obtain ⟨j, hj1, hj2⟩ := mem_take.mp (cp a ha).2
          exact ss_at g.ss hj2 hi hj1
        · intro a ha hn
          obtain ⟨j, hj1, hj2⟩ := mem_take.mp ha
          by_cases hji : j < i
          · obtain ⟨cs, w1, w2⟩ := ca a (mem_take.mpr ⟨j, hji, hj2⟩) hn
            exact ⟨cs, List.mem_append_left _ w1, w2⟩
          · have : j = i := by omega
            subst this
            rw [hi] at hj2
            cases hj2
            exact ⟨sortC T, List.mem_append_right _ (List.mem_singleton.mpr rfl), mem_sortC.mpr hcT⟩
        · simp
          omega
      · refine ⟨_, mm, ?_, some (cellD c), R, css, rfl, c1, c2, ck, cl, cr, crn, fun cs hcs => ?_, co, fun a ha hn => ?_, by omega⟩
        · have hd : decide (c ∈ R) = false := decide_eq_false hR
          have hin := dIn_set (c := c) c2
          rw [hd] at hin
          simp only [lb_islands_0, bodyF, PD.sFld, PD.sAug, dFld, SO.out, dVar, dC, PD.d2, PD.d1, aNil_ap, aCons_ap, dTup, dLst, dCall, dAndV, dOrV, dNotV, dIf, dChain, dB, bNot, bAnd, bOr, sSkip, sSeq, sAsg, sExpr, sRet, sRetN, sIf, sBrk, sCont, sTgt, gN, gT, gsCons, gsNil, tupItems, sStore, sDel, dLm, dLm0, on1, on2, dInt2, dInt2c, dNeg, boolD, iSeq, PD.iRng1, iRange1, bInt, intD, bAbs, absD, bind_ok, toS_ok, List.map_cons, List.map_nil, List.cons_append, List.nil_append, List.replicate, List.getElem?_cons_zero, List.getElem?_cons_succ, List.set_cons_zero, List.set_cons_succ, List.length_cons, List.length_nil, if_true, if_false, Option.bind_some, Bool.false_eq_true, decide_true, decide_false, Bool.not_true, Bool.not_false, hin]
        · obtain ⟨p1, p2⟩ := cp cs hcs
          obtain ⟨j, hj1, hj2⟩ := mem_take.mp p2
          exact ⟨p1, mem_take.mpr ⟨j, by omega, hj2⟩⟩
        · obtain ⟨j, hj1, hj2⟩ := mem_take.mp ha
          by_cases hji : j < i
          · exact ca a (mem_take.mpr ⟨j, hji, hj2⟩) hn
          · have : j = i := by omega
            subst this
            rw [hi] at hj2
            cases hj2
            refine Classical.byContradiction fun z => hR ((cr c).mpr ⟨hc, hn, fun cs hcs hac => z ⟨cs, hcs, hac⟩⟩))
  rw [len_cellsD] at cn ca cp
  rw [List.take_length] at ca
  refine ⟨m2.length, css, m', ?_, ck, by omega, cl, c1, ⟨fun cs hcs => (cp cs hcs).1, ca, co⟩, cn⟩
  have c0 : (0 : Nat) ≤ cap := Nat.zero_le _
  simp only [F_islands, den_islands, bodyF, PD.sFld, PD.sAug, dFld, SO.out, dVar, dC, PD.d2, PD.d1, aNil_ap, aCons_ap, dTup, dLst, dCall, dAndV, dOrV, dNotV, dIf, dChain, dB, bNot, bAnd, bOr, sSkip, sSeq, sAsg, sExpr, sRet, sRetN, sIf, sBrk, sCont, sTgt, gN, gT, gsCons, gsNil, tupItems, sStore, sDel, dLm, dLm0, on1, on2, dInt2, dInt2c, dNeg, boolD, iSeq, PD.iRng1, iRange1, bInt, intD, bAbs, absD, bind_ok, toS_ok, List.map_cons, List.map_nil, List.cons_append, List.nil_append, List.replicate, List.getElem?_cons_zero, List.getElem?_cons_succ, List.set_cons_zero, List.set_cons_succ, List.length_cons, List.length_nil, if_true, if_false, Option.bind_some, Bool.false_eq_true, decide_true, decide_false, Bool.not_true, Bool.not_false, e1, e2, e3, if_pos c0, ← em3, e4]
end NP
end

section
set_option maxHeartbeats 400000
namespace NP
open PySem L2 PD
/-! ### _law_plain -/
theorem plain_ok {m : M} {r : Nat} {cs : List Cell} (e : m[r]? = some (.lst (cellsD cs))) (hl : cs.length ≤ 10000) : ∃ P n m', F__law_plain [.ref r] m = .ok (.ref n) m' ∧ Kp [] m m' ∧ m.length ≤ n ∧ m'[n]? = some (.lst (cellsD P)) ∧ SS P ∧ (∀ x, x ∈ P ↔ x ∈ cs) ∧ P.length ≤ cs.length := by
  have a0 : (m ++ [MO.lst []])[m.length]? = some (.lst (cellsD [])) := get_new
  have a1 : (m ++ [MO.lst []])[r]? = some (.lst (cellsD cs)) := get_old e
  have k0 : Kp [] m (m ++ [MO.lst []]) := Kp.app
  have l0 : (m ++ [MO.lst []]).length = m.length + 1 := by simp
  have em : ∃ z, z = m ++ [MO.lst []] := ⟨_, rfl⟩
  obtain ⟨m1, em⟩ := em
  rw [← em] at a0 a1 k0 l0
  have s1 := bSorted_cells a1
  have b0 : (m1 ++ [MO.lst (cellsD (sortC cs))])[m.length]? = some (.lst (cellsD [])) := get_old a0
  have b1 : (m1 ++ [MO.lst (cellsD (sortC cs))])[m1.length]? = some (.lst (cellsD (sortC cs))) := get_new
  have k1 : Kp [] m (m1 ++ [MO.lst (cellsD (sortC cs))]) := k0.trans Kp.app
  have l1 : (m1 ++ [MO.lst (cellsD (sortC cs))]).length = m.length + 2 := by simp [l0]
  have em2 : ∃ z, z = m1 ++ [MO.lst (cellsD (sortC cs))] := ⟨_, rfl⟩
  obtain ⟨m2, em2⟩ := em2
  rw [← em2] at s1 b0 b1 k1 l1
  have it : iSeq (dCall bSorted (aCons (dVar 0) aNil)) [some (.ref r), some (.ref m.length), none] m1 = .ok (.live m1.length) m2 := by
    simp only [bodyF, PD.sFld, PD.sAug, dFld, SO.out, dVar, dC, PD.d2, PD.d1, aNil_ap, aCons_ap, dTup, dLst, dCall, dAndV, dOrV, dNotV, dIf, dChain, dB, bNot, bAnd, bOr, sSkip, sSeq, sAsg, sExpr, sRet, sRetN, sIf, sBrk, sCont, sTgt, gN, gT, gsCons, gsNil, tupItems, sStore, sDel, dLm, dLm0, on1, on2, dInt2, dInt2c, dNeg, boolD, iSeq, PD.iRng1, iRange1, bInt, intD, bAbs, absD, bind_ok, toS_ok, List.map_cons, List.map_nil, List.cons_append, List.nil_append, List.replicate, List.getElem?_cons_zero, List.getElem?_cons_succ, List.set_cons_zero, List.set_cons_succ, List.length_cons, List.length_nil, if_true, if_false, Option.bind_some, Bool.false_eq_true, decide_true, decide_false, Bool.not_true, Bool.not_false, s1, iterD, lsAt_of b1]
  obtain ⟨δ', m', e4, d, F, rfl, c0, c1, ck, cs0, cm, cn⟩ := sFor_inv (t := gN 2) (body := lb__law_plain_0) it (lsAt_of b1)
    (fun i δ mm => ∃ d F, δ = [some (.ref r), some (.ref m.length), d] ∧ mm[m.length]? = some (.lst (cellsD F)) ∧ mm[m1.length]? = some (.lst (cellsD (sortC cs))) ∧ Kp [] m mm ∧ SS F ∧ (∀ x, x ∈ F ↔ x ∈ (sortC cs).take i) ∧ F.length ≤ i)
    ⟨none, [], rfl, b0, b1, k1, List.Pairwise.nil, by simp, Nat.le_refl _⟩ (fun _ _ _ ⟨_, _, _, _, z, _⟩ => lsAt_of z) (fun i x δ mm hx ⟨d, F, e, c0, c1, ck, cs0, cm, cn⟩ => by
      subst e
      obtain ⟨c, hc, rfl, hi⟩ := cellsD_at hx
      refine ⟨[some (.ref r), some (.ref m.length), some (cellD c)], rfl, ?_⟩
      have hin := dNotIn_cells (c := c) c0
      have hlen := (sortC_perm cs).length_eq
      have hil := (List.getElem?_eq_some_iff.mp hi).1
      have tk : (sortC cs).take (i + 1) = (sortC cs).take i ++ [c] := by
        rw [List.take_add_one, hi]
        rfl
      by_cases hF : c ∈ F
      · refine ⟨_, mm, ?_, some (cellD c), F, rfl, c0, c1, ck, cs0, fun x => ?_, by omega⟩
        · have hd : (!decide (c ∈ F)) = false := by rw [decide_eq_true hF]; rfl
          rw [hd] at hin
          simp only [lb__law_plain_0, bodyF, PD.sFld, PD.sAug, dFld, SO.out, dVar, dC, PD.d2, PD.d1, aNil_ap, aCons_ap, dTup, dLst, dCall, dAndV, dOrV, dNotV, dIf, dChain, dB, bNot, bAnd, bOr, sSkip, sSeq, sAsg, sExpr, sRet, sRetN, sIf, sBrk, sCont, sTgt, gN, gT, gsCons, gsNil, tupItems, sStore, sDel, dLm, dLm0, on1, on2, dInt2, dInt2c, dNeg, boolD, iSeq, PD.iRng1, iRange1, bInt, intD, bAbs, absD, bind_ok, toS_ok, List.map_cons, List.map_nil, List.cons_append, List.nil_append, List.replicate, List.getElem?_cons_zero, List.getElem?_cons_succ, List.set_cons_zero, List.set_cons_succ, List.length_cons, List.length_nil, if_true, if_false, Option.bind_some, Bool.false_eq_true, decide_true, decide_false, Bool.not_true, Bool.not_false, hin]
        · rw [tk, List.mem_append, List.mem_singleton, cm]
          constructor
          · exact .inl
          · rintro (z | rfl)
            · exact z
            · exact (cm x).mp hF
      · have ap := app_ok (y := cellD c) c0 (by rw [len_cellsD]; unfold cap; omega)
        rw [cellsD_snoc] at ap
        refine ⟨_, mm.set m.length (.lst (cellsD (F ++ [c]))), ?_, some (cellD c), F ++ [c], rfl, get_set c0, by rw [get_set_ne (by omega)]; exact c1, ck.trans_new (T := [m.length]) (Kp.set (by simp)) (by simp), ?_, fun x => ?_, by simp; omega⟩
        · have hd : (!decide (c ∈ F)) = true := by rw [decide_eq_false hF]; rfl
          rw [hd] at hin
          simp only [lb__law_plain_0, bodyF, PD.sFld, PD.sAug, dFld, SO.out, dVar, dC, PD.d2, PD.d1, aNil_ap, aCons_ap, dTup, dLst, dCall, dAndV, dOrV, dNotV, dIf, dChain, dB, bNot, bAnd, bOr, sSkip, sSeq, sAsg, sExpr, sRet, sRetN, sIf, sBrk, sCont, sTgt, gN, gT, gsCons, gsNil, tupItems, sStore, sDel, dLm, dLm0, on1, on2, dInt2, dInt2c, dNeg, boolD, iSeq, PD.iRng1, iRange1, bInt, intD, bAbs, absD, bind_ok, toS_ok, List.map_cons, List.map_nil, List.cons_append, List.nil_append, List.replicate, List.getElem?_cons_zero, List.getElem?_cons_succ, List.set_cons_zero, List.set_cons_succ, List.length_cons, List.length_nil, if_true, if_false, Option.bind_some, Bool.false_eq_true, decide_true, decide_false, Bool.not_true, Bool.not_false, hin, lsAt_of c0, ap]
        · unfold SS
          rw [List.pairwise_append]
          refine ⟨cs0, List.pairwise_singleton _ _, fun a ha b hb => ?_⟩
          rw [List.mem_singleton.mp hb]
          obtain ⟨j, hj1, hj2⟩ := mem_take.mp ((cm a).mp ha)
          have hs := sortC_sorted cs
          obtain ⟨h1, e1⟩ := List.getElem?_eq_some_iff.mp hj2
          obtain ⟨h2, e2⟩ := List.getElem?_eq_some_iff.mp hi
          have q := List.pairwise_iff_getElem.mp hs j i h1 h2 hj1
          rw [e1, e2, leC_true] at q
          have hne : a ≠ c := fun z => hF (z ▸ ha)
          rw [lexB_true]
          by_cases p1 : a.1 = c.1
          · by_cases p2 : a.2 = c.2
            · exact absurd (Prod.ext p1 p2) hne
            · omega
          · omega
        · rw [tk, List.mem_append, List.mem_append, cm])
  rw [len_cellsD] at cm cn
  rw [List.take_length] at cm
  refine ⟨F, m.length, m', ?_, ck, Nat.le_refl _, c0, cs0, fun x => by rw [cm, mem_sortC], by rw [(sortC_perm cs).length_eq] at cn; exact cn⟩
  have z0 : (0 : Nat) ≤ cap := Nat.zero_le _
  simp only [F__law_plain, den__law_plain, bodyF, PD.sFld, PD.sAug, dFld, SO.out, dVar, dC, PD.d2, PD.d1, aNil_ap, aCons_ap, dTup, dLst, dCall, dAndV, dOrV, dNotV, dIf, dChain, dB, bNot, bAnd, bOr, sSkip, sSeq, sAsg, sExpr, sRet, sRetN, sIf, sBrk, sCont, sTgt, gN, gT, gsCons, gsNil, tupItems, sStore, sDel, dLm, dLm0, on1, on2, dInt2, dInt2c, dNeg, boolD, iSeq, PD.iRng1, iRange1, bInt, intD, bAbs, absD, bind_ok, toS_ok, List.map_cons, List.map_nil, List.cons_append, List.nil_append, List.replicate, List.getElem?_cons_zero, List.getElem?_cons_succ, List.set_cons_zero, List.set_cons_succ, List.length_cons, List.length_nil, if_true, if_false, Option.bind_some, Bool.false_eq_true, decide_true, decide_false, Bool.not_true, Bool.not_false, if_pos z0, ← em, e4]
/-! ### _law_same -/
def Sm (z : Nat) (a b : D) (m : M) : Prop := FR__law_same z [a, b] m = .ok (.bl true) m
theorem bIsi_of {x : D} {m : M} {t T : String} {b : Bool} (h : tyD x m = some t) (k : kitB t T = some b) : bIsi [x, .ty T] m = .ok (.bl b) m := by
  show isiD x (.ty T) m = _
  unfold isiD
  simp only [h, k]
theorem k1 : kitB "tuple" "int" = some false := by decide +kernel
theorem k2 : kitB "tuple" "str" = some false := by decide +kernel
theorem k3 : kitB "tuple" "tuple" = some true := by decide +kernel
theorem k4 : kitB "tuple" "list" = some false := by decide +kernel
theorem k5 : kitB "list" "int" = some false := by decide +kernel
theorem k6 : kitB "list" "str" = some false := by decide +kernel
theorem k7 : kitB "list" "tuple" = some false := by decide +kernel
theorem k8 : kitB "list" "list" = some true := by decide +kernel
theorem k9 : kitB "int" "int" = some true := by decide +kernel
theorem k10 : kitB "int" "bool" = some false := by decide +kernel
theorem same_int {z : Nat} {i : Int} {m : M} : Sm (z + 1) (.int i) (.int i) m := by
  have e1 : dIs (.int i) .non m = .ok (.bl false) m := rfl
  have e2 : ∀ b, dIs (.int i) (.bl b) m = .ok (.bl false) m := fun _ => rfl
  have t : tyD (.int i) m = some "int" := rfl
  have q := dEq_int (a := i) (b := i) (m := m)
  have d : decide (i = i) = true := decide_eq_true rfl
  rw [d] at q
  show (if [D.int i, D.int i].length = 2 then bodyF 1 (den__law_same (FR__law_same z)) [.int i, .int i] m else .bad) = _
  simp only [den__law_same, bodyF, PD.sFld, PD.sAug, dFld, SO.out, dVar, dC, PD.d2, PD.d1, aNil_ap, aCons_ap, dTup, dLst, dCall, dAndV, dOrV, dNotV, dIf, dChain, dB, bNot, bAnd, bOr, sSkip, sSeq, sAsg, sExpr, sRet, sRetN, sIf, sBrk, sCont, sTgt, gN, gT, gsCons, gsNil, tupItems, sStore, sDel, dLm, dLm0, on1, on2, dInt2, dInt2c, dNeg, boolD, iSeq, PD.iRng1, iRange1, bInt, intD, bAbs, absD, bind_ok, toS_ok, List.map_cons, List.map_nil, List.cons_append, List.nil_append, List.replicate, List.getElem?_cons_zero, List.getElem?_cons_succ, List.set_cons_zero, List.set_cons_succ, List.length_cons, List.length_nil, if_true, if_false, Option.bind_some, Bool.false_eq_true, decide_true, decide_false, Bool.not_true, Bool.not_false, e1, e2, bIsi_of t k9, bIsi_of t k10, q]
theorem same_true {z : Nat} {m : M} : Sm (z + 1) (.bl true) (.bl true) m := by
  have e1 : dIs (.bl true) .non m = .ok (.bl false) m := rfl
  have e2 : dIs (.bl true) (.bl true) m = .ok (.bl true) m := rfl
  show (if [D.bl true, D.bl true].length = 2 then bodyF 1 (den__law_same (FR__law_same z)) [.bl true, .bl true] m else .bad) = _
  simp only [den__law_same, bodyF, PD.sFld, PD.sAug, dFld, SO.out, dVar, dC, PD.d2, PD.d1, aNil_ap, aCons_ap, dTup, dLst, dCall, dAndV, dOrV, dNotV, dIf, dChain, dB, bNot, bAnd, bOr, sSkip, sSeq, sAsg, sExpr, sRet, sRetN, sIf, sBrk, sCont, sTgt, gN, gT, gsCons, gsNil, tupItems, sStore, sDel, dLm, dLm0, on1, on2, dInt2, dInt2c, dNeg, boolD, iSeq, PD.iRng1, iRange1, bInt, intD, bAbs, absD, bind_ok, toS_ok, List.map_cons, List.map_nil, List.cons_append, List.nil_append, List.replicate, List.getElem?_cons_zero, List.getElem?_cons_succ, List.set_cons_zero, List.set_cons_succ, List.length_cons, List.length_nil, if_true, if_false, Option.bind_some, Bool.false_eq_true, decide_true, decide_false, Bool.not_true, Bool.not_false, e1, e2]
/-- two rows of one kind -/
theorem same_seq {z : Nat} {a b : D} {m : M} {xs ys : List D} (ha : itemsOf a m = some xs) (hb : itemsOf b m = some ys) (hl : xs.length = ys.length) (hc : ys.length ≤ 100000) (k : (tyD a m = some "tuple" ∧ tyD b m = some "tuple") ∨ (tyD a m = some "list" ∧ tyD b m = some "list"))
    (la : bLen [a] m = .ok (.int xs.length) m) (lb : bLen [b] m = .ok (.int ys.length) m)
    (h : ∀ (i : Nat) (x y : D), xs[i]? = some x → ys[i]? = some y → Sm z x y m) : Sm (z + 1) a b m := by
  have nb : ∀ b' : D, (b' = .non ∨ ∃ c, b' = .bl c) → dIs b b' m = .ok (.bl false) m := fun b' hb' => by
    have nn : b ≠ .non := fun e => by subst e; rcases k with ⟨_, k⟩ | ⟨_, k⟩ <;> simp [tyD] at k
    have nc : ∀ c, b ≠ .bl c := fun c e => by subst e; rcases k with ⟨_, k⟩ | ⟨_, k⟩ <;> simp [tyD] at k
    unfold dIs sameC
    rcases hb' with rfl | ⟨c, rfl⟩
    · cases b <;> first | rfl | exact absurd rfl nn
    · cases b <;> first | rfl | exact absurd rfl (nc _)
  have e1 := nb .non (.inl rfl)
  have e2 := nb (.bl true) (.inr ⟨_, rfl⟩)
  have e3 := nb (.bl false) (.inr ⟨_, rfl⟩)
  have hln : dNe (.int (xs.length : Nat)) (.int (ys.length : Nat)) m = .ok (.bl false) m := by
    rw [hl]
    unfold dNe eqD
    simp only [pyN, py_int, eqv_int, decide_true]
    rfl
  have hr : rngOk (ys.length : Nat) = true := by
    unfold rngOk
    simp
    omega
  have it : PD.iRng1 (aCons (dCall bLen (aCons (dVar 1) aNil)) aNil) [some a, some b, none] m = .ok (.items (rngD 0 ys.length)) m := by
    simp only [bodyF, PD.sFld, PD.sAug, dFld, SO.out, dVar, dC, PD.d2, PD.d1, aNil_ap, aCons_ap, dTup, dLst, dCall, dAndV, dOrV, dNotV, dIf, dChain, dB, bNot, bAnd, bOr, sSkip, sSeq, sAsg, sExpr, sRet, sRetN, sIf, sBrk, sCont, sTgt, gN, gT, gsCons, gsNil, tupItems, sStore, sDel, dLm, dLm0, on1, on2, dInt2, dInt2c, dNeg, boolD, iSeq, PD.iRng1, iRange1, bInt, intD, bAbs, absD, bind_ok, toS_ok, List.map_cons, List.map_nil, List.cons_append, List.nil_append, List.replicate, List.getElem?_cons_zero, List.getElem?_cons_succ, List.set_cons_zero, List.set_cons_succ, List.length_cons, List.length_nil, if_true, if_false, Option.bind_some, Bool.false_eq_true, decide_true, decide_false, Bool.not_true, Bool.not_false, lb, hr]
  have hrl : (rngD 0 ys.length).length = ys.length := by unfold rngD; simp
  obtain ⟨δ', m', e4, hm', d, hd'⟩ := sFor_inv (t := gN 2) (body := lb__law_same_0 (FR__law_same z)) it rfl (fun i δ mm => mm = m ∧ ∃ d, δ = [some a, some b, d]) ⟨rfl, none, rfl⟩ (fun _ _ _ _ => rfl) (fun i x δ mm hx ⟨hm, d, hd⟩ => by
    subst hm hd
    have hi : i < ys.length := by rw [← hrl]; exact (List.getElem?_eq_some_iff.mp hx).1
    have hx' : x = .int (i : Nat) := by
      unfold rngD at hx
      rw [List.getElem?_map, List.getElem?_range (by simpa using hi)] at hx
      simp at hx
      exact hx.symm
    subst hx'
    refine ⟨[some a, some b, some (.int (i : Nat))], rfl, [some a, some b, some (.int (i : Nat))], mm, ?_, rfl, _, rfl⟩
    have hi2 : i < xs.length := by omega
    have q1 := ixD_nat ha (List.getElem?_eq_getElem hi2)
    have q2 := ixD_nat hb (List.getElem?_eq_getElem hi)
    have q3 : FR__law_same z [xs[i], ys[i]] mm = .ok (.bl true) mm := h i _ _ (List.getElem?_eq_getElem hi2) (List.getElem?_eq_getElem hi)
    simp only [lb__law_same_0, bodyF, PD.sFld, PD.sAug, dFld, SO.out, dVar, dC, PD.d2, PD.d1, aNil_ap, aCons_ap, dTup, dLst, dCall, dAndV, dOrV, dNotV, dIf, dChain, dB, bNot, bAnd, bOr, sSkip, sSeq, sAsg, sExpr, sRet, sRetN, sIf, sBrk, sCont, sTgt, gN, gT, gsCons, gsNil, tupItems, sStore, sDel, dLm, dLm0, on1, on2, dInt2, dInt2c, dNeg, boolD, iSeq, PD.iRng1, iRange1, bInt, intD, bAbs, absD, bind_ok, toS_ok, List.map_cons, List.map_nil, List.cons_append, List.nil_append, List.replicate, List.getElem?_cons_zero, List.getElem?_cons_succ, List.set_cons_zero, List.set_cons_succ, List.length_cons, List.length_nil, if_true, if_false, Option.bind_some, Bool.false_eq_true, decide_true, decide_false, Bool.not_true, Bool.not_false, q1, q2, q3])
  rw [hm', hd'] at e4
  show (if [a, b].length = 2 then bodyF 1 (den__law_same (FR__law_same z)) [a, b] m else .bad) = _
  rcases k with ⟨ka, kb⟩ | ⟨ka, kb⟩
  · simp only [den__law_same, bodyF, PD.sFld, PD.sAug, dFld, SO.out, dVar, dC, PD.d2, PD.d1, aNil_ap, aCons_ap, dTup, dLst, dCall, dAndV, dOrV, dNotV, dIf, dChain, dB, bNot, bAnd, bOr, sSkip, sSeq, sAsg, sExpr, sRet, sRetN, sIf, sBrk, sCont, sTgt, gN, gT, gsCons, gsNil, tupItems, sStore, sDel, dLm, dLm0, on1, on2, dInt2, dInt2c, dNeg, boolD, iSeq, PD.iRng1, iRange1, bInt, intD, bAbs, absD, bind_ok, toS_ok, List.map_cons, List.map_nil, List.cons_append, List.nil_append, List.replicate, List.getElem?_cons_zero, List.getElem?_cons_succ, List.set_cons_zero, List.set_cons_succ, List.length_cons, List.length_nil, if_true, if_false, Option.bind_some, Bool.false_eq_true, decide_true, decide_false, Bool.not_true, Bool.not_false, e1, e2, e3, bIsi_of kb k1, bIsi_of kb k2, bIsi_of kb k3, bIsi_of ka k3, bIsi_of kb k4, la, lb, hln, e4]
  · simp only [den__law_same, bodyF, PD.sFld, PD.sAug, dFld, SO.out, dVar, dC, PD.d2, PD.d1, aNil_ap, aCons_ap, dTup, dLst, dCall, dAndV, dOrV, dNotV, dIf, dChain, dB, bNot, bAnd, bOr, sSkip, sSeq, sAsg, sExpr, sRet, sRetN, sIf, sBrk, sCont, sTgt, gN, gT, gsCons, gsNil, tupItems, sStore, sDel, dLm, dLm0, on1, on2, dInt2, dInt2c, dNeg, boolD, iSeq, PD.iRng1, iRange1, bInt, intD, bAbs, absD, bind_ok, toS_ok, List.map_cons, List.map_nil, List.cons_append, List.nil_append, List.replicate, List.getElem?_cons_zero, List.getElem?_cons_succ, List.set_cons_zero, List.set_cons_succ, List.length_cons, List.length_nil, if_true, if_false, Option.bind_some, Bool.false_eq_true, decide_true, decide_false, Bool.not_true, Bool.not_false, e1, e2, e3, bIsi_of kb k5, bIsi_of kb k6, bIsi_of kb k7, bIsi_of kb k8, bIsi_of ka k8, la, lb, hln, e4]
theorem same_tup {z : Nat} {m : M} {xs ys : List D} (hl : xs.length = ys.length) (hc : ys.length ≤ 100000) (h : ∀ (i : Nat) (x y : D), xs[i]? = some x → ys[i]? = some y → Sm z x y m) : Sm (z + 1) (.tup xs) (.tup ys) m :=
  same_seq rfl rfl hl hc (.inl ⟨rfl, rfl⟩) rfl rfl h
theorem same_lst {z : Nat} {m : M} {r s : Nat} {xs ys : List D} (hr : m[r]? = some (.lst xs)) (hs : m[s]? = some (.lst ys)) (hl : xs.length = ys.length) (hc : ys.length ≤ 100000) (h : ∀ (i : Nat) (x y : D), xs[i]? = some x → ys[i]? = some y → Sm z x y m) : Sm (z + 1) (.ref r) (.ref s) m :=
  same_seq (items_ref hr) (items_ref hs) hl hc (.inr ⟨by unfold tyD; simp only [hr], by unfold tyD; simp only [hs]⟩) (len_lst hr) (len_lst hs) h
theorem same_cell {z : Nat} {m : M} {c : Cell} : Sm (z + 2) (cellD c) (cellD c) m :=
  same_tup (xs := [.int c.1, .int c.2]) (ys := [.int c.1, .int c.2]) rfl (by simp) fun i x y hx hy => by
    rw [hx] at hy
    cases hy
    match i, hx with
    | 0, hx => cases hx; exact same_int
    | 1, hx => cases hx; exact same_int
    | i + 2, hx => simp at hx
theorem same_tcells {z : Nat} {m : M} {cs : List Cell} (hc : cs.length ≤ 100000) : Sm (z + 3) (.tup (cellsD cs)) (.tup (cellsD cs)) m :=
  same_tup rfl (by rw [len_cellsD]; exact hc) fun i x y hx hy => by
    rw [hx] at hy
    cases hy
    obtain ⟨c, _, rfl, _⟩ := cellsD_at hx
    exact same_cell
theorem same_cells {z : Nat} {m : M} {r s : Nat} {cs : List Cell} (hr : m[r]? = some (.lst (cellsD cs))) (hs : m[s]? = some (.lst (cellsD cs))) (hc : cs.length ≤ 100000) : Sm (z + 3) (.ref r) (.ref s) m :=
  same_lst hr hs rfl (by rw [len_cellsD]; exact hc) fun i x y hx hy => by
    rw [hx] at hy
    cases hy
    obtain ⟨c, _, rfl, _⟩ := cellsD_at hx
    exact same_cell
theorem same_lists {z lo lo' : Nat} {m : M} {r s : Nat} {css : List (List Cell)} (hr : ListsAt lo m r css) (hs : ListsAt lo' m s css) (hc : css.length ≤ 100000) (hcc : ∀ cs ∈ css, cs.length ≤ 100000) : Sm (z + 4) (.ref r) (.ref s) m := by
  obtain ⟨ns, h1, h2, h3, h4⟩ := hr
  obtain ⟨ns', k1, k2, k3, k4⟩ := hs
  refine same_lst h1 k1 (by simp [h2, k2]) (by simp [k2]; exact hc) fun i x y hx hy => ?_
  rw [List.getElem?_map] at hx hy
  cases e1 : ns[i]? with
  | none => rw [e1] at hx; cases hx
  | some n =>
    cases e2 : ns'[i]? with
    | none => rw [e2] at hy; cases hy
    | some n' =>
      rw [e1] at hx
      rw [e2] at hy
      cases hx
      cases hy
      have hi : i < css.length := by rw [← h2]; exact (List.getElem?_eq_some_iff.mp e1).1
      have e3 := List.getElem?_eq_getElem hi
      exact same_cells (h4 i n _ e1 e3) (k4 i n' _ e2 e3) (hcc _ (List.getElem_mem hi))
end NP
end

section
set_option maxHeartbeats 400000
namespace NP
open PySem L2 PD
/-! ### one cell more: the plain law -/
section
variable {I : List Cell} {c : Cell}
/-- I and c -/
def Pl (I : List Cell) (c : Cell) (x : Cell) : Prop := x ∈ I ∨ x = c
/-- what hangs on c -/
def Hang (I : List Cell) (c x : Cell) : Prop := x = c ∨ ∃ y, y ∈ nearC c ∧ y ∈ I ∧ Conn (· ∈ I) y x
theorem hang_iff (x : Cell) : Conn (Pl I c) c x ↔ Hang I c x := by
  constructor
  · intro h
    refine h.closed (P := Hang I c) (.inl rfl) fun a b ha hb hL => ?_
    rcases hL with hL | hL
    · rcases ha with rfl | ⟨z, h1, h2, h3⟩
      · exact .inr ⟨b, hb, hL, .refl hL⟩
      · exact .inr ⟨z, h1, h2, .step h3 hb hL⟩
    · exact .inl hL
  · rintro (rfl | ⟨y, h1, h2, h3⟩)
    · exact .refl (.inr rfl)
    · exact (Conn.step (.refl (.inr rfl)) h1 (.inl h2)).trans (h3.mono fun _ h => .inl h)
theorem away_iff {a : Cell} (ha : a ∈ I) (hk : ¬ Hang I c a) (x : Cell) : Conn (Pl I c) a x ↔ Conn (· ∈ I) a x := by
  refine ⟨fun h => ?_, fun h => h.mono fun _ h => .inl h⟩
  refine h.closed (P := fun x => Conn (· ∈ I) a x) (.refl ha) fun x y hx hy hL => ?_
  rcases hL with hL | rfl
  · exact .step hx hy hL
  · exact absurd (.inr ⟨x, near_symm.mp hy, hx.right, hx.symm⟩) hk
def FastP (L : Cell → Prop) (x : Cell) : Prop := ∃ s, L s ∧ s.1 = 0 ∧ Conn L s x
def TF (I : List Cell) (c : Cell) : Prop := c.1 = 0 ∨ ∃ y, y ∈ nearC c ∧ Fast I y
theorem hang_trans {a x : Cell} (h : Hang I c a) (k : Conn (· ∈ I) a x) : Hang I c x := by
  rw [← hang_iff] at *
  exact h.trans (k.mono fun _ h => .inl h)
theorem hang_fast {x : Cell} (h : Hang I c x) (hc : c ∉ I) (f : Fast I x) : TF I c := by
  rcases h with rfl | ⟨y, h1, h2, h3⟩
  · obtain ⟨s, _, _, q⟩ := f
    exact absurd q.right hc
  · exact .inr ⟨y, h1, fast_conn f h3.symm⟩
theorem fastP_iff (hc : c ∉ I) (x : Cell) : FastP (Pl I c) x ↔ Fast I x ∨ (TF I c ∧ Hang I c x) := by
  constructor
  · rintro ⟨s, h1, h2, h3⟩
    by_cases hs : Hang I c s
    · refine .inr ⟨?_, (hang_iff x).mp (((hang_iff s).mpr hs).trans h3)⟩
      rcases hs with rfl | ⟨y, k1, k2, k3⟩
      · exact .inl h2
      · exact .inr ⟨y, k1, s, k3.right, h2, k3.symm⟩
    · rcases h1 with h1 | rfl
      · exact .inl ⟨s, h1, h2, (away_iff h1 hs x).mp h3⟩
      · exact absurd (.inl rfl) hs
  · rintro (⟨s, h1, h2, h3⟩ | ⟨t, k⟩)
    · exact ⟨s, .inl h1, h2, h3.mono fun _ h => .inl h⟩
    · have kc := (hang_iff x).mpr k
      rcases t with t | ⟨y, h1, s, h2, h3, h4⟩
      · exact ⟨c, .inr rfl, t, kc⟩
      · exact ⟨s, .inl h2, h3, (Conn.step (h4.mono fun _ h => .inl h) (near_symm.mp h1) (.inr rfl)).trans kc⟩
end
/-- what the law holds behind the cells I -/
structure PS (I Fa : List Cell) (css : List (List Cell)) : Prop where
  fa : ∀ x, x ∈ Fa ↔ Fast I x
  fnd : Fa.Nodup
  each : ∀ cs ∈ css, cs ≠ [] ∧ cs.Nodup ∧ ∀ a ∈ cs, a ∈ I ∧ ¬ Fast I a ∧ ∀ x, x ∈ cs ↔ Conn (· ∈ I) a x
  all : ∀ a ∈ I, ¬ Fast I a → ∃ cs ∈ css, a ∈ cs
  dis : css.Pairwise fun c d => ∀ x ∈ c, x ∉ d
def tch (c : Cell) (cs : List Cell) : Bool := decide ((cs.filter fun x => decide (x ∈ nearC c)) ≠ [])
theorem tch_iff {c : Cell} {cs : List Cell} : tch c cs = true ↔ ∃ y ∈ cs, y ∈ nearC c := by
  unfold tch
  rw [decide_eq_true_iff]
  constructor
  · intro h
    obtain ⟨y, hy⟩ := List.exists_mem_of_ne_nil _ h
    obtain ⟨h1, h2⟩ := List.mem_filter.mp hy
    exact ⟨y, h1, of_decide_eq_true h2⟩
  · rintro ⟨y, h1, h2⟩ e
    have : y ∈ (cs.filter fun x => decide (x ∈ nearC c)) := List.mem_filter.mpr ⟨h1, decide_eq_true h2⟩
    rw [e] at this
    cases this
def joinC (c : Cell) (css : List (List Cell)) : List Cell := c :: (css.filter (tch c)).flatten
def othC (c : Cell) (css : List (List Cell)) : List (List Cell) := css.filter fun cs => !tch c cs
theorem mem_joinC {c x : Cell} {css : List (List Cell)} : x ∈ joinC c css ↔ x = c ∨ ∃ cs ∈ css, tch c cs = true ∧ x ∈ cs := by
  unfold joinC
  rw [List.mem_cons, List.mem_flatten]
  constructor
  · rintro (h | ⟨cs, h1, h2⟩)
    · exact .inl h
    · obtain ⟨h3, h4⟩ := List.mem_filter.mp h1
      exact .inr ⟨cs, h3, h4, h2⟩
  · rintro (h | ⟨cs, h1, h2, h3⟩)
    · exact .inl h
    · exact .inr ⟨cs, List.mem_filter.mpr ⟨h1, h2⟩, h3⟩
theorem nodup_flat : ∀ {css : List (List Cell)}, (∀ cs ∈ css, cs.Nodup) → (css.Pairwise fun c d => ∀ x ∈ c, x ∉ d) → css.flatten.Nodup
  | [], _, _ => List.nodup_nil
  | c :: css, h, k => by
    rw [List.flatten_cons, List.nodup_append]
    obtain ⟨k1, k2⟩ := List.pairwise_cons.mp k
    refine ⟨h c List.mem_cons_self, nodup_flat (fun d hd => h d (List.mem_cons_of_mem _ hd)) k2, fun a ha b hb e => ?_⟩
    subst e
    obtain ⟨d, hd, hd2⟩ := List.mem_flatten.mp hb
    exact k1 d hd a ha hd2
section
variable {I Fa : List Cell} {css : List (List Cell)} {c : Cell}
theorem PS.joinHang (p : PS I Fa css) (hc : c ∉ I) {x : Cell} (h : x ∈ joinC c css) : Hang I c x ∧ ¬ Fast I x := by
  rcases mem_joinC.mp h with rfl | ⟨cs, h1, h2, h3⟩
  · exact ⟨.inl rfl, fun ⟨s, _, _, q⟩ => hc q.right⟩
  · obtain ⟨y, hy1, hy2⟩ := tch_iff.mp h2
    obtain ⟨q1, q2, q3⟩ := (p.each cs h1).2.2 y hy1
    exact ⟨.inr ⟨y, hy2, q1, (q3 x).mp h3⟩, ((p.each cs h1).2.2 x h3).2.1⟩
theorem PS.hangJoin (p : PS I Fa css) {x : Cell} (h : Hang I c x) (hf : ¬ Fast I x) : x ∈ joinC c css := by
  rcases h with rfl | ⟨y, h1, h2, h3⟩
  · exact mem_joinC.mpr (.inl rfl)
  · have hy : ¬ Fast I y := fun z => hf (fast_conn z h3)
    obtain ⟨cs, k1, k2⟩ := p.all y h2 hy
    exact mem_joinC.mpr (.inr ⟨cs, k1, tch_iff.mpr ⟨y, k2, h1⟩, (((p.each cs k1).2.2 y k2).2.2 x).mpr h3⟩)
theorem PS.nodupJ (p : PS I Fa css) (hc : c ∉ I) : (joinC c css).Nodup := by
  unfold joinC
  rw [List.nodup_cons]
  refine ⟨fun h => ?_, nodup_flat (fun cs h => (p.each cs (List.mem_filter.mp h).1).2.1) (p.dis.sublist List.filter_sublist)⟩
  obtain ⟨cs, h1, h2⟩ := List.mem_flatten.mp h
  exact hc ((p.each cs (List.mem_filter.mp h1).1).2.2 c h2).1
theorem PS.oth (p : PS I Fa css) (hc : c ∉ I) {cs : List Cell} (h : cs ∈ othC c css) {a : Cell} (ha : a ∈ cs) : ¬ Hang I c a := by
  obtain ⟨h1, h2⟩ := List.mem_filter.mp h
  have h2 : tch c cs = false := by simpa using h2
  obtain ⟨q1, q2, q3⟩ := (p.each cs h1).2.2 a ha
  rintro (rfl | ⟨y, k1, k2, k3⟩)
  · exact hc q1
  · have : tch c cs = true := tch_iff.mpr ⟨y, (q3 y).mpr k3.symm, k1⟩
    rw [h2] at this
    cases this
theorem fast_pl {I' : List Cell} (e : ∀ x, x ∈ I' ↔ Pl I c x) (x : Cell) : Fast I' x ↔ FastP (Pl I c) x :=
  ⟨fun ⟨s, a, b, q⟩ => ⟨s, (e s).mp a, b, (conn_congr e).mp q⟩, fun ⟨s, a, b, q⟩ => ⟨s, (e s).mpr a, b, (conn_congr e).mpr q⟩⟩
/-- the new cell hangs on the shore -/
theorem PS.yes (p : PS I Fa css) (hc : c ∉ I) (t : TF I c) {I' : List Cell} (e : ∀ x, x ∈ I' ↔ Pl I c x) : PS I' (Fa ++ joinC c css) (othC c css) := by
  have hf : ∀ x, Fast I' x ↔ Fast I x ∨ Hang I c x := fun x => by
    rw [fast_pl e, fastP_iff hc]
    exact ⟨fun h => h.imp id fun z => z.2, fun h => h.imp id fun z => ⟨t, z⟩⟩
  refine ⟨fun x => ?_, ?_, fun cs hcs => ?_, fun a ha hn => ?_, p.dis.sublist List.filter_sublist⟩
  · rw [List.mem_append, p.fa, hf]
    constructor
    · rintro (h | h)
      · exact .inl h
      · exact .inr (p.joinHang hc h).1
    · rintro (h | h)
      · exact .inl h
      · by_cases q : Fast I x
        · exact .inl q
        · exact .inr (p.hangJoin h q)
  · rw [List.nodup_append]
    refine ⟨p.fnd, p.nodupJ hc, fun a ha b hb z => ?_⟩
    subst z
    exact (p.joinHang hc hb).2 ((p.fa a).mp ha)
  · have h1 := (List.mem_filter.mp hcs).1
    obtain ⟨q1, q2, q3⟩ := p.each cs h1
    refine ⟨q1, q2, fun a ha => ?_⟩
    obtain ⟨r1, r2, r3⟩ := q3 a ha
    have hk := p.oth hc hcs ha
    exact ⟨(e a).mpr (.inl r1), fun z => ((hf a).mp z).elim r2 hk, fun x => by rw [r3, conn_congr e, away_iff r1 hk]⟩
  · have hn' : ¬ Fast I a ∧ ¬ Hang I c a := ⟨fun z => hn ((hf a).mpr (.inl z)), fun z => hn ((hf a).mpr (.inr z))⟩
    rcases (e a).mp ha with ha | rfl
    · obtain ⟨cs, k1, k2⟩ := p.all a ha hn'.1
      refine ⟨cs, List.mem_filter.mpr ⟨k1, ?_⟩, k2⟩
      cases ht : tch c cs with
      | false => rfl
      | true => exact absurd (p.joinHang hc (mem_joinC.mpr (.inr ⟨cs, k1, ht, k2⟩))).1 hn'.2
    · exact absurd (.inl rfl) hn'.2
/-- it does not -/
theorem PS.no (p : PS I Fa css) (hc : c ∉ I) (t : ¬ TF I c) {I' : List Cell} (e : ∀ x, x ∈ I' ↔ Pl I c x) : PS I' Fa (othC c css ++ [joinC c css]) := by
  have hf : ∀ x, Fast I' x ↔ Fast I x := fun x => by
    rw [fast_pl e, fastP_iff hc]
    exact ⟨fun h => h.elim id fun z => absurd z.1 t, .inl⟩
  have hJ : ∀ x, x ∈ joinC c css ↔ Hang I c x := fun x => ⟨fun h => (p.joinHang hc h).1, fun h => p.hangJoin h fun z => t (hang_fast h hc z)⟩
  refine ⟨fun x => by rw [p.fa, hf], p.fnd, fun cs hcs => ?_, fun a ha hn => ?_, ?_⟩
  · rcases List.mem_append.mp hcs with hcs | hcs
    · have h1 := (List.mem_filter.mp hcs).1
      obtain ⟨q1, q2, q3⟩ := p.each cs h1
      refine ⟨q1, q2, fun a ha => ?_⟩
      obtain ⟨r1, r2, r3⟩ := q3 a ha
      have hk := p.oth hc hcs ha
      exact ⟨(e a).mpr (.inl r1), fun z => r2 ((hf a).mp z), fun x => by rw [r3, conn_congr e, away_iff r1 hk]⟩
    · rw [List.mem_singleton.mp hcs]
      refine ⟨by unfold joinC; simp, p.nodupJ hc, fun a ha => ?_⟩
      obtain ⟨j1, j2⟩ := p.joinHang hc ha
      have k := (hang_iff a).mpr j1
      refine ⟨(e a).mpr k.right, fun z => j2 ((hf a).mp z), fun x => ?_⟩
      rw [hJ, conn_congr e, ← hang_iff]
      exact ⟨fun h => k.symm.trans h, fun h => k.trans h⟩
  · rcases (e a).mp ha with ha | rfl
    · obtain ⟨cs, k1, k2⟩ := p.all a ha fun z => hn ((hf a).mpr z)
      cases ht : tch c cs with
      | false => exact ⟨cs, List.mem_append_left _ (List.mem_filter.mpr ⟨k1, by rw [ht]; rfl⟩), k2⟩
      | true => exact ⟨_, List.mem_append_right _ (List.mem_singleton.mpr rfl), mem_joinC.mpr (.inr ⟨cs, k1, ht, k2⟩)⟩
    · exact ⟨_, List.mem_append_right _ (List.mem_singleton.mpr rfl), mem_joinC.mpr (.inl rfl)⟩
  · rw [List.pairwise_append]
    refine ⟨p.dis.sublist List.filter_sublist, List.pairwise_singleton _ _, fun o ho j hj x hx hxj => ?_⟩
    rw [List.mem_singleton.mp hj] at hxj
    exact p.oth hc ho hx (p.joinHang hc hxj).1
end
/-! ### sorted lists of lists -/
def encL (cs : List Cell) : PyData := .list (cs.map cellP)
theorem alike_cells : ∀ cs ds : List Cell, PySem.W.alikeAll (cs.map cellP) (ds.map cellP) = true
  | [], _ => by simp [PySem.W.alikeAll]
  | _ :: _, [] => by simp [PySem.W.alikeAll]
  | c :: cs, d :: ds => by
    rw [List.map_cons, List.map_cons, PySem.W.alikeAll, alike_cells cs ds]
    simp [cellP, PySem.W.alike, PySem.W.alikeAll]
theorem alike_enc (cs ds : List Cell) : PySem.W.alike (encL cs) (encL ds) = true := by
  unfold encL
  rw [PySem.W.alike]
  exact alike_cells cs ds
theorem dataLt_enc {c d : Cell} {cs ds : List Cell} (h : ltC c d) : PySem.W.dataLt (encL (c :: cs)) (encL (d :: ds)) = true := by
  unfold encL
  rw [PySem.W.dataLt_list, List.map_cons, List.map_cons, PySem.W.dataLt_cons (by simp [cellP, PySem.W.alike, PySem.W.alikeAll])]
  have hne : c ≠ d := fun e => ltC_irrefl (e ▸ h)
  rw [eqv_cell, decide_eq_false hne, if_neg (by simp)]
  unfold cellP
  rw [PySem.W.dataLt_ii]
  exact decide_eq_true (ltC_iff.mp h)
theorem sort_lists {L : List (Nat × List Cell)} (hne : ∀ p ∈ L, p.2 ≠ []) (hd' : L.Pairwise fun p q => ∀ x ∈ p.2, x ∉ q.2) : (L.mergeSort (PySem.W.dataLe false fun p => encL p.2)).Pairwise fun p q => ltC (hd p.2) (hd q.2) := by
  have T := PySem.W.sortLe_total (PyProof.Rows.listOrd PyProof.Rows.itemOrd) false fun p : Nat × List Cell => PySem.W.keyToks (encL p.2)
  have h1 := List.pairwise_mergeSort (le := PySem.W.dataLe false fun p : Nat × List Cell => encL p.2) T.trans (fun a b => by rw [Bool.or_eq_true]; exact T.total a b) L
  have pm := List.mergeSort_perm L (PySem.W.dataLe false fun p : Nat × List Cell => encL p.2)
  have h2 : (L.mergeSort (PySem.W.dataLe false fun p => encL p.2)).Pairwise fun p q => ∀ x ∈ p.2, x ∉ q.2 := (List.Perm.pairwise_iff (fun {a b} h x hx hb => h x hb hx) pm).mpr hd'
  refine (h1.and h2).imp_of_mem fun {a b} ha hb ⟨q1, q2⟩ => ?_
  have na := hne a (pm.mem_iff.mp ha)
  have nb := hne b (pm.mem_iff.mp hb)
  obtain ⟨n1, cs⟩ := a
  obtain ⟨n2, ds⟩ := b
  cases cs with
  | nil => exact absurd rfl na
  | cons c cs => cases ds with
    | nil => exact absurd rfl nb
    | cons d ds =>
      have hne : c ≠ d := fun e => q2 c List.mem_cons_self (e ▸ List.mem_cons_self)
      have q3 : PySem.W.dataLt (encL (d :: ds)) (encL (c :: cs)) = false := by
        have : (!PySem.W.dataLt (encL (d :: ds)) (encL (c :: cs))) = true := q1
        simpa using this
      show ltC c d
      refine Classical.byContradiction fun z => ?_
      have : ltC d c := by
        rw [ltC_iff] at *
        by_cases e1 : c.1 = d.1
        · by_cases e2 : c.2 = d.2
          · exact absurd (Prod.ext e1 e2) hne
          · omega
        · omega
      rw [dataLt_enc this] at q3
      cases q3
end NP
end

section
set_option maxHeartbeats 400000
namespace NP
open PySem L2 PD
/-- lists of lists in the store -/
def LL (m : M) (r : Nat) (css : List (List Cell)) : Prop := ∃ ns : List Nat, m[r]? = some (MO.lst (ns.map D.ref)) ∧ ns.length = css.length ∧ ∀ (i n : Nat) (cs : List Cell), ns[i]? = some n → css[i]? = some cs → m[n]? = some (MO.lst (cellsD cs))
theorem LL.keep {r : Nat} {m m' : M} {css : List (List Cell)} (h : LL m r css) (k : Kp [] m m') : LL m' r css := by
  obtain ⟨ns, h1, h2, h4⟩ := h
  exact ⟨ns, k.get h1 (by simp), h2, fun i n cs a b => k.get (h4 i n cs a b) (by simp)⟩
theorem LL.lists {r lo : Nat} {m : M} {css : List (List Cell)} (h : ListsAt lo m r css) : LL m r css := by
  obtain ⟨ns, h1, h2, h3, h4⟩ := h
  exact ⟨ns, h1, h2, h4⟩
theorem touch_ok {x0 d1 d2 d3 d5 d6 d7 d8 : Option D} {b p i : Nat} {m : M} {bs ps : List Cell} (hi : i < 8) (di : [x0, d1, d2, d3, some (.ref b), d5, d6, d7, d8][i]? = some (some (.ref p))) (hb : m[b]? = some (.lst (cellsD bs))) (hp : m[p]? = some (.lst (cellsD ps))) (hl : ps.length ≤ 10000) :
    dLc (iSeq (dVar i)) (gN 8) [8] (dB (PD.d2 dIn (dVar 8) (dVar 4))) (dVar 8) [x0, d1, d2, d3, some (.ref b), d5, d6, d7, d8] m = .ok (.ref m.length) (m ++ [.lst (cellsD (ps.filter fun x => decide (x ∈ bs)))]) := by
  have it : iSeq (dVar i) [x0, d1, d2, d3, some (.ref b), d5, d6, d7, d8] m = .ok (.live p) m := by
    unfold iSeq dVar
    rw [di]
    simp only [bind_ok, iterD, lsAt_of hp]
  have e := dLc_pure (t := gN 8) (vs := [8]) (test := dB (PD.d2 dIn (dVar 8) (dVar 4))) (elt := dVar 8) (fun x => match x with | .tup [.int i, .int j] => decide ((i, j) ∈ bs) | _ => false) id it (lsAt_of hp) (by rw [len_cellsD]; exact cap1 (by omega)) (fun x hx => by
    obtain ⟨c, hc, rfl⟩ := List.mem_map.mp hx
    refine ⟨[x0, d1, d2, d3, some (.ref b), d5, d6, d7, some (cellD c)], rfl, fun acc => ⟨?_, fun _ => rfl⟩⟩
    have q := dIn_cells (c := c) (get_old (l := [MO.lst acc]) hb)
    simp only [bodyF, PD.sFld, PD.sAug, dFld, SO.out, dVar, dC, PD.d2, PD.d1, aNil_ap, aCons_ap, dTup, dLst, dCall, dAndV, dOrV, dNotV, dIf, dChain, dB, bNot, bAnd, bOr, sSkip, sSeq, sAsg, sExpr, sRet, sRetN, sIf, sBrk, sCont, sTgt, gN, gT, gsCons, gsNil, tupItems, sStore, sDel, dLm, dLm0, on1, on2, dInt2, dInt2c, dNeg, boolD, iSeq, PD.iRng1, iRange1, bInt, intD, bAbs, absD, bind_ok, toS_ok, List.map_cons, List.map_nil, List.cons_append, List.nil_append, List.replicate, List.getElem?_cons_zero, List.getElem?_cons_succ, List.set_cons_zero, List.set_cons_succ, List.length_cons, List.length_nil, if_true, if_false, Option.bind_some, Bool.false_eq_true, decide_true, decide_false, Bool.not_true, Bool.not_false, q]
    rfl)
  have e2 : ((cellsD ps).filter fun x => match x with | .tup [.int i, .int j] => decide ((i, j) ∈ bs) | _ => false) = cellsD (ps.filter fun x => decide (x ∈ bs)) := by
    unfold cellsD
    rw [List.filter_map]
    rfl
  rw [List.map_id, e2] at e
  exact e
theorem flat_le {css : List (List Cell)} {S : List Cell} (nd : css.flatten.Nodup) (h : ∀ cs ∈ css, ∀ x ∈ cs, x ∈ S) : css.flatten.length ≤ S.length :=
  List.Nodup.length_le_of_subset nd fun x hx => by
    obtain ⟨cs, h1, h2⟩ := List.mem_flatten.mp hx
    exact h cs h1 x h2
theorem joinC_app {c : Cell} {a b : List (List Cell)} : joinC c (a ++ b) = joinC c a ++ (b.filter (tch c)).flatten := by
  unfold joinC
  rw [List.filter_append, List.flatten_append, List.cons_append]
/-- the inner walk over the parts -/
theorem inner_ok {x0 d1 d7 d8 : Option D} {b jr o pl : Nat} {c : Cell} {m : M} {css : List (List Cell)} {S : List Cell} (hb : m[b]? = some (.lst (cellsD (nearC c)))) (hj : m[jr]? = some (.lst (cellsD [c]))) (ho : m[o]? = some (.lst (([] : List Nat).map D.ref))) (hp : LL m pl css)
    (hne : ∀ cs ∈ css, cs ≠ []) (hnd : (joinC c css).Nodup) (hS : ∀ x ∈ joinC c css, x ∈ S) (hS2 : ∀ cs ∈ css, cs.length ≤ 10000) (hl : S.length ≤ 10000) (hcl : css.length ≤ 10000) :
    ∃ j' d7' m', sFor (iSeq (dCall bList (aCons (dVar 2) aNil))) (gN 7) lb__law_parts_0 [x0, d1, some (.ref pl), some (cellD c), some (.ref b), some (.ref jr), some (.ref o), d7, d8] m =
        .nx [x0, d1, some (.ref pl), some (cellD c), some (.ref b), some (.ref j'), some (.ref o), d7', d8] m' ∧ Kp [o] m m' ∧ m'[j']? = some (.lst (cellsD (joinC c css))) ∧ LL m' o (othC c css) := by
  obtain ⟨ns, n1, n2, n3⟩ := hp
  have hob : b ≠ o := fun e => by
    rw [e, ho] at hb
    simp [cellsD, nearC] at hb
  have hoj : jr ≠ o := fun e => by
    rw [e, ho] at hj
    simp [cellsD] at hj
  have hon : ∀ (i n : Nat), ns[i]? = some n → n ≠ o := fun i n e z => by
    have hi : i < css.length := by rw [← n2]; exact (List.getElem?_eq_some_iff.mp e).1
    have q := n3 i n _ e (List.getElem?_eq_getElem hi)
    rw [z, ho] at q
    have : cellsD css[i] = [] := by simpa using q.symm
    have : css[i] = [] := by simpa [cellsD] using this
    exact hne _ (List.getElem_mem hi) this
  have hlo := lt_of_get ho
  have q1 := bList_lst n1
  have a1 : (m ++ [MO.lst (ns.map D.ref)])[m.length]? = some (.lst (ns.map D.ref)) := get_new
  have k1 : Kp [] m (m ++ [MO.lst (ns.map D.ref)]) := Kp.app
  have em : ∃ z, z = m ++ [MO.lst (ns.map D.ref)] := ⟨_, rfl⟩
  obtain ⟨m1, em⟩ := em
  rw [← em] at q1 a1 k1
  have it : iSeq (dCall bList (aCons (dVar 2) aNil)) [x0, d1, some (.ref pl), some (cellD c), some (.ref b), some (.ref jr), some (.ref o), d7, d8] m = .ok (.live m.length) m1 := by
    simp only [bodyF, PD.sFld, PD.sAug, dFld, SO.out, dVar, dC, PD.d2, PD.d1, aNil_ap, aCons_ap, dTup, dLst, dCall, dAndV, dOrV, dNotV, dIf, dChain, dB, bNot, bAnd, bOr, sSkip, sSeq, sAsg, sExpr, sRet, sRetN, sIf, sBrk, sCont, sTgt, gN, gT, gsCons, gsNil, tupItems, sStore, sDel, dLm, dLm0, on1, on2, dInt2, dInt2c, dNeg, boolD, iSeq, PD.iRng1, iRange1, bInt, intD, bAbs, absD, bind_ok, toS_ok, List.map_cons, List.map_nil, List.cons_append, List.nil_append, List.replicate, List.getElem?_cons_zero, List.getElem?_cons_succ, List.set_cons_zero, List.set_cons_succ, List.length_cons, List.length_nil, if_true, if_false, Option.bind_some, Bool.false_eq_true, decide_true, decide_false, Bool.not_true, Bool.not_false, q1, iterD, lsAt_of a1]
  obtain ⟨δ', m', e4, j', d7', os, rfl, r1, r2, r3, r4, r5, r6, r7, r8⟩ := sFor_inv (t := gN 7) (body := lb__law_parts_0) it (lsAt_of a1)
    (fun i δ mm => ∃ j d7 os, δ = [x0, d1, some (.ref pl), some (cellD c), some (.ref b), some (.ref j), some (.ref o), d7, d8] ∧ Kp [o] m mm ∧ mm[m.length]? = some (.lst (ns.map D.ref)) ∧ mm[j]? = some (.lst (cellsD (joinC c (css.take i)))) ∧ j ≠ o ∧
      mm[o]? = some (MO.lst (os.map D.ref)) ∧ os.length = (othC c (css.take i)).length ∧ (∀ (k n : Nat) (cs : List Cell), os[k]? = some n → (othC c (css.take i))[k]? = some cs → mm[n]? = some (MO.lst (cellsD cs))) ∧ (∀ n ∈ os, n ≠ o))
    ⟨jr, d7, [], rfl, k1.mono (by simp), a1, k1.get hj (by simp), hoj, k1.get ho (by simp), rfl, by simp, by simp⟩ (fun _ _ _ ⟨_, _, _, _, _, z, _⟩ => lsAt_of z) (fun i x δ mm hx ⟨j, d7, os, e, r1, r2, r3, r4, r5, r6, r7, r8⟩ => by
      subst e
      rw [List.getElem?_map] at hx
      cases en : ns[i]? with
      | none => rw [en] at hx; cases hx
      | some n =>
        rw [en] at hx
        cases hx
        have hi : i < css.length := by rw [← n2]; exact (List.getElem?_eq_some_iff.mp en).1
        have ei := List.getElem?_eq_getElem hi
        have hcm := List.getElem_mem hi
        have pn : mm[n]? = some (.lst (cellsD css[i])) := r1.get (n3 i n _ en ei) (by simp; exact hon i n en)
        have pb : mm[b]? = some (.lst (cellsD (nearC c))) := r1.get hb (by simp; exact hob)
        refine ⟨[x0, d1, some (.ref pl), some (cellD c), some (.ref b), some (.ref j), some (.ref o), some (.ref n), d8], rfl, ?_⟩
        have tq := touch_ok (x0 := x0) (d1 := d1) (d2 := some (.ref pl)) (d3 := some (cellD c)) (d5 := some (.ref j)) (d6 := some (.ref o)) (d7 := some (.ref n)) (d8 := d8) (i := 7) (by omega) rfl pb pn (hS2 _ hcm)
        have u1 : (mm ++ [MO.lst (cellsD (css[i].filter fun x => decide (x ∈ nearC c)))] ++ [MO.lst []])[mm.length]? = some (.lst (cellsD (css[i].filter fun x => decide (x ∈ nearC c)))) := get_old get_new
        have u2 : (mm ++ [MO.lst (cellsD (css[i].filter fun x => decide (x ∈ nearC c)))] ++ [MO.lst []])[(mm ++ [MO.lst (cellsD (css[i].filter fun x => decide (x ∈ nearC c)))]).length]? = some (.lst (cellsD [])) := get_new
        have ku : Kp [] mm (mm ++ [MO.lst (cellsD (css[i].filter fun x => decide (x ∈ nearC c)))] ++ [MO.lst []]) := Kp.app.trans Kp.app
        have dq := dEq_cells u1 u2
        have z0 : (0 : Nat) ≤ cap := Nat.zero_le _
        have tk : css.take (i + 1) = css.take i ++ [css[i]] := by
          rw [List.take_add_one, ei]
          rfl
        have eu : ∃ z, z = mm ++ [MO.lst (cellsD (css[i].filter fun x => decide (x ∈ nearC c)))] ++ [MO.lst []] := ⟨_, rfl⟩
        obtain ⟨mu, eu⟩ := eu
        rw [← eu] at u1 u2 ku dq
        cases ht : tch c css[i] with
        | false =>
          have hF : (css[i].filter fun x => decide (x ∈ nearC c)) = [] := by
            unfold tch at ht
            have := of_decide_eq_false ht
            exact Classical.byContradiction this
          have hd := decide_eq_true hF
          rw [hd] at dq
          have po : mu[o]? = some (.lst (os.map D.ref)) := ku.get r5 (by simp)
          have hol : (os.map D.ref).length < cap := by
            rw [List.length_map, r6]
            have h1 : (othC c (css.take i)).length ≤ (css.take i).length := List.length_filter_le _ _
            rw [List.length_take] at h1
            unfold cap
            omega
          have ap := app_ok (y := D.ref n) po hol
          have et : othC c (css.take (i + 1)) = othC c (css.take i) ++ [css[i]] := by
            unfold othC
            rw [tk, List.filter_append, List.filter_cons_of_pos (by rw [ht]; rfl), List.filter_nil]
          have ej : joinC c (css.take (i + 1)) = joinC c (css.take i) := by
            rw [tk, joinC_app, List.filter_cons_of_neg (by rw [ht]; simp), List.filter_nil]
            simp
          refine ⟨_, mu.set o (.lst (os.map D.ref ++ [.ref n])), ?_, j, some (.ref n), os ++ [n], rfl, r1.trans ((ku.mono (by simp)).trans (Kp.set (by simp))), ?_, ?_, r4, ?_, ?_, ?_, ?_⟩
          · simp only [lb__law_parts_0, bodyF, PD.sFld, PD.sAug, dFld, SO.out, dVar, dC, PD.d2, PD.d1, aNil_ap, aCons_ap, dTup, dLst, dCall, dAndV, dOrV, dNotV, dIf, dChain, dB, bNot, bAnd, bOr, sSkip, sSeq, sAsg, sExpr, sRet, sRetN, sIf, sBrk, sCont, sTgt, gN, gT, gsCons, gsNil, tupItems, sStore, sDel, dLm, dLm0, on1, on2, dInt2, dInt2c, dNeg, boolD, iSeq, PD.iRng1, iRange1, bInt, intD, bAbs, absD, bind_ok, toS_ok, List.map_cons, List.map_nil, List.cons_append, List.nil_append, List.replicate, List.getElem?_cons_zero, List.getElem?_cons_succ, List.set_cons_zero, List.set_cons_succ, List.length_cons, List.length_nil, if_true, if_false, Option.bind_some, Bool.false_eq_true, decide_true, decide_false, Bool.not_true, Bool.not_false, tq, if_pos z0, ← eu, dq, lsAt_of po, ap]
          · rw [get_set_ne (by omega)]
            exact ku.get r2 (by simp)
          · rw [get_set_ne (Ne.symm r4), ej]
            exact ku.get r3 (by simp)
          · rw [get_set po]
            simp
          · rw [et]
            simp [r6]
          · intro k n' cs hk hcs
            have hno : n' ≠ o := by
              rcases List.mem_append.mp (List.mem_of_getElem? hk) with z | z
              · exact r8 n' z
              · rw [List.mem_singleton.mp z]; exact hon i n en
            rw [get_set_ne (Ne.symm hno)]
            rw [et] at hcs
            by_cases hkl : k < os.length
            · rw [List.getElem?_append_left hkl] at hk
              rw [List.getElem?_append_left (by omega)] at hcs
              exact ku.get (r7 k n' cs hk hcs) (by simp)
            · have hke : k = os.length := by
                have := (List.getElem?_eq_some_iff.mp hk).1
                simp at this
                omega
              subst hke
              rw [List.getElem?_append_right (Nat.le_refl _)] at hk
              rw [r6, List.getElem?_append_right (Nat.le_refl _)] at hcs
              simp at hk hcs
              subst hk hcs
              exact ku.get pn (by simp)
          · intro n' hn'
            rcases List.mem_append.mp hn' with z | z
            · exact r8 n' z
            · rw [List.mem_singleton.mp z]; exact hon i n en
        | true =>
          have hF : (css[i].filter fun x => decide (x ∈ nearC c)) ≠ [] := by
            unfold tch at ht
            exact of_decide_eq_true ht
          have hd := decide_eq_false hF
          rw [hd] at dq
          have pj : mu[j]? = some (.lst (cellsD (joinC c (css.take i)))) := ku.get r3 (by simp)
          have pn' : mu[n]? = some (.lst (cellsD css[i])) := ku.get pn (by simp)
          have ej : joinC c (css.take (i + 1)) = joinC c (css.take i) ++ css[i] := by
            rw [tk, joinC_app, List.filter_cons_of_pos (by rw [ht]), List.filter_nil]
            simp
          have et : othC c (css.take (i + 1)) = othC c (css.take i) := by
            unfold othC
            rw [tk, List.filter_append, List.filter_cons_of_neg (by rw [ht]; simp), List.filter_nil, List.append_nil]
          have hjl : (joinC c (css.take (i + 1))).length ≤ 10000 := by
            have h1 : joinC c css = joinC c (css.take (i + 1)) ++ ((css.drop (i + 1)).filter (tch c)).flatten := by
              rw [← joinC_app, List.take_append_drop]
            have h2 : (joinC c css).length ≤ S.length := List.Nodup.length_le_of_subset hnd hS
            rw [h1, List.length_append] at h2
            omega
          rw [ej, List.length_append] at hjl
          have ad := add_lst pj pn' (by rw [len_cellsD, len_cellsD]; unfold cap; omega)
          have ec : cellsD (joinC c (css.take i)) ++ cellsD css[i] = cellsD (joinC c (css.take (i + 1))) := by rw [ej]; simp [cellsD]
          rw [ec] at ad
          have hml : m.length < mu.length := by
            have := lt_of_get (ku.get r2 (by simp))
            omega
          refine ⟨[x0, d1, some (.ref pl), some (cellD c), some (.ref b), some (.ref mu.length), some (.ref o), some (.ref n), d8], mu ++ [.lst (cellsD (joinC c (css.take (i + 1))))], ?_, mu.length, some (.ref n), os, rfl, r1.trans ((ku.mono (by simp)).trans Kp.app), get_old (ku.get r2 (by simp)), get_new, by omega, get_old (ku.get r5 (by simp)), by rw [et]; exact r6, fun k n' cs hk hcs => get_old (ku.get (r7 k n' cs hk (by rw [← et]; exact hcs)) (by simp)), r8⟩
          simp only [lb__law_parts_0, bodyF, PD.sFld, PD.sAug, dFld, SO.out, dVar, dC, PD.d2, PD.d1, aNil_ap, aCons_ap, dTup, dLst, dCall, dAndV, dOrV, dNotV, dIf, dChain, dB, bNot, bAnd, bOr, sSkip, sSeq, sAsg, sExpr, sRet, sRetN, sIf, sBrk, sCont, sTgt, gN, gT, gsCons, gsNil, tupItems, sStore, sDel, dLm, dLm0, on1, on2, dInt2, dInt2c, dNeg, boolD, iSeq, PD.iRng1, iRange1, bInt, intD, bAbs, absD, bind_ok, toS_ok, List.map_cons, List.map_nil, List.cons_append, List.nil_append, List.replicate, List.getElem?_cons_zero, List.getElem?_cons_succ, List.set_cons_zero, List.set_cons_succ, List.length_cons, List.length_nil, if_true, if_false, Option.bind_some, Bool.false_eq_true, decide_true, decide_false, Bool.not_true, Bool.not_false, tq, if_pos z0, ← eu, dq, ad])
  rw [List.length_map, n2, List.take_length] at *
  exact ⟨j', d7', m', e4, r1, r3, os, r5, r6, r7⟩
end NP
end

section
set_option maxHeartbeats 400000
namespace NP
open PySem L2 PD
theorem flat_len : ∀ {css : List (List Cell)}, (∀ cs ∈ css, cs ≠ []) → css.length ≤ css.flatten.length
  | [], _ => Nat.le_refl _
  | c :: css, h => by
    have h1 := flat_len (css := css) fun cs hcs => h cs (List.mem_cons_of_mem _ hcs)
    have h2 : 0 < c.length := List.length_pos_iff.mpr (h c List.mem_cons_self)
    rw [List.flatten_cons, List.length_append, List.length_cons]
    omega
theorem PS.lens {I Fa : List Cell} {css : List (List Cell)} (p : PS I Fa css) : Fa.length ≤ I.length ∧ css.length ≤ I.length ∧ ∀ cs ∈ css, cs.length ≤ I.length := by
  refine ⟨List.Nodup.length_le_of_subset p.fnd fun x hx => ?_, ?_, fun cs hcs => List.Nodup.length_le_of_subset (p.each cs hcs).2.1 fun x hx => ((p.each cs hcs).2.2 x hx).1⟩
  · obtain ⟨s, _, _, h⟩ := (p.fa x).mp hx
    exact h.right
  · have h1 := flat_len fun cs hcs => (p.each cs hcs).1
    have h2 := flat_le (S := I) (nodup_flat (fun cs hcs => (p.each cs hcs).2.1) p.dis) fun cs hcs x hx => ((p.each cs hcs).2.2 x hx).1
    omega
theorem PS.nil : PS [] [] [] := ⟨fun x => ⟨fun h => (by cases h), fun ⟨s, h, _⟩ => (by cases h)⟩, List.nodup_nil, by simp, by simp, List.Pairwise.nil⟩
theorem LL.snoc {m m' : M} {o p j : Nat} {css : List (List Cell)} {J : List Cell} {xs : List D} (h : LL m o css) (k : Kp [] m m') (hj : m'[j]? = some (.lst (cellsD J))) (hp : ∀ os : List Nat, m[o]? = some (MO.lst (os.map D.ref)) → m'[p]? = some (.lst (os.map D.ref ++ [.ref j]))) : LL m' p (css ++ [J]) := by
  obtain ⟨os, h1, h2, h3⟩ := h
  refine ⟨os ++ [j], by rw [hp os h1]; simp, by simp [h2], fun i n cs hn hcs => ?_⟩
  by_cases hi : i < os.length
  · rw [List.getElem?_append_left hi] at hn
    rw [List.getElem?_append_left (by omega)] at hcs
    exact k.get (h3 i n cs hn hcs) (by simp)
  · have hie : i = os.length := by
      have := (List.getElem?_eq_some_iff.mp hn).1
      simp at this
      omega
    subst hie
    rw [List.getElem?_append_right (Nat.le_refl _)] at hn
    rw [h2, List.getElem?_append_right (Nat.le_refl _)] at hcs
    simp at hn hcs
    subst hn hcs
    exact hj
theorem outer_ok {m : M} {r f0 p0 : Nat} {S : List Cell} (g : SS S) (hl : S.length ≤ 10000) (hr : m[r]? = some (.lst (cellsD S))) (hf : m[f0]? = some (.lst (cellsD []))) (hp : LL m p0 []) {d3 d4 d5 d6 d7 d8 : Option D} :
    ∃ f p Fa css e3 e4 e5 e6 e7 m', sFor (iSeq (dVar 0)) (gN 3) lb__law_parts_1 [some (.ref r), some (.ref f0), some (.ref p0), d3, d4, d5, d6, d7, d8] m = .nx [some (.ref r), some (.ref f), some (.ref p), e3, e4, e5, e6, e7, d8] m' ∧
      Kp [] m m' ∧ m'[f]? = some (.lst (cellsD Fa)) ∧ LL m' p css ∧ PS S Fa css := by
  have it : iSeq (dVar 0) [some (.ref r), some (.ref f0), some (.ref p0), d3, d4, d5, d6, d7, d8] m = .ok (.live r) m := by
    simp only [bodyF, PD.sFld, PD.sAug, dFld, SO.out, dVar, dC, PD.d2, PD.d1, aNil_ap, aCons_ap, dTup, dLst, dCall, dAndV, dOrV, dNotV, dIf, dChain, dB, bNot, bAnd, bOr, sSkip, sSeq, sAsg, sExpr, sRet, sRetN, sIf, sBrk, sCont, sTgt, gN, gT, gsCons, gsNil, tupItems, sStore, sDel, dLm, dLm0, on1, on2, dInt2, dInt2c, dNeg, boolD, iSeq, PD.iRng1, iRange1, bInt, intD, bAbs, absD, bind_ok, toS_ok, List.map_cons, List.map_nil, List.cons_append, List.nil_append, List.replicate, List.getElem?_cons_zero, List.getElem?_cons_succ, List.set_cons_zero, List.set_cons_succ, List.length_cons, List.length_nil, if_true, if_false, Option.bind_some, Bool.false_eq_true, decide_true, decide_false, Bool.not_true, Bool.not_false, iterD, lsAt_of hr]
  obtain ⟨δ', m', e, f, p, Fa, css, e3, e4, e5, e6, e7, rfl, r1, r2, r3, r4⟩ := sFor_inv (t := gN 3) (body := lb__law_parts_1) it (lsAt_of hr)
    (fun i δ mm => ∃ f p Fa css e3 e4 e5 e6 e7, δ = [some (.ref r), some (.ref f), some (.ref p), e3, e4, e5, e6, e7, d8] ∧ Kp [] m mm ∧ mm[f]? = some (.lst (cellsD Fa)) ∧ LL mm p css ∧ PS (S.take i) Fa css)
    ⟨f0, p0, [], [], d3, d4, d5, d6, d7, rfl, Kp.rfl', hf, hp, PS.nil⟩ (fun _ _ _ ⟨_, _, _, _, _, _, _, _, _, _, k, _⟩ => lsAt_of (k.get hr (by simp))) (fun i x δ mm hx ⟨f, p, Fa, css, e3, e4, e5, e6, e7, ed, r1, r2, r3, r4⟩ => by
      subst ed
      obtain ⟨c, hc, rfl, hi⟩ := cellsD_at hx
      refine ⟨[some (.ref r), some (.ref f), some (.ref p), some (cellD c), e4, e5, e6, e7, d8], rfl, ?_⟩
      have hcI : c ∉ S.take i := fun h => by
        obtain ⟨j, hj1, hj2⟩ := mem_take.mp h
        have := nodup_at g.nodup hj2 hi
        omega
      have hI' : ∀ x, x ∈ S.take (i + 1) ↔ Pl (S.take i) c x := fun x => by
        rw [List.take_add_one, hi, List.mem_append]
        show _ ∨ x ∈ [c] ↔ _
        rw [List.mem_singleton]
        rfl
      obtain ⟨L1, L2, L3⟩ := r4.lens
      have hIl : (S.take i).length ≤ 10000 := by rw [List.length_take]; omega
      have hsub : ∀ x ∈ joinC c css, x ∈ S := fun x hx => by
        rcases mem_joinC.mp hx with rfl | ⟨cs, h1, _, h2⟩
        · exact hc
        · exact List.mem_of_mem_take ((r4.each cs h1).2.2 x h2).1
      -- beside, joined, others
      have q1 := near_ok (c := c) (m := mm)
      have c1 : (0 + 1 : Nat) ≤ cap := by decide
      have z0 : (0 : Nat) ≤ cap := Nat.zero_le _
      have el : [MO.lst [cellD c]] = [MO.lst (cellsD [c])] := rfl
      have a1 : (mm ++ [MO.lst (cellsD (nearC c))])[mm.length]? = some (.lst (cellsD (nearC c))) := get_new
      have l1 : (mm ++ [MO.lst (cellsD (nearC c))]).length = mm.length + 1 := by simp
      have k1 : Kp [] mm (mm ++ [MO.lst (cellsD (nearC c))]) := Kp.app
      have em1 : ∃ z, z = mm ++ [MO.lst (cellsD (nearC c))] := ⟨_, rfl⟩
      obtain ⟨m1, em1⟩ := em1
      rw [← em1] at q1 a1 l1 k1
      have b1 : (m1 ++ [MO.lst (cellsD [c])])[m1.length]? = some (.lst (cellsD [c])) := get_new
      have b2 : (m1 ++ [MO.lst (cellsD [c])])[mm.length]? = some (.lst (cellsD (nearC c))) := get_old a1
      have l2 : (m1 ++ [MO.lst (cellsD [c])]).length = mm.length + 2 := by simp [l1]
      have k2 : Kp [] mm (m1 ++ [MO.lst (cellsD [c])]) := k1.trans Kp.app
      have em2 : ∃ z, z = m1 ++ [MO.lst (cellsD [c])] := ⟨_, rfl⟩
      obtain ⟨m2, em2⟩ := em2
      rw [← em2] at b1 b2 l2 k2
      have c2 : (m2 ++ [MO.lst []])[m2.length]? = some (.lst (([] : List Nat).map D.ref)) := get_new
      have c3 : (m2 ++ [MO.lst []])[mm.length]? = some (.lst (cellsD (nearC c))) := get_old b2
      have c4 : (m2 ++ [MO.lst []])[m1.length]? = some (.lst (cellsD [c])) := get_old b1
      have k3 : Kp [] mm (m2 ++ [MO.lst []]) := k2.trans Kp.app
      have em3 : ∃ z, z = m2 ++ [MO.lst []] := ⟨_, rfl⟩
      obtain ⟨m3, em3⟩ := em3
      rw [← em3] at c2 c3 c4 k3
      obtain ⟨j, d7', m4, e4', k4, v1, v2⟩ := inner_ok (x0 := some (.ref r)) (d1 := some (.ref f)) (d7 := e7) (d8 := d8) (S := S) c3 c4 c2 (r3.keep k3) (fun cs h => (r4.each cs h).1) (r4.nodupJ hcI) hsub (fun cs h => by have := L3 cs h; omega) hl (by omega)
      have kk : Kp [] mm m4 := k3.trans_new k4 (fun x hx => by rw [List.mem_singleton] at hx; omega)
      have pf : m4[f]? = some (.lst (cellsD Fa)) := kk.get r2 (by simp)
      have pb : m4[mm.length]? = some (.lst (cellsD (nearC c))) := k4.get c3 (by simp; omega)
      have ix0 : ixD (cellD c) (.int 0) m4 = .ok (.int c.1) m4 := ixD_zero (xs := [.int c.2]) rfl
      have hJl : (joinC c css).length ≤ S.length := List.Nodup.length_le_of_subset (r4.nodupJ hcI) hsub
      have hFiff : (Fa.filter fun x => decide (x ∈ nearC c)) ≠ [] ↔ ∃ y, y ∈ nearC c ∧ Fast (S.take i) y := by
        constructor
        · intro h
          obtain ⟨y, hy⟩ := List.exists_mem_of_ne_nil _ h
          obtain ⟨h1, h2⟩ := List.mem_filter.mp hy
          exact ⟨y, of_decide_eq_true h2, (r4.fa y).mp h1⟩
        · rintro ⟨y, h1, h2⟩ e
          have : y ∈ (Fa.filter fun x => decide (x ∈ nearC c)) := List.mem_filter.mpr ⟨(r4.fa y).mpr h2, decide_eq_true h1⟩
          rw [e] at this
          cases this
      by_cases h0 : c.1 = 0
      · -- at the shore
        have d0 := decide_eq_true h0
        have ad := add_lst pf v1 (by rw [len_cellsD, len_cellsD]; unfold cap; omega)
        have ec : cellsD Fa ++ cellsD (joinC c css) = cellsD (Fa ++ joinC c css) := by simp [cellsD]
        rw [ec] at ad
        refine ⟨_, m4 ++ [.lst (cellsD (Fa ++ joinC c css))], ?_, m4.length, m2.length, _, _, some (cellD c), some (.ref mm.length), some (.ref j), some (.ref m2.length), d7', rfl, r1.trans (kk.trans Kp.app), get_new, v2.keep Kp.app, r4.yes hcI (.inl h0) hI'⟩
        simp only [lb__law_parts_1, bodyF, PD.sFld, PD.sAug, dFld, SO.out, dVar, dC, PD.d2, PD.d1, aNil_ap, aCons_ap, dTup, dLst, dCall, dAndV, dOrV, dNotV, dIf, dChain, dB, bNot, bAnd, bOr, sSkip, sSeq, sAsg, sExpr, sRet, sRetN, sIf, sBrk, sCont, sTgt, gN, gT, gsCons, gsNil, tupItems, sStore, sDel, dLm, dLm0, on1, on2, dInt2, dInt2c, dNeg, boolD, iSeq, PD.iRng1, iRange1, bInt, intD, bAbs, absD, bind_ok, toS_ok, List.map_cons, List.map_nil, List.cons_append, List.nil_append, List.replicate, List.getElem?_cons_zero, List.getElem?_cons_succ, List.set_cons_zero, List.set_cons_succ, List.length_cons, List.length_nil, if_true, if_false, Option.bind_some, Bool.false_eq_true, decide_true, decide_false, Bool.not_true, Bool.not_false, q1, if_pos c1, if_pos z0, el, ← em2, ← em3, e4', ix0, dEq_int, d0, ad]
      · have d0 := decide_eq_false h0
        have tq := touch_ok (x0 := some (.ref r)) (d1 := some (.ref f)) (d2 := some (.ref p)) (d3 := some (cellD c)) (d5 := some (.ref j)) (d6 := some (.ref m2.length)) (d7 := d7') (d8 := d8) (i := 1) (by omega) rfl pb pf (by omega)
        have u1 : (m4 ++ [MO.lst (cellsD (Fa.filter fun x => decide (x ∈ nearC c)))] ++ [MO.lst []])[m4.length]? = some (.lst (cellsD (Fa.filter fun x => decide (x ∈ nearC c)))) := get_old get_new
        have u2 : (m4 ++ [MO.lst (cellsD (Fa.filter fun x => decide (x ∈ nearC c)))] ++ [MO.lst []])[(m4 ++ [MO.lst (cellsD (Fa.filter fun x => decide (x ∈ nearC c)))]).length]? = some (.lst (cellsD [])) := get_new
        have ku : Kp [] m4 (m4 ++ [MO.lst (cellsD (Fa.filter fun x => decide (x ∈ nearC c)))] ++ [MO.lst []]) := Kp.app.trans Kp.app
        have dq := dNe_cells u1 u2
        have eu : ∃ z, z = m4 ++ [MO.lst (cellsD (Fa.filter fun x => decide (x ∈ nearC c)))] ++ [MO.lst []] := ⟨_, rfl⟩
        obtain ⟨mu, eu⟩ := eu
        rw [← eu] at u1 u2 ku dq
        have pf' : mu[f]? = some (.lst (cellsD Fa)) := ku.get pf (by simp)
        have pj' : mu[j]? = some (.lst (cellsD (joinC c css))) := ku.get v1 (by simp)
        by_cases hF : (Fa.filter fun x => decide (x ∈ nearC c)) = []
        · have hd := decide_eq_true hF
          rw [hd] at dq
          have nt : ¬ TF (S.take i) c := by
            rintro (t | t)
            · exact h0 t
            · exact hFiff.mpr t hF
          obtain ⟨os, o1, o2, o3⟩ := v2.keep ku
          have w1 : (mu ++ [MO.lst [D.ref j]])[mu.length]? = some (.lst [.ref j]) := get_new
          have w2 : (mu ++ [MO.lst [D.ref j]])[m2.length]? = some (.lst (os.map D.ref)) := get_old o1
          have kw : Kp [] mu (mu ++ [MO.lst [D.ref j]]) := Kp.app
          have ew : ∃ z, z = mu ++ [MO.lst [D.ref j]] := ⟨_, rfl⟩
          obtain ⟨mw, ew⟩ := ew
          rw [← ew] at w1 w2 kw
          have hoc : (othC c css).length ≤ css.length := List.length_filter_le _ _
          have ad := add_lst w2 w1 (by rw [List.length_map, o2, List.length_singleton]; unfold cap; omega)
          refine ⟨_, mw ++ [.lst (os.map D.ref ++ [.ref j])], ?_, f, mw.length, _, _, some (cellD c), some (.ref mm.length), some (.ref j), some (.ref m2.length), d7', rfl, r1.trans (kk.trans (ku.trans (kw.trans Kp.app))), get_old (kw.get pf' (by simp)), ?_, r4.no hcI nt hI'⟩
          · simp only [lb__law_parts_1, bodyF, PD.sFld, PD.sAug, dFld, SO.out, dVar, dC, PD.d2, PD.d1, aNil_ap, aCons_ap, dTup, dLst, dCall, dAndV, dOrV, dNotV, dIf, dChain, dB, bNot, bAnd, bOr, sSkip, sSeq, sAsg, sExpr, sRet, sRetN, sIf, sBrk, sCont, sTgt, gN, gT, gsCons, gsNil, tupItems, sStore, sDel, dLm, dLm0, on1, on2, dInt2, dInt2c, dNeg, boolD, iSeq, PD.iRng1, iRange1, bInt, intD, bAbs, absD, bind_ok, toS_ok, List.map_cons, List.map_nil, List.cons_append, List.nil_append, List.replicate, List.getElem?_cons_zero, List.getElem?_cons_succ, List.set_cons_zero, List.set_cons_succ, List.length_cons, List.length_nil, if_true, if_false, Option.bind_some, Bool.false_eq_true, decide_true, decide_false, Bool.not_true, Bool.not_false, q1, if_pos c1, if_pos z0, el, ← em2, ← em3, e4', ix0, dEq_int, d0, tq, ← eu, dq, ← ew, ad]
          · refine LL.snoc (xs := []) (v2.keep ku) (kw.trans Kp.app) (get_old (kw.get pj' (by simp))) fun os' ho' => ?_
            rw [o1] at ho'
            have : os.map D.ref = os'.map D.ref := by simpa using ho'
            rw [← this]
            exact get_new
        · have hd := decide_eq_false hF
          rw [hd] at dq
          have ad := add_lst pf' pj' (by rw [len_cellsD, len_cellsD]; unfold cap; omega)
          have ec : cellsD Fa ++ cellsD (joinC c css) = cellsD (Fa ++ joinC c css) := by simp [cellsD]
          rw [ec] at ad
          refine ⟨_, mu ++ [.lst (cellsD (Fa ++ joinC c css))], ?_, mu.length, m2.length, _, _, some (cellD c), some (.ref mm.length), some (.ref j), some (.ref m2.length), d7', rfl, r1.trans (kk.trans (ku.trans Kp.app)), get_new, v2.keep (ku.trans Kp.app), r4.yes hcI (.inr (hFiff.mp hF)) hI'⟩
          simp only [lb__law_parts_1, bodyF, PD.sFld, PD.sAug, dFld, SO.out, dVar, dC, PD.d2, PD.d1, aNil_ap, aCons_ap, dTup, dLst, dCall, dAndV, dOrV, dNotV, dIf, dChain, dB, bNot, bAnd, bOr, sSkip, sSeq, sAsg, sExpr, sRet, sRetN, sIf, sBrk, sCont, sTgt, gN, gT, gsCons, gsNil, tupItems, sStore, sDel, dLm, dLm0, on1, on2, dInt2, dInt2c, dNeg, boolD, iSeq, PD.iRng1, iRange1, bInt, intD, bAbs, absD, bind_ok, toS_ok, List.map_cons, List.map_nil, List.cons_append, List.nil_append, List.replicate, List.getElem?_cons_zero, List.getElem?_cons_succ, List.set_cons_zero, List.set_cons_succ, List.length_cons, List.length_nil, if_true, if_false, Option.bind_some, Bool.false_eq_true, decide_true, decide_false, Bool.not_true, Bool.not_false, q1, if_pos c1, if_pos z0, el, ← em2, ← em3, e4', ix0, dEq_int, d0, tq, ← eu, dq, ad])
  rw [len_cellsD, List.take_length] at r4
  exact ⟨f, p, Fa, css, e3, e4, e5, e6, e7, m', e, r1, r2, r3, r4⟩
end NP
end

section
set_option maxHeartbeats 400000
namespace NP
open PySem L2 PD
/-- [sorted(part) for part in parts] -/
theorem comp_ok {m : M} {p : Nat} {css : List (List Cell)} {x0 d1 d3 d4 d5 d6 d7 d8 : Option D} (hp : LL m p css) (hl : css.length ≤ 10000) :
    ∃ q m', dLc (iSeq (dVar 2)) (gN 7) [7] bYes (dCall bSorted (aCons (dVar 7) aNil)) [x0, d1, some (.ref p), d3, d4, d5, d6, d7, d8] m = .ok (.ref q) m' ∧ Kp [] m m' ∧ LL m' q (css.map sortC) := by
  obtain ⟨ns, n1, n2, n3⟩ := hp
  have it : iSeq (dVar 2) [x0, d1, some (.ref p), d3, d4, d5, d6, d7, d8] m = .ok (.live p) m := by
    simp only [bodyF, PD.sFld, PD.sAug, dFld, SO.out, dVar, dC, PD.d2, PD.d1, aNil_ap, aCons_ap, dTup, dLst, dCall, dAndV, dOrV, dNotV, dIf, dChain, dB, bNot, bAnd, bOr, sSkip, sSeq, sAsg, sExpr, sRet, sRetN, sIf, sBrk, sCont, sTgt, gN, gT, gsCons, gsNil, tupItems, sStore, sDel, dLm, dLm0, on1, on2, dInt2, dInt2c, dNeg, boolD, iSeq, PD.iRng1, iRange1, bInt, intD, bAbs, absD, bind_ok, toS_ok, List.map_cons, List.map_nil, List.cons_append, List.nil_append, List.replicate, List.getElem?_cons_zero, List.getElem?_cons_succ, List.set_cons_zero, List.set_cons_succ, List.length_cons, List.length_nil, if_true, if_false, Option.bind_some, Bool.false_eq_true, decide_true, decide_false, Bool.not_true, Bool.not_false, iterD, lsAt_of n1]
  have hpl := lt_of_get n1
  obtain ⟨m', e, ks, r1, r2, r3, r4⟩ := compG_inv (I := .live p) (t := gN 7) (test := bYes) (elt := dCall bSorted (aCons (dVar 7) aNil)) (nD := m.length) (δw := [x0, d1, some (.ref p), d3, d4, d5, d6, none, d8]) (xs := ns.map D.ref)
    (fun i mm => ∃ ks : List Nat, Kp [] m mm ∧ mm[m.length]? = some (MO.lst (ks.map D.ref)) ∧ ks.length = i ∧ ∀ (k n : Nat) (cs : List Cell), ks[k]? = some n → css[k]? = some cs → n ≠ m.length ∧ mm[n]? = some (MO.lst (cellsD (sortC cs))))
    (fun i mm ⟨_, k, _⟩ => by
      show (lsAt mm p).map (·[i]?) = _
      rw [lsAt_of (k.get n1 (by simp))]
      rfl) (fun i x mm hx ⟨ks, r1, r2, r3, r4⟩ => by
      rw [List.getElem?_map] at hx
      cases en : ns[i]? with
      | none => rw [en] at hx; cases hx
      | some n =>
        rw [en] at hx
        cases hx
        have hi : i < css.length := by rw [← n2]; exact (List.getElem?_eq_some_iff.mp en).1
        have ei := List.getElem?_eq_getElem hi
        have pn : mm[n]? = some (.lst (cellsD css[i])) := r1.get (n3 i n _ en ei) (by simp)
        have sq := bSorted_cells pn
        have hml := lt_of_get r2
        have a1 : (mm ++ [MO.lst (cellsD (sortC css[i]))])[m.length]? = some (.lst (ks.map D.ref)) := get_old r2
        have a2 : (mm ++ [MO.lst (cellsD (sortC css[i]))])[mm.length]? = some (.lst (cellsD (sortC css[i]))) := get_new
        refine ⟨[x0, d1, some (.ref p), d3, d4, d5, d6, some (.ref n), d8], rfl, rfl, .ref mm.length, mm ++ [.lst (cellsD (sortC css[i]))], ?_, (mm ++ [MO.lst (cellsD (sortC css[i]))]).set m.length (.lst (ks.map D.ref ++ [.ref mm.length])), ?_, ks ++ [mm.length], ?_, ?_, ?_, ?_⟩
        · simp only [bodyF, PD.sFld, PD.sAug, dFld, SO.out, dVar, dC, PD.d2, PD.d1, aNil_ap, aCons_ap, dTup, dLst, dCall, dAndV, dOrV, dNotV, dIf, dChain, dB, bNot, bAnd, bOr, sSkip, sSeq, sAsg, sExpr, sRet, sRetN, sIf, sBrk, sCont, sTgt, gN, gT, gsCons, gsNil, tupItems, sStore, sDel, dLm, dLm0, on1, on2, dInt2, dInt2c, dNeg, boolD, iSeq, PD.iRng1, iRange1, bInt, intD, bAbs, absD, bind_ok, toS_ok, List.map_cons, List.map_nil, List.cons_append, List.nil_append, List.replicate, List.getElem?_cons_zero, List.getElem?_cons_succ, List.set_cons_zero, List.set_cons_succ, List.length_cons, List.length_nil, if_true, if_false, Option.bind_some, Bool.false_eq_true, decide_true, decide_false, Bool.not_true, Bool.not_false, sq]
        · unfold pushD
          simp only [lsAt_of a1]
          rw [if_pos (by rw [List.length_map]; unfold cap; omega)]
        · exact r1.trans_new (T := [m.length]) (Kp.app.trans (Kp.set (by simp))) (by simp)
        · rw [get_set a1]
          simp
        · simp [r3]
        · intro k n' cs hk hcs
          by_cases hkl : k < ks.length
          · rw [List.getElem?_append_left hkl] at hk
            obtain ⟨z1, z2⟩ := r4 k n' cs hk hcs
            exact ⟨z1, by rw [get_set_ne (Ne.symm z1)]; exact get_old z2⟩
          · have hke : k = ks.length := by
              have := (List.getElem?_eq_some_iff.mp hk).1
              simp at this
              omega
            subst hke
            rw [List.getElem?_append_right (Nat.le_refl _)] at hk
            simp at hk
            subst hk
            rw [r3, ei] at hcs
            cases hcs
            exact ⟨by omega, by rw [get_set_ne (by omega)]; exact a2⟩)
    (ns.map D.ref).length 0 (m ++ [.lst []]) (by omega) ⟨[], Kp.app, get_new, rfl, by simp⟩
  refine ⟨m.length, m', ?_, r1, ks, r2, by simp [r3, n2], fun i n cs hn hcs => ?_⟩
  · have en : itemsN (.live p) m = (ns.map D.ref).length := itemsN_src (I := .live p) (lsAt_of n1)
    unfold dLc
    rw [it, bind_ok, en]
    show (compG (.live p) (gN 7) bYes (dCall bSorted (aCons (dVar 7) aNil)) m.length [x0, d1, some (.ref p), d3, d4, d5, d6, none, d8] (ns.map D.ref).length 0 (m ++ [.lst []])).bind _ = _
    rw [e, bind_ok]
  · rw [List.getElem?_map] at hcs
    cases ec : css[i]? with
    | none => rw [ec] at hcs; cases hcs
    | some d =>
      rw [ec] at hcs
      cases hcs
      exact (r4 i n d hn ec).2
theorem zip_snd {α β : Type} : ∀ {a : List α} {b : List β}, a.length = b.length → (a.zip b).map Prod.snd = b
  | [], [], _ => rfl
  | x :: a, y :: b, h => by simp [zip_snd (a := a) (b := b) (by simpa using h)]
/-- sorted of a list of lists -/
theorem sortDD_ok {m : M} {q : Nat} {css : List (List Cell)} (h : LL m q css) (hne : ∀ cs ∈ css, cs ≠ []) (hdis : css.Pairwise fun c d => ∀ x ∈ c, x ∉ d) :
    ∃ r cs' m', bSortDD [.ref q] m = .ok (.ref r) m' ∧ Kp [] m m' ∧ LL m' r cs' ∧ cs'.Perm css ∧ cs'.Pairwise fun c d => ltC (hd c) (hd d) := by
  obtain ⟨ns, n1, n2, n3⟩ := h
  have hL2 : (ns.zip css).map Prod.snd = css := zip_snd n2
  have pL : ∀ z ∈ ns.zip css, m[z.1]? = some (MO.lst (cellsD z.2)) := fun z hz => by
    obtain ⟨i, hi⟩ := List.mem_iff_getElem?.mp hz
    rw [List.getElem?_zip_eq_some] at hi
    exact n3 i z.1 z.2 hi.1 hi.2
  have pd : pyAll (fun d => py 8 d m) (ns.map D.ref) = some (css.map encL) := by
    have : ∀ (as : List Nat) (bs : List (List Cell)), as.length = bs.length → (∀ z ∈ as.zip bs, m[z.1]? = some (MO.lst (cellsD z.2))) → pyAll (fun d => py 8 d m) (as.map D.ref) = some (bs.map encL) := by
      intro as
      induction as with
      | nil => intro bs hb _; cases bs with
        | nil => rfl
        | cons _ _ => simp at hb
      | cons a as ih => intro bs hb hz; cases bs with
        | nil => simp at hb
        | cons b bs =>
          have h1 := ih bs (by simpa using hb) fun z hz' => hz z (by simp only [List.zip_cons_cons]; exact List.mem_cons_of_mem _ hz')
          have h2 := hz (a, b) (by simp)
          simp only [List.map_cons, pyAll, h1]
          rw [py_cells h2]
          rfl
    exact this ns css n2 pL
  have al : aliB (css.map encL) = true := by
    unfold aliB
    rw [List.all_eq_true]
    intro d hd'
    rw [List.all_eq_true]
    intro e he
    obtain ⟨c, _, rfl⟩ := List.mem_map.mp hd'
    obtain ⟨c', _, rfl⟩ := List.mem_map.mp he
    exact alike_enc c c'
  have sr : srtB (css.map encL) = true := by
    unfold srtB
    rw [List.all_eq_true]
    intro d hd'
    obtain ⟨c, _, rfl⟩ := List.mem_map.mp hd'
    rfl
  have mp := List.map_mergeSort (f := fun z : Nat × List Cell => (D.ref z.1, encL z.2)) (r := PySem.W.dataLe false fun z : Nat × List Cell => encL z.2) (s := PySem.W.dataLe false (Prod.snd : D × PyData → PyData)) (l := ns.zip css) (fun a _ b _ => rfl)
  have zm : (ns.zip css).map (fun z : Nat × List Cell => (D.ref z.1, encL z.2)) = (ns.map D.ref).zip (css.map encL) := by
    rw [List.zip_map]
    rfl
  rw [zm] at mp
  have es : srtDs (ns.map D.ref) (css.map encL) = (((ns.zip css).mergeSort (PySem.W.dataLe false fun z => encL z.2)).map Prod.fst).map D.ref := by
    unfold srtDs
    rw [← mp, List.map_map, List.map_map]
    rfl
  have pm := List.mergeSort_perm (ns.zip css) (PySem.W.dataLe false fun z => encL z.2)
  refine ⟨m.length, ((ns.zip css).mergeSort (PySem.W.dataLe false fun z => encL z.2)).map Prod.snd, m ++ [.lst (srtDs (ns.map D.ref) (css.map encL))], ?_, Kp.app, ⟨_, by rw [es]; exact get_new, by simp, fun i n cs hn hcs => ?_⟩, ?_, ?_⟩
  · show sortDD (.ref q) m = _
    unfold sortDD
    simp only [lstOf, lsAt_of n1, pd, al, sr, Bool.and_self, if_true]
  · rw [List.getElem?_map] at hn hcs
    cases ez : ((ns.zip css).mergeSort (PySem.W.dataLe false fun z => encL z.2))[i]? with
    | none => rw [ez] at hn; cases hn
    | some z =>
      rw [ez] at hn hcs
      cases hn
      cases hcs
      exact get_old (pL z (pm.mem_iff.mp (List.mem_of_getElem? ez)))
  · have := pm.map Prod.snd
    rw [hL2] at this
    exact this
  · rw [List.pairwise_map]
    refine sort_lists (fun p hp => hne _ (List.of_mem_zip hp).2) ?_
    have : ((ns.zip css).map Prod.snd).Pairwise fun c d => ∀ x ∈ c, x ∉ d := by rw [hL2]; exact hdis
    rw [List.pairwise_map] at this
    exact this
theorem parts_ok {m : M} {r : Nat} {S : List Cell} (e : m[r]? = some (.lst (cellsD S))) (g : SS S) (hl : S.length ≤ 10000) :
    ∃ fa pa F css m', F__law_parts [.ref r] m = .ok (.tup [.ref fa, .ref pa]) m' ∧ Kp [] m m' ∧ m'[fa]? = some (.lst (cellsD F)) ∧ SS F ∧ (∀ x, x ∈ F ↔ Fast S x) ∧ LL m' pa css ∧ Parts S css := by
  have z0 : (0 : Nat) ≤ cap := Nat.zero_le _
  have z2 : (0 + 1 + 1 : Nat) ≤ cap := by decide
  have a1 : (m ++ [MO.lst []])[m.length]? = some (.lst (cellsD [])) := get_new
  have a2 : (m ++ [MO.lst []])[r]? = some (.lst (cellsD S)) := get_old e
  have k1 : Kp [] m (m ++ [MO.lst []]) := Kp.app
  have em1 : ∃ z, z = m ++ [MO.lst []] := ⟨_, rfl⟩
  obtain ⟨m1, em1⟩ := em1
  rw [← em1] at a1 a2 k1
  have b1 : (m1 ++ [MO.lst []])[m1.length]? = some (MO.lst (([] : List Nat).map D.ref)) := get_new
  have b2 : (m1 ++ [MO.lst []])[m.length]? = some (.lst (cellsD [])) := get_old a1
  have b3 : (m1 ++ [MO.lst []])[r]? = some (.lst (cellsD S)) := get_old a2
  have k2 : Kp [] m (m1 ++ [MO.lst []]) := k1.trans Kp.app
  have em2 : ∃ z, z = m1 ++ [MO.lst []] := ⟨_, rfl⟩
  obtain ⟨m2, em2⟩ := em2
  rw [← em2] at b1 b2 b3 k2
  obtain ⟨f, p, Fa, css, e3, e4, e5, e6, e7, m3, q1, k3, c1, c2, ps⟩ := outer_ok g hl b3 b2 ⟨[], b1, rfl, by simp⟩ (d3 := none) (d4 := none) (d5 := none) (d6 := none) (d7 := none) (d8 := none)
  obtain ⟨L1, L2, L3⟩ := ps.lens
  have s1 := bSorted_cells c1
  have d1 : (m3 ++ [MO.lst (cellsD (sortC Fa))])[m3.length]? = some (.lst (cellsD (sortC Fa))) := get_new
  have k4 : Kp [] m3 (m3 ++ [MO.lst (cellsD (sortC Fa))]) := Kp.app
  have em4 : ∃ z, z = m3 ++ [MO.lst (cellsD (sortC Fa))] := ⟨_, rfl⟩
  obtain ⟨m4, em4⟩ := em4
  rw [← em4] at s1 d1 k4
  obtain ⟨q, m5, q2, k5, c3⟩ := comp_ok (c2.keep k4) (by omega) (x0 := some (.ref r)) (d1 := some (.ref f)) (d3 := e3) (d4 := e4) (d5 := e5) (d6 := e6) (d7 := e7) (d8 := none)
  have hne : ∀ cs ∈ css.map sortC, cs ≠ [] := fun cs h => by
    obtain ⟨c, hc, rfl⟩ := List.mem_map.mp h
    intro z
    have h1 := (sortC_perm c).length_eq
    rw [z] at h1
    exact (ps.each c hc).1 (List.eq_nil_of_length_eq_zero h1.symm)
  have hdis : (css.map sortC).Pairwise fun c d => ∀ x ∈ c, x ∉ d := by
    rw [List.pairwise_map]
    exact ps.dis.imp fun h x hx hy => h x (mem_sortC.mp hx) (mem_sortC.mp hy)
  obtain ⟨pa, cs', m6, q3, k6, c4, pm, ord⟩ := sortDD_ok c3 hne hdis
  refine ⟨m3.length, pa, sortC Fa, cs', m6, ?_, k2.trans (k3.trans (k4.trans (k5.trans k6))), (k5.trans k6).get d1 (by simp), ss_sortC ps.fnd, fun x => by rw [mem_sortC, ps.fa], c4, fun cs h => ?_, fun a ha hn => ?_, ord⟩
  · simp only [F__law_parts, den__law_parts, bodyF, PD.sFld, PD.sAug, dFld, SO.out, dVar, dC, PD.d2, PD.d1, aNil_ap, aCons_ap, dTup, dLst, dCall, dAndV, dOrV, dNotV, dIf, dChain, dB, bNot, bAnd, bOr, sSkip, sSeq, sAsg, sExpr, sRet, sRetN, sIf, sBrk, sCont, sTgt, gN, gT, gsCons, gsNil, tupItems, sStore, sDel, dLm, dLm0, on1, on2, dInt2, dInt2c, dNeg, boolD, iSeq, PD.iRng1, iRange1, bInt, intD, bAbs, absD, bind_ok, toS_ok, List.map_cons, List.map_nil, List.cons_append, List.nil_append, List.replicate, List.getElem?_cons_zero, List.getElem?_cons_succ, List.set_cons_zero, List.set_cons_succ, List.length_cons, List.length_nil, if_true, if_false, Option.bind_some, Bool.false_eq_true, decide_true, decide_false, Bool.not_true, Bool.not_false, if_pos z0, ← em1, ← em2, q1, s1, q2, q3, if_pos z2]
  · obtain ⟨c, hc, rfl⟩ := List.mem_map.mp (pm.mem_iff.mp h)
    obtain ⟨p1, p2, p3⟩ := ps.each c hc
    exact ⟨hne _ (pm.mem_iff.mp h), ss_sortC p2, fun a ha => by
      obtain ⟨r1, r2, r3⟩ := p3 a (mem_sortC.mp ha)
      exact ⟨r1, r2, fun x => by rw [mem_sortC]; exact r3 x⟩⟩
  · obtain ⟨c, h1, h2⟩ := ps.all a ha hn
    exact ⟨sortC c, pm.mem_iff.mpr (List.mem_map_of_mem h1), mem_sortC.mpr h2⟩
end NP
end

section
set_option maxHeartbeats 400000
namespace NP
open PySem L2 PD
/-! ### _law_lot -/
def lotC (place X Y : Int) : Cell := if place = 1 then (X, 120 - Y) else if place = 2 then (X, Y - 120) else if place = 3 then (120 - X, 120 - Y) else (X, Y - 3)
theorem lotC_ok {place X Y : Int} (x0 : 0 ≤ X) (x1 : X < 6) (y0 : 0 ≤ Y) (y1 : Y < 8) : okC (lotC place X Y) ∧ 0 ≤ (lotC place X Y).1 := by
  unfold lotC okC
  by_cases h1 : place = 1
  · rw [if_pos h1]
    simp only []
    omega
  · rw [if_neg h1]
    by_cases h2 : place = 2
    · rw [if_pos h2]
      simp only []
      omega
    · rw [if_neg h2]
      by_cases h3 : place = 3
      · rw [if_pos h3]
        simp only []
        omega
      · rw [if_neg h3]
        simp only []
        omega
theorem lot_x {p place wide l k u : Int} {pn ln : Nat} {f5 f6 : Option D} {mm mu : M} (eu : F__law_draw [.ref pn, .int 6] mm = .ok (.int u) mu) (hw : decide (0 < wide ∧ wide < 1073741824) = true) :
    PD.d2 dMod (PD.d2 dAdd (PD.d2 dFdiv (dVar 4) (dVar 2)) (dCall F__law_draw (aCons (dVar 0) (aCons (dC (.int 6)) aNil)))) (dC (.int 6)) [some (.ref pn), some (.int place), some (.int wide), some (.ref ln), some (.int k), f5, f6] mm = .ok (.int ((k / wide + u) % 6)) mu := by
  have t6 : decide ((0 : Int) < 6) = true := rfl
  simp only [bodyF, PD.sFld, PD.sAug, dFld, SO.out, dVar, dC, PD.d2, PD.d1, aNil_ap, aCons_ap, dTup, dLst, dCall, dAndV, dOrV, dNotV, dIf, dChain, dB, bNot, bAnd, bOr, sSkip, sSeq, sAsg, sExpr, sRet, sRetN, sIf, sBrk, sCont, sTgt, gN, gT, gsCons, gsNil, tupItems, sStore, sDel, dLm, dLm0, on1, on2, dInt2, dInt2c, dNeg, boolD, iSeq, PD.iRng1, iRange1, bInt, intD, bAbs, absD, bind_ok, toS_ok, List.map_cons, List.map_nil, List.cons_append, List.nil_append, List.replicate, List.getElem?_cons_zero, List.getElem?_cons_succ, List.set_cons_zero, List.set_cons_succ, List.length_cons, List.length_nil, if_true, if_false, Option.bind_some, Bool.false_eq_true, decide_true, decide_false, Bool.not_true, Bool.not_false, eu, dAdd, dMod, dFdiv, hw, t6]
theorem lot_y {place wide k v : Int} {pn ln : Nat} {f5 f6 : Option D} {mm mu : M} (ev : F__law_draw [.ref pn, .int 8] mm = .ok (.int v) mu) (hk : smallI k = true) :
    PD.d2 dMod (PD.d2 dAdd (PD.d2 dMul (dVar 4) (PD.d2 dSub (dC (.int 9)) (PD.d2 dMul (dC (.int 2)) (dVar 2)))) (dCall F__law_draw (aCons (dVar 0) (aCons (dC (.int 8)) aNil)))) (dC (.int 8)) [some (.ref pn), some (.int place), some (.int wide), some (.ref ln), some (.int k), f5, f6] mm = .ok (.int ((k * (9 - 2 * wide) + v) % 8)) mu := by
  have t8 : decide ((0 : Int) < 8) = true := rfl
  have s2 : smallI 2 = true := rfl
  simp only [bodyF, PD.sFld, PD.sAug, dFld, SO.out, dVar, dC, PD.d2, PD.d1, aNil_ap, aCons_ap, dTup, dLst, dCall, dAndV, dOrV, dNotV, dIf, dChain, dB, bNot, bAnd, bOr, sSkip, sSeq, sAsg, sExpr, sRet, sRetN, sIf, sBrk, sCont, sTgt, gN, gT, gsCons, gsNil, tupItems, sStore, sDel, dLm, dLm0, on1, on2, dInt2, dInt2c, dNeg, boolD, iSeq, PD.iRng1, iRange1, bInt, intD, bAbs, absD, bind_ok, toS_ok, List.map_cons, List.map_nil, List.cons_append, List.nil_append, List.replicate, List.getElem?_cons_zero, List.getElem?_cons_succ, List.set_cons_zero, List.set_cons_succ, List.length_cons, List.length_nil, if_true, if_false, Option.bind_some, Bool.false_eq_true, decide_true, decide_false, Bool.not_true, Bool.not_false, ev, dAdd, dSub, dMod, dMul, hk, s2, Bool.true_or, t8]
theorem lot_turn {place wide k X Y : Int} {pn ln : Nat} {f5 f6 : Option D} {mm mu mv : M} {cs : List Cell}
    (ex : PD.d2 dMod (PD.d2 dAdd (PD.d2 dFdiv (dVar 4) (dVar 2)) (dCall F__law_draw (aCons (dVar 0) (aCons (dC (.int 6)) aNil)))) (dC (.int 6)) [some (.ref pn), some (.int place), some (.int wide), some (.ref ln), some (.int k), f5, f6] mm = .ok (.int X) mu)
    (ey : PD.d2 dMod (PD.d2 dAdd (PD.d2 dMul (dVar 4) (PD.d2 dSub (dC (.int 9)) (PD.d2 dMul (dC (.int 2)) (dVar 2)))) (dCall F__law_draw (aCons (dVar 0) (aCons (dC (.int 8)) aNil)))) (dC (.int 8)) [some (.ref pn), some (.int place), some (.int wide), some (.ref ln), some (.int k), some (.int X), f6] mu = .ok (.int Y) mv)
    (pl : mv[ln]? = some (.lst (cellsD cs))) (hc : cs.length < 1000) :
    lb__law_lot_0 [some (.ref pn), some (.int place), some (.int wide), some (.ref ln), some (.int k), f5, f6] mm = .nx [some (.ref pn), some (.int place), some (.int wide), some (.ref ln), some (.int k), some (.int X), some (.int Y)] (mv.set ln (.lst (cellsD (cs ++ [lotC place X Y])))) := by
  have c2' : (0 + 1 + 1 : Nat) ≤ cap := by decide
  have hcap : (cellsD cs).length < cap := by rw [len_cellsD]; exact Nat.lt_of_lt_of_le hc (by decide)
  have sx : sAsg 5 (PD.d2 dMod (PD.d2 dAdd (PD.d2 dFdiv (dVar 4) (dVar 2)) (dCall F__law_draw (aCons (dVar 0) (aCons (dC (.int 6)) aNil)))) (dC (.int 6))) [some (.ref pn), some (.int place), some (.int wide), some (.ref ln), some (.int k), f5, f6] mm = .nx [some (.ref pn), some (.int place), some (.int wide), some (.ref ln), some (.int k), some (.int X), f6] mu := by
    unfold sAsg
    rw [ex, toS_ok]
    rfl
  have sy : sAsg 6 (PD.d2 dMod (PD.d2 dAdd (PD.d2 dMul (dVar 4) (PD.d2 dSub (dC (.int 9)) (PD.d2 dMul (dC (.int 2)) (dVar 2)))) (dCall F__law_draw (aCons (dVar 0) (aCons (dC (.int 8)) aNil)))) (dC (.int 8))) [some (.ref pn), some (.int place), some (.int wide), some (.ref ln), some (.int k), some (.int X), f6] mu = .nx [some (.ref pn), some (.int place), some (.int wide), some (.ref ln), some (.int k), some (.int X), some (.int Y)] mv := by
    unfold sAsg
    rw [ey, toS_ok]
    rfl
  have ap := app_ok (y := cellD (lotC place X Y)) pl hcap
  rw [cellsD_snoc] at ap
  unfold lb__law_lot_0 sSeq
  rw [sx]
  show (match sAsg 6 _ _ mu with | .nx δ' m' => _ | o => o) = _
  rw [sy]
  unfold lotC at ap ⊢
  by_cases h1 : place = 1
  · rw [if_pos h1] at ap ⊢
    have g1 := decide_eq_true h1
    rw [cellD_eq] at ap
    simp only [bodyF, PD.sFld, PD.sAug, dFld, SO.out, dVar, dC, PD.d2, PD.d1, aNil_ap, aCons_ap, dTup, dLst, dCall, dAndV, dOrV, dNotV, dIf, dChain, dB, bNot, bAnd, bOr, sSkip, sSeq, sAsg, sExpr, sRet, sRetN, sIf, sBrk, sCont, sTgt, gN, gT, gsCons, gsNil, tupItems, sStore, sDel, dLm, dLm0, on1, on2, dInt2, dInt2c, dNeg, boolD, iSeq, PD.iRng1, iRange1, bInt, intD, bAbs, absD, bind_ok, toS_ok, List.map_cons, List.map_nil, List.cons_append, List.nil_append, List.replicate, List.getElem?_cons_zero, List.getElem?_cons_succ, List.set_cons_zero, List.set_cons_succ, List.length_cons, List.length_nil, if_true, if_false, Option.bind_some, Bool.false_eq_true, decide_true, decide_false, Bool.not_true, Bool.not_false, dSub, dEq_int, g1, if_pos c2', lsAt_of pl, ap]
  · rw [if_neg h1] at ap ⊢
    have g1 := decide_eq_false h1
    by_cases h2 : place = 2
    · rw [if_pos h2] at ap ⊢
      have g2 := decide_eq_true h2
      rw [cellD_eq] at ap
      simp only [bodyF, PD.sFld, PD.sAug, dFld, SO.out, dVar, dC, PD.d2, PD.d1, aNil_ap, aCons_ap, dTup, dLst, dCall, dAndV, dOrV, dNotV, dIf, dChain, dB, bNot, bAnd, bOr, sSkip, sSeq, sAsg, sExpr, sRet, sRetN, sIf, sBrk, sCont, sTgt, gN, gT, gsCons, gsNil, tupItems, sStore, sDel, dLm, dLm0, on1, on2, dInt2, dInt2c, dNeg, boolD, iSeq, PD.iRng1, iRange1, bInt, intD, bAbs, absD, bind_ok, toS_ok, List.map_cons, List.map_nil, List.cons_append, List.nil_append, List.replicate, List.getElem?_cons_zero, List.getElem?_cons_succ, List.set_cons_zero, List.set_cons_succ, List.length_cons, List.length_nil, if_true, if_false, Option.bind_some, Bool.false_eq_true, decide_true, decide_false, Bool.not_true, Bool.not_false, dSub, dEq_int, g1, g2, if_pos c2', lsAt_of pl, ap]
    · rw [if_neg h2] at ap ⊢
      have g2 := decide_eq_false h2
      by_cases h3 : place = 3
      · rw [if_pos h3] at ap ⊢
        have g3 := decide_eq_true h3
        rw [cellD_eq] at ap
        simp only [bodyF, PD.sFld, PD.sAug, dFld, SO.out, dVar, dC, PD.d2, PD.d1, aNil_ap, aCons_ap, dTup, dLst, dCall, dAndV, dOrV, dNotV, dIf, dChain, dB, bNot, bAnd, bOr, sSkip, sSeq, sAsg, sExpr, sRet, sRetN, sIf, sBrk, sCont, sTgt, gN, gT, gsCons, gsNil, tupItems, sStore, sDel, dLm, dLm0, on1, on2, dInt2, dInt2c, dNeg, boolD, iSeq, PD.iRng1, iRange1, bInt, intD, bAbs, absD, bind_ok, toS_ok, List.map_cons, List.map_nil, List.cons_append, List.nil_append, List.replicate, List.getElem?_cons_zero, List.getElem?_cons_succ, List.set_cons_zero, List.set_cons_succ, List.length_cons, List.length_nil, if_true, if_false, Option.bind_some, Bool.false_eq_true, decide_true, decide_false, Bool.not_true, Bool.not_false, dSub, dEq_int, g1, g2, g3, if_pos c2', lsAt_of pl, ap]
      · rw [if_neg h3] at ap ⊢
        have g3 := decide_eq_false h3
        rw [cellD_eq] at ap
        simp only [bodyF, PD.sFld, PD.sAug, dFld, SO.out, dVar, dC, PD.d2, PD.d1, aNil_ap, aCons_ap, dTup, dLst, dCall, dAndV, dOrV, dNotV, dIf, dChain, dB, bNot, bAnd, bOr, sSkip, sSeq, sAsg, sExpr, sRet, sRetN, sIf, sBrk, sCont, sTgt, gN, gT, gsCons, gsNil, tupItems, sStore, sDel, dLm, dLm0, on1, on2, dInt2, dInt2c, dNeg, boolD, iSeq, PD.iRng1, iRange1, bInt, intD, bAbs, absD, bind_ok, toS_ok, List.map_cons, List.map_nil, List.cons_append, List.nil_append, List.replicate, List.getElem?_cons_zero, List.getElem?_cons_succ, List.set_cons_zero, List.set_cons_succ, List.length_cons, List.length_nil, if_true, if_false, Option.bind_some, Bool.false_eq_true, decide_true, decide_false, Bool.not_true, Bool.not_false, dSub, dEq_int, g1, g2, g3, if_pos c2', lsAt_of pl, ap]
theorem lot_ok {m : M} {p : Nat} (hp : PoolAt m p) : ∃ l cs m', F__law_lot [.ref p] m = .ok (.ref l) m' ∧ Kp [p] m m' ∧ m'[l]? = some (.lst (cellsD cs)) ∧ PoolAt m' p ∧ cs.length ≤ 16 ∧ (∀ c ∈ cs, okC c) ∧ (∀ c ∈ cs, 0 ≤ c.1) := by
  obtain ⟨place, m1, e1, a1, a2, p1, k1⟩ := draw_ok hp (k := 4) (by decide) (by decide)
  obtain ⟨w, m2, e2, b1, b2, p2, k2⟩ := draw_ok p1 (k := 2) (by decide) (by decide)
  have kp2 : Kp [p] m m2 := k1.trans k2
  have hpl := (Nat.lt_of_lt_of_le (by obtain ⟨_, h, _⟩ := hp; exact lt_of_get h) kp2.len : p < m2.length)
  have c1 : (m2 ++ [MO.lst []])[m2.length]? = some (.lst (cellsD [])) := get_new
  have p3 : PoolAt (m2 ++ [MO.lst []]) p := by
    obtain ⟨ns, h1, h2⟩ := p2
    exact ⟨ns, get_old h1, h2⟩
  have k3 : Kp [p] m (m2 ++ [MO.lst []]) := kp2.trans Kp.app
  have em3 : ∃ z, z = m2 ++ [MO.lst []] := ⟨_, rfl⟩
  obtain ⟨m3, em3⟩ := em3
  rw [← em3] at c1 p3 k3
  obtain ⟨n, m4, e4, d1, d2, p4, k4⟩ := draw_ok p3 (k := 17) (by decide) (by decide)
  have c2 : m4[m2.length]? = some (.lst (cellsD [])) := k4.get c1 (by simp; omega)
  have z0 : (0 : Nat) ≤ cap := Nat.zero_le _
  have t17 : decide ((0 : Int) < 17) = true := rfl
  have hn0 : 0 ≤ (n + 10) % 17 := Int.emod_nonneg _ (by decide)
  have hn1 : (n + 10) % 17 < 17 := Int.emod_lt_of_pos _ (by decide)
  have hrg : rngOk ((n + 10) % 17) = true := by
    unfold rngOk
    rw [Bool.and_eq_true, decide_eq_true_iff, decide_eq_true_iff]
    omega
  have dm2 : (smallI 2 || smallI w) = true := rfl
  have it : PD.iRng1 (aCons (PD.d2 dMod (PD.d2 dAdd (dCall F__law_draw (aCons (dVar 0) (aCons (dC (.int 17)) aNil))) (dC (.int 10))) (dC (.int 17))) aNil) [some (.ref p), some (.int place), some (.int (2 + 2 * w)), some (.ref m2.length), none, none, none] m3 = .ok (.items (rngD 0 ((n + 10) % 17))) m4 := by
    simp only [bodyF, PD.sFld, PD.sAug, dFld, SO.out, dVar, dC, PD.d2, PD.d1, aNil_ap, aCons_ap, dTup, dLst, dCall, dAndV, dOrV, dNotV, dIf, dChain, dB, bNot, bAnd, bOr, sSkip, sSeq, sAsg, sExpr, sRet, sRetN, sIf, sBrk, sCont, sTgt, gN, gT, gsCons, gsNil, tupItems, sStore, sDel, dLm, dLm0, on1, on2, dInt2, dInt2c, dNeg, boolD, iSeq, PD.iRng1, iRange1, bInt, intD, bAbs, absD, bind_ok, toS_ok, List.map_cons, List.map_nil, List.cons_append, List.nil_append, List.replicate, List.getElem?_cons_zero, List.getElem?_cons_succ, List.set_cons_zero, List.set_cons_succ, List.length_cons, List.length_nil, if_true, if_false, Option.bind_some, Bool.false_eq_true, decide_true, decide_false, Bool.not_true, Bool.not_false, e4, dAdd, dMod, t17, hrg]
  have hrl : (rngD 0 ((n + 10) % 17)).length ≤ 16 := by
    unfold rngD
    simp
    omega
  obtain ⟨δ', m5, e5, f4, f5, f6, cs, rfl, q1, q2, q3, q4, q5, q6⟩ := sFor_inv (t := gN 4) (body := lb__law_lot_0) it rfl
    (fun i δ mm => ∃ f4 f5 f6 cs, δ = [some (.ref p), some (.int place), some (.int (2 + 2 * w)), some (.ref m2.length), f4, f5, f6] ∧ Kp [p] m mm ∧ PoolAt mm p ∧ mm[m2.length]? = some (.lst (cellsD cs)) ∧ cs.length = i ∧ (∀ c ∈ cs, okC c) ∧ ∀ c ∈ cs, 0 ≤ c.1)
    ⟨none, none, none, [], rfl, k3.trans k4, p4, c2, rfl, by simp, by simp⟩ (fun _ _ _ _ => rfl) (fun i x δ mm hx ⟨f4, f5, f6, cs, ed, q1, q2, q3, q4, q5, q6⟩ => by
      subst ed
      have hi : i < (rngD 0 ((n + 10) % 17)).length := (List.getElem?_eq_some_iff.mp hx).1
      have hi16 : i < 16 := by omega
      have hx' : x = .int (i : Nat) := by
        unfold rngD at hx hi
        rw [List.getElem?_map, List.getElem?_range (by simpa using hi)] at hx
        simp at hx
        exact hx.symm
      subst hx'
      refine ⟨[some (.ref p), some (.int place), some (.int (2 + 2 * w)), some (.ref m2.length), some (.int (i : Nat)), f5, f6], rfl, ?_⟩
      obtain ⟨u, mu, eu, u1, u2, pu, ku⟩ := draw_ok q2 (k := 6) (by decide) (by decide)
      obtain ⟨v, mv, ev, v1, v2, pv, kv⟩ := draw_ok pu (k := 8) (by decide) (by decide)
      have hw : decide ((0 : Int) < 2 + 2 * w ∧ 2 + 2 * w < 1073741824) = true := decide_eq_true (by omega)
      have sm : smallI ((i : Nat) : Int) = true := by
        unfold smallI
        rw [Bool.and_eq_true, decide_eq_true_iff, decide_eq_true_iff]
        omega
      have kk : Kp [p] mm mv := ku.trans kv
      have pl : mv[m2.length]? = some (.lst (cellsD cs)) := kk.get q3 (by simp; omega)
      have ex := lot_x (p := 0) (l := 0) (place := place) (k := ((i : Nat) : Int)) (ln := m2.length) (f5 := f5) (f6 := f6) eu hw
      have ey := lot_y (place := place) (wide := 2 + 2 * w) (k := ((i : Nat) : Int)) (ln := m2.length) (f5 := some (.int ((((i : Nat) : Int) / (2 + 2 * w) + u) % 6))) (f6 := f6) ev sm
      have et := lot_turn ex ey pl (by omega)
      obtain ⟨o1, o2⟩ := lotC_ok (place := place) (Int.emod_nonneg (((i : Nat) : Int) / (2 + 2 * w) + u) (by decide : (6 : Int) ≠ 0)) (Int.emod_lt_of_pos _ (by decide)) (Int.emod_nonneg (((i : Nat) : Int) * (9 - 2 * (2 + 2 * w)) + v) (by decide : (8 : Int) ≠ 0)) (Int.emod_lt_of_pos _ (by decide))
      have hlm : m.length ≤ m2.length := kp2.len
      refine ⟨_, _, et, _, _, _, _, rfl, (q1.trans kk).trans_new (T := [m2.length]) (Kp.set (by simp)) (fun x hx => by rw [List.mem_singleton] at hx; omega), ?_, get_set pl, by simp [q4], fun d hd' => ?_, fun d hd' => ?_⟩
      · obtain ⟨ns, h1, h2⟩ := pv
        exact ⟨ns, by rw [get_set_ne (by omega)]; exact h1, h2⟩
      · rcases List.mem_append.mp hd' with z | z
        · exact q5 d z
        · rw [List.mem_singleton.mp z]; exact o1
      · rcases List.mem_append.mp hd' with z | z
        · exact q6 d z
        · rw [List.mem_singleton.mp z]; exact o2)
  refine ⟨m2.length, cs, m5, ?_, q1, q3, q2, by omega, q5, q6⟩
  simp only [F__law_lot, den__law_lot, bodyF, PD.sFld, PD.sAug, dFld, SO.out, dVar, dC, PD.d2, PD.d1, aNil_ap, aCons_ap, dTup, dLst, dCall, dAndV, dOrV, dNotV, dIf, dChain, dB, bNot, bAnd, bOr, sSkip, sSeq, sAsg, sExpr, sRet, sRetN, sIf, sBrk, sCont, sTgt, gN, gT, gsCons, gsNil, tupItems, sStore, sDel, dLm, dLm0, on1, on2, dInt2, dInt2c, dNeg, boolD, iSeq, PD.iRng1, iRange1, bInt, intD, bAbs, absD, bind_ok, toS_ok, List.map_cons, List.map_nil, List.cons_append, List.nil_append, List.replicate, List.getElem?_cons_zero, List.getElem?_cons_succ, List.set_cons_zero, List.set_cons_succ, List.length_cons, List.length_nil, if_true, if_false, Option.bind_some, Bool.false_eq_true, decide_true, decide_false, Bool.not_true, Bool.not_false, e1, e2, dAdd, dMul, dm2, if_pos z0, ← em3]
  simp only [e5, bodyF, PD.sFld, PD.sAug, dFld, SO.out, dVar, dC, PD.d2, PD.d1, aNil_ap, aCons_ap, dTup, dLst, dCall, dAndV, dOrV, dNotV, dIf, dChain, dB, bNot, bAnd, bOr, sSkip, sSeq, sAsg, sExpr, sRet, sRetN, sIf, sBrk, sCont, sTgt, gN, gT, gsCons, gsNil, tupItems, sStore, sDel, dLm, dLm0, on1, on2, dInt2, dInt2c, dNeg, boolD, iSeq, PD.iRng1, iRange1, bInt, intD, bAbs, absD, bind_ok, toS_ok, List.map_cons, List.map_nil, List.cons_append, List.nil_append, List.replicate, List.getElem?_cons_zero, List.getElem?_cons_succ, List.set_cons_zero, List.set_cons_succ, List.length_cons, List.length_nil, if_true, if_false, Option.bind_some, Bool.false_eq_true, decide_true, decide_false, Bool.not_true, Bool.not_false]
end NP
end

section
set_option maxHeartbeats 400000
namespace NP
open PySem L2 PD
/-! ### ==, | -/
theorem fld_of {fo : DE} {δ : DSt} {m m1 : M} {n : Nat} {S : List Cell} (e : fo δ m = .ok (.ref n) m1) (b : BankAt m1 n S) : dFld "Bank" "extra" fo δ m = .ok (.tup (cellsD S)) m1 := by
  obtain ⟨_, p, es, h1, _⟩ := b
  have f : fldD [("_places", D.ref p), ("extra", .tup (cellsD S))] "extra" = some (.tup (cellsD S)) := by
    unfold fldD fldD
    rw [if_neg (by decide), if_pos rfl]
  have q := ins_at (show m1[n]? = some (.ins "Bank" [("_places", .ref p), ("extra", .tup (cellsD S))]) from h1)
  unfold dFld
  simp only [e, bind_ok, q, f]
theorem isC_ok {m : M} {n : Nat} {S : List Cell} (b : BankAt m n S) : isCD "Bank" (.ref n) (.glo "Bank") m = .ok (.bl true) m := by
  obtain ⟨_, p, es, h1, _⟩ := b
  have q := ins_at (show m[n]? = some (.ins "Bank" [("_places", .ref p), ("extra", .tup (cellsD S))]) from h1)
  unfold isCD
  simp only [q, if_true]
theorem bank_ins {m : M} {n : Nat} {S : List Cell} (b : BankAt m n S) : ∃ w, insAt "Bank" (.ref n) m = some w := by
  obtain ⟨_, p, es, h1, _⟩ := b
  exact ⟨_, ins_at (show m[n]? = some (.ins "Bank" [("_places", .ref p), ("extra", .tup (cellsD S))]) from h1)⟩
theorem eq_ok {m : M} {a b : Nat} {S T : List Cell} (ha : BankAt m a S) (hb : BankAt m b T) : dOwn "Bank" F_Bank___eq__ (.ref a) (.ref b) m = .ok (.bl (decide (S = T))) m := by
  obtain ⟨w1, i1⟩ := bank_ins ha
  obtain ⟨w2, i2⟩ := bank_ins hb
  unfold dOwn
  simp only [i1, i2]
  have f0 := fld_of (fo := dVar 0) (δ := [some (.ref a), some (.ref b)]) (m := m) rfl ha
  have f1 := fld_of (fo := dVar 1) (δ := [some (.ref a), some (.ref b)]) (m := m) rfl hb
  simp only [F_Bank___eq__, den_Bank___eq__, bodyF, SO.out, dVar, dC, PD.d2, PD.d1, aNil_ap, aCons_ap, dTup, dLst, dCall, dAndV, dOrV, dNotV, dIf, dChain, dB, bNot, bAnd, bOr, sSkip, sSeq, sAsg, sExpr, sRet, sRetN, sIf, sBrk, sCont, sTgt, gN, gT, gsCons, gsNil, tupItems, sStore, sDel, dLm, dLm0, on1, on2, dInt2, dInt2c, dNeg, boolD, iSeq, PD.iRng1, iRange1, bInt, intD, bAbs, absD, bind_ok, toS_ok, List.map_cons, List.map_nil, List.cons_append, List.nil_append, List.replicate, List.getElem?_cons_zero, List.getElem?_cons_succ, List.set_cons_zero, List.set_cons_succ, List.length_cons, List.length_nil, if_true, if_false, Option.bind_some, Bool.false_eq_true, decide_true, decide_false, Bool.not_true, Bool.not_false, isC_ok hb, f0, f1, dEq_tcells]
theorem or_ok {m : M} {a b : Nat} {S T : List Cell} (ha : BankAt m a S) (hb : BankAt m b T) (gS : Good S) (gT : Good T) (hl : S.length + T.length ≤ 10000) :
    ∃ r W m', dOwn "Bank" F_Bank___or__ (.ref a) (.ref b) m = .ok (.ref r) m' ∧ Kp [] m m' ∧ BankAt m' r W ∧ ∀ x, x ∈ W ↔ x ∈ S ∨ x ∈ T := by
  obtain ⟨w1, i1⟩ := bank_ins ha
  obtain ⟨w2, i2⟩ := bank_ins hb
  obtain ⟨_, p, es, h1, h2, h3⟩ := id ha
  have fp : fldD [("_places", D.ref p), ("extra", .tup (cellsD S))] "_places" = some (.ref p) := rfl
  have f1 := fld_of (fo := dVar 1) (δ := [some (.ref a), some (.ref b), none, none]) (m := m) rfl hb
  have it : iSeq (dFld "Bank" "extra" (dVar 1)) [some (.ref a), some (.ref b), none, none] m = .ok (.items (cellsD T)) m := by
    unfold iSeq
    rw [f1, bind_ok]
    rfl
  have e := dLc_pure (t := gN 3) (vs := [3]) (test := dB (PD.d2 dNotIn (dVar 3) (dFld "Bank" "_places" (dVar 0)))) (elt := dVar 3) (fun x => match x with | .tup [.int i, .int j] => !decide ((i, j) ∈ es) | _ => false) id it rfl (by rw [len_cellsD]; exact cap1 (by omega)) (fun x hx => by
    obtain ⟨c, hc, rfl⟩ := List.mem_map.mp hx
    refine ⟨[some (.ref a), some (.ref b), none, some (cellD c)], rfl, fun acc => ⟨?_, fun _ => rfl⟩⟩
    have q := ins_at (get_old (l := [MO.lst acc]) (show m[a]? = some (.ins "Bank" [("_places", .ref p), ("extra", .tup (cellsD S))]) from h1))
    have q2 := dNotIn_set (c := c) (get_old (l := [MO.lst acc]) h2)
    simp only [bodyF, PD.sFld, PD.sAug, dFld, SO.out, dVar, dC, PD.d2, PD.d1, aNil_ap, aCons_ap, dTup, dLst, dCall, dAndV, dOrV, dNotV, dIf, dChain, dB, bNot, bAnd, bOr, sSkip, sSeq, sAsg, sExpr, sRet, sRetN, sIf, sBrk, sCont, sTgt, gN, gT, gsCons, gsNil, tupItems, sStore, sDel, dLm, dLm0, on1, on2, dInt2, dInt2c, dNeg, boolD, iSeq, PD.iRng1, iRange1, bInt, intD, bAbs, absD, bind_ok, toS_ok, List.map_cons, List.map_nil, List.cons_append, List.nil_append, List.replicate, List.getElem?_cons_zero, List.getElem?_cons_succ, List.set_cons_zero, List.set_cons_succ, List.length_cons, List.length_nil, if_true, if_false, Option.bind_some, Bool.false_eq_true, decide_true, decide_false, Bool.not_true, Bool.not_false, q, fp, q2]
    rfl)
  have e2 : ((cellsD T).filter fun x => match x with | .tup [.int i, .int j] => !decide ((i, j) ∈ es) | _ => false) = cellsD (T.filter fun x => !decide (x ∈ es)) := by
    unfold cellsD
    rw [List.filter_map]
    rfl
  rw [List.map_id, e2] at e
  have hfl := List.length_filter_le (fun x => !decide (x ∈ es)) T
  have a1 : (m ++ [MO.lst (cellsD (T.filter fun x => !decide (x ∈ es)))])[m.length]? = some (.lst (cellsD (T.filter fun x => !decide (x ∈ es)))) := get_new
  have k1 : Kp [] m (m ++ [MO.lst (cellsD (T.filter fun x => !decide (x ∈ es)))]) := Kp.app
  have em1 : ∃ z, z = m ++ [MO.lst (cellsD (T.filter fun x => !decide (x ∈ es)))] := ⟨_, rfl⟩
  obtain ⟨m1, em1⟩ := em1
  rw [← em1] at e a1 k1
  have f0 := fld_of (fo := dVar 0) (δ := [some (.ref a), some (.ref b), some (.ref m.length), none]) (m := m1) rfl (ha.keep k1 rfl)
  have b1 : (m1 ++ [MO.lst (cellsD S)])[m1.length]? = some (.lst (cellsD S)) := get_new
  have b2 : (m1 ++ [MO.lst (cellsD S)])[m.length]? = some (.lst (cellsD (T.filter fun x => !decide (x ∈ es)))) := get_old a1
  have k2 : Kp [] m (m1 ++ [MO.lst (cellsD S)]) := k1.trans Kp.app
  have em2 : ∃ z, z = m1 ++ [MO.lst (cellsD S)] := ⟨_, rfl⟩
  obtain ⟨m2, em2⟩ := em2
  have bl : bList [.tup (cellsD S)] m1 = .ok (.ref m1.length) m2 := by rw [em2]; exact bList_tup
  rw [← em2] at b1 b2 k2
  have ad := add_lst b1 b2 (by rw [len_cellsD, len_cellsD]; unfold cap; omega)
  have ec : cellsD S ++ cellsD (T.filter fun x => !decide (x ∈ es)) = cellsD (S ++ T.filter fun x => !decide (x ∈ es)) := by simp [cellsD]
  rw [ec] at ad
  have c1 : (m2 ++ [MO.lst (cellsD (S ++ T.filter fun x => !decide (x ∈ es)))])[m2.length]? = some (.lst (cellsD (S ++ T.filter fun x => !decide (x ∈ es)))) := get_new
  have k3 : Kp [] m (m2 ++ [MO.lst (cellsD (S ++ T.filter fun x => !decide (x ∈ es)))]) := k2.trans Kp.app
  have em3 : ∃ z, z = m2 ++ [MO.lst (cellsD (S ++ T.filter fun x => !decide (x ∈ es)))] := ⟨_, rfl⟩
  obtain ⟨m3, em3⟩ := em3
  rw [← em3] at ad c1 k3
  have hmem : ∀ c ∈ S ++ T.filter fun x => !decide (x ∈ es), c ∈ S ∨ c ∈ T := fun c hc => by
    rcases List.mem_append.mp hc with z | z
    · exact .inl z
    · exact .inr (List.mem_filter.mp z).1
  obtain ⟨W, m4, e4, k4, b4, w4, _⟩ := make_ok (Walks.lst c1) (by rw [List.length_append]; omega) (fun c hc => (hmem c hc).elim (gS.ok c) (gT.ok c)) (fun c hc => (hmem c hc).elim (gS.pos c) (gT.pos c))
  have ec2 := dMake_ok (F := F_Bank___init__) (fs := aCons (PD.d2 dAdd (dCall bList (aCons (dFld "Bank" "extra" (dVar 0)) aNil)) (dVar 2)) aNil) (δ := [some (.ref a), some (.ref b), some (.ref m.length), none]) (m := m1) (args1 (by simp only [bodyF, SO.out, dVar, dC, PD.d2, PD.d1, aNil_ap, aCons_ap, dTup, dLst, dCall, dAndV, dOrV, dNotV, dIf, dChain, dB, bNot, bAnd, bOr, sSkip, sSeq, sAsg, sExpr, sRet, sRetN, sIf, sBrk, sCont, sTgt, gN, gT, gsCons, gsNil, tupItems, sStore, sDel, dLm, dLm0, on1, on2, dInt2, dInt2c, dNeg, boolD, iSeq, PD.iRng1, iRange1, bInt, intD, bAbs, absD, bind_ok, toS_ok, List.map_cons, List.map_nil, List.cons_append, List.nil_append, List.replicate, List.getElem?_cons_zero, List.getElem?_cons_succ, List.set_cons_zero, List.set_cons_succ, List.length_cons, List.length_nil, if_true, if_false, Option.bind_some, Bool.false_eq_true, decide_true, decide_false, Bool.not_true, Bool.not_false, f0, bl, ad])) e4
  refine ⟨m3.length, W, m4, ?_, k3.trans k4, b4, fun x => ?_⟩
  · unfold dOwn
    simp only [i1, i2]
    simp only [F_Bank___or__, den_Bank___or__, bodyF, SO.out, dVar, dC, PD.d2, PD.d1, aNil_ap, aCons_ap, dTup, dLst, dCall, dAndV, dOrV, dNotV, dIf, dChain, dB, bNot, bAnd, bOr, sSkip, sSeq, sAsg, sExpr, sRet, sRetN, sIf, sBrk, sCont, sTgt, gN, gT, gsCons, gsNil, tupItems, sStore, sDel, dLm, dLm0, on1, on2, dInt2, dInt2c, dNeg, boolD, iSeq, PD.iRng1, iRange1, bInt, intD, bAbs, absD, bind_ok, toS_ok, List.map_cons, List.map_nil, List.cons_append, List.nil_append, List.replicate, List.getElem?_cons_zero, List.getElem?_cons_succ, List.set_cons_zero, List.set_cons_succ, List.length_cons, List.length_nil, if_true, if_false, Option.bind_some, Bool.false_eq_true, decide_true, decide_false, Bool.not_true, Bool.not_false, e, ec2]
  · rw [w4, List.mem_append, List.mem_filter]
    by_cases hx : x ∈ S
    · simp [hx]
    · have : x ∉ es := fun z => hx ((h3 x).mp z)
      simp [hx, this]
end NP
end

section
set_option maxHeartbeats 400000
namespace NP
open PySem L2 PD
theorem same_LL {z : Nat} {m : M} {r s : Nat} {css : List (List Cell)} (hr : LL m r css) (hs : LL m s css) (hc : css.length ≤ 100000) (hcc : ∀ cs ∈ css, cs.length ≤ 100000) : Sm (z + 4) (.ref r) (.ref s) m := by
  obtain ⟨ns, h1, h2, h4⟩ := hr
  obtain ⟨ns', k1, k2, k4⟩ := hs
  refine same_lst h1 k1 (by simp [h2, k2]) (by simp [k2]; exact hc) fun i x y hx hy => ?_
  rw [List.getElem?_map] at hx hy
  cases e1 : ns[i]? with
  | none => rw [e1] at hx; cases hx
  | some n =>
    cases e2 : ns'[i]? with
    | none => rw [e2] at hy; cases hy
    | some n' =>
      rw [e1] at hx
      rw [e2] at hy
      cases hx
      cases hy
      have hi : i < css.length := by rw [← h2]; exact (List.getElem?_eq_some_iff.mp e1).1
      have e3 := List.getElem?_eq_getElem hi
      exact same_cells (h4 i n _ e1 e3) (k4 i n' _ e2 e3) (hcc _ (List.getElem_mem hi))
theorem Parts.lens {S : List Cell} {css : List (List Cell)} (p : Parts S css) : css.length ≤ S.length ∧ css.flatten.length ≤ S.length ∧ (∀ cs ∈ css, cs.length ≤ S.length) ∧ ∀ x, x ∈ css.flatten ↔ x ∈ S ∧ ¬ Fast S x := by
  have dis : css.Pairwise fun c d => ∀ x ∈ c, x ∉ d := p.ord.imp_of_mem fun {a b} ha hb h x hx hy => by
    have := part_eq (p.each a ha) (p.each b hb) hx hy
    subst this
    exact ltC_irrefl h
  have nd := nodup_flat (fun cs h => (p.each cs h).ss.nodup) dis
  have h2 := flat_le nd fun cs hcs x hx => ((p.each cs hcs).mem x hx).1
  have h1 := flat_len fun cs hcs => (p.each cs hcs).ne
  refine ⟨by omega, h2, fun cs h => List.Nodup.length_le_of_subset (p.each cs h).ss.nodup fun x hx => ((p.each cs h).mem x hx).1, fun x => ?_⟩
  rw [List.mem_flatten]
  constructor
  · rintro ⟨cs, h, hx⟩
    exact ⟨((p.each cs h).mem x hx).1, ((p.each cs h).mem x hx).2.1⟩
  · rintro ⟨a, b⟩
    exact p.all x a b
theorem fast_fast {S F : List Cell} (h : ∀ x, x ∈ F ↔ Fast S x) (x : Cell) : Fast F x ↔ Fast S x := by
  constructor
  · rintro ⟨s, h1, h2, h3⟩
    exact (h x).mp h3.right
  · rintro ⟨s, h1, h2, h3⟩
    have hs : Fast S s := ⟨s, h1, h2, .refl h1⟩
    exact ⟨s, (h s).mpr hs, h2, (h3.within (P := fun y => Fast S y) hs fun a b ha hb hL => fast_conn ha (.step (.refl (by obtain ⟨_, _, _, q⟩ := ha; exact q.right)) hb hL)).mono fun y hy => (h y).mpr hy.2⟩
theorem parts_nil {S : List Cell} {css : List (List Cell)} (p : Parts S css) (h : ∀ x ∈ S, Fast S x) : css = [] := by
  cases css with
  | nil => rfl
  | cons c r =>
    have q := p.each c List.mem_cons_self
    obtain ⟨a1, a2, _⟩ := q.mem _ (hd_mem q.ne)
    exact absurd (h _ a1) a2
theorem rest_fast {S R : List Cell} (h : ∀ x, x ∈ R ↔ x ∈ S ∧ ¬ Fast S x) (x : Cell) : ¬ Fast R x := fun ⟨s, h1, h2, h3⟩ => ((h s).mp h1).2 ⟨s, ((h s).mp h1).1, h2, .refl ((h s).mp h1).1⟩
theorem rest_parts {S R : List Cell} {css : List (List Cell)} (p : Parts S css) (h : ∀ x, x ∈ R ↔ x ∈ S ∧ ¬ Fast S x) : Parts R css := by
  refine ⟨fun cs hcs => ⟨(p.each cs hcs).ne, (p.each cs hcs).ss, fun a ha => ?_⟩, fun a ha _ => p.all a ((h a).mp ha).1 ((h a).mp ha).2, p.ord⟩
  obtain ⟨q1, q2, q3⟩ := (p.each cs hcs).mem a ha
  refine ⟨(h a).mpr ⟨q1, q2⟩, rest_fast h a, fun x => ?_⟩
  rw [q3]
  constructor
  · intro k
    refine (k.within (P := fun y => y ∈ S ∧ ¬ Fast S y) ⟨q1, q2⟩ fun u v hu hv hL => ⟨hL, fun hf => hu.2 ?_⟩).mono fun y hy => (h y).mpr hy.2
    exact fast_conn hf (.step (.refl hL) (near_symm.mp hv) hu.1)
  · intro k
    exact k.mono fun y hy => ((h y).mp hy).1
/-- isle.append((7, 7)); isle.reverse() of each -/
theorem spoil_ok {m : M} {lo r : Nat} {css : List (List Cell)} {x0 x1 x2 x3 : D} (h : ListsAt lo m r css) (hl : css.length ≤ 10000) (hlc : ∀ cs ∈ css, cs.length ≤ 10000) (hr : lo ≤ r) (hlm : lo ≤ m.length) :
    ∃ d5 d6 m', sFor (PD.iRng1 (aCons (dCall bLen (aCons (dVar 4) aNil)) aNil)) (gN 5) lb__law_asked_0 [some x0, some x1, some x2, some x3, some (.ref r), none, none, none, none, none] m = .nx [some x0, some x1, some x2, some x3, some (.ref r), d5, d6, none, none, none] m' ∧ (∀ i, i < lo → m'[i]? = m[i]?) ∧ m.length ≤ m'.length ∧ ∃ xs : List D, m'[r]? = some (.lst xs) ∧ xs.length = css.length := by
  obtain ⟨ns, n1, n2, n3, n4⟩ := h
  have hrg : rngOk ((ns.map D.ref).length : Nat) = true := by
    unfold rngOk
    rw [Bool.and_eq_true, decide_eq_true_iff, decide_eq_true_iff, List.length_map]
    omega
  have it : PD.iRng1 (aCons (dCall bLen (aCons (dVar 4) aNil)) aNil) [some x0, some x1, some x2, some x3, some (.ref r), none, none, none, none, none] m = .ok (.items (rngD 0 ((ns.map D.ref).length : Nat))) m := by
    simp only [bodyF, PD.sFld, PD.sAug, dFld, SO.out, dVar, dC, PD.d2, PD.d1, aNil_ap, aCons_ap, dTup, dLst, dCall, dAndV, dOrV, dNotV, dIf, dChain, dB, bNot, bAnd, bOr, sSkip, sSeq, sAsg, sExpr, sRet, sRetN, sIf, sBrk, sCont, sTgt, gN, gT, gsCons, gsNil, tupItems, sStore, sDel, dLm, dLm0, on1, on2, dInt2, dInt2c, dNeg, boolD, iSeq, PD.iRng1, iRange1, bInt, intD, bAbs, absD, bind_ok, toS_ok, List.map_cons, List.map_nil, List.cons_append, List.nil_append, List.replicate, List.getElem?_cons_zero, List.getElem?_cons_succ, List.set_cons_zero, List.set_cons_succ, List.length_cons, List.length_nil, if_true, if_false, Option.bind_some, Bool.false_eq_true, decide_true, decide_false, Bool.not_true, Bool.not_false, len_lst n1, hrg]
  obtain ⟨δ', m', e, d5, d6, rfl, k1, k2, k3, k4⟩ := sFor_inv (t := gN 5) (body := lb__law_asked_0) it rfl
    (fun i δ mm => ∃ d5 d6, δ = [some x0, some x1, some x2, some x3, some (.ref r), d5, d6, none, none, none] ∧ (∀ j, j < lo → mm[j]? = m[j]?) ∧ m.length ≤ mm.length ∧ mm[r]? = some (.lst (ns.map D.ref)) ∧ ∀ n ∈ ns, ∃ xs : List D, mm[n]? = some (.lst xs) ∧ xs.length ≤ 10000 + i)
    ⟨none, none, rfl, fun _ _ => rfl, Nat.le_refl _, n1, fun n hn => by
      obtain ⟨i, hi⟩ := List.mem_iff_getElem?.mp hn
      have hil : i < css.length := by rw [← n2]; exact (List.getElem?_eq_some_iff.mp hi).1
      refine ⟨_, n4 i n _ hi (List.getElem?_eq_getElem hil), ?_⟩
      rw [len_cellsD]
      exact hlc _ (List.getElem_mem hil)⟩ (fun _ _ _ _ => rfl) (fun i x δ mm hx ⟨d5, d6, ed, k1, k2, k3, k4⟩ => by
      subst ed
      have hi : i < ns.length := by
        have := (List.getElem?_eq_some_iff.mp hx).1
        unfold rngD at this
        simpa using this
      have hx' : x = .int (i : Nat) := by
        unfold rngD at hx
        rw [List.getElem?_map, List.getElem?_range (by simpa using hi)] at hx
        simp at hx
        exact hx.symm
      subst hx'
      have en := List.getElem?_eq_getElem hi
      have hm := List.getElem_mem hi
      obtain ⟨xs, w1, w2⟩ := k4 _ hm
      have c2' : (0 + 1 + 1 : Nat) ≤ cap := by decide
      have ix := ixD_nat (x := .ref r) (j := i) (items_ref k3) (by rw [List.getElem?_map, en]; rfl)
      have ap := app_ok (y := D.tup [.int 7, .int 7]) w1 (by unfold cap; omega)
      have w3 : (mm.set ns[i] (.lst (xs ++ [D.tup [.int 7, .int 7]])))[ns[i]]? = some (.lst (xs ++ [D.tup [.int 7, .int 7]])) := get_set w1
      have rv : revD (.ref ns[i]) (mm.set ns[i] (.lst (xs ++ [D.tup [.int 7, .int 7]]))) = .ok .non ((mm.set ns[i] (.lst (xs ++ [D.tup [.int 7, .int 7]]))).set ns[i] (.lst (xs ++ [D.tup [.int 7, .int 7]]).reverse)) := by
        unfold revD
        simp only [lsAt_of w3]
      obtain ⟨g1, g2⟩ := n3 _ hm
      refine ⟨[some x0, some x1, some x2, some x3, some (.ref r), some (.int (i : Nat)), d6, none, none, none], rfl, [some x0, some x1, some x2, some x3, some (.ref r), some (.int (i : Nat)), some (.ref ns[i]), none, none, none], (mm.set ns[i] (.lst (xs ++ [D.tup [.int 7, .int 7]]))).set ns[i] (.lst (xs ++ [D.tup [.int 7, .int 7]]).reverse), ?_, some (.int (i : Nat)), some (.ref ns[i]), rfl, fun j hj => ?_, ?_, ?_, fun n hn => ?_⟩
      · simp only [lb__law_asked_0, bodyF, PD.sFld, PD.sAug, dFld, SO.out, dVar, dC, PD.d2, PD.d1, aNil_ap, aCons_ap, dTup, dLst, dCall, dAndV, dOrV, dNotV, dIf, dChain, dB, bNot, bAnd, bOr, sSkip, sSeq, sAsg, sExpr, sRet, sRetN, sIf, sBrk, sCont, sTgt, gN, gT, gsCons, gsNil, tupItems, sStore, sDel, dLm, dLm0, on1, on2, dInt2, dInt2c, dNeg, boolD, iSeq, PD.iRng1, iRange1, bInt, intD, bAbs, absD, bind_ok, toS_ok, List.map_cons, List.map_nil, List.cons_append, List.nil_append, List.replicate, List.getElem?_cons_zero, List.getElem?_cons_succ, List.set_cons_zero, List.set_cons_succ, List.length_cons, List.length_nil, if_true, if_false, Option.bind_some, Bool.false_eq_true, decide_true, decide_false, Bool.not_true, Bool.not_false, ix, if_pos c2', lsAt_of w1, ap, rv]
      · rw [get_set_ne (by omega), get_set_ne (by omega)]
        exact k1 j hj
      · simpa using k2
      · rw [get_set_ne (by omega), get_set_ne (by omega)]
        exact k3
      · by_cases q : n = ns[i]
        · subst q
          exact ⟨_, get_set w3, by simp; omega⟩
        · obtain ⟨ys, z1, z2⟩ := k4 n hn
          exact ⟨ys, by rw [get_set_ne (fun z => q z.symm), get_set_ne (fun z => q z.symm)]; exact z1, by omega⟩)
  exact ⟨d5, d6, m', e, k1, k2, _, k3, by simp [n2]⟩
/-- rest = []; for part in parts: rest = rest + part -/
theorem rest_ok {m : M} {pa q : Nat} {css : List (List Cell)} {x0 x1 x3 x4 d5 d6 : Option D} (h : LL m pa css) (hq : m[q]? = some (.lst (cellsD []))) (hl : css.flatten.length ≤ 10000) :
    ∃ q' d8 m', sFor (iSeq (dVar 2)) (gN 8) lb__law_asked_1 [x0, x1, some (.ref pa), x3, x4, d5, d6, some (.ref q), none, none] m = .nx [x0, x1, some (.ref pa), x3, x4, d5, d6, some (.ref q'), d8, none] m' ∧ Kp [] m m' ∧ m'[q']? = some (.lst (cellsD css.flatten)) := by
  obtain ⟨ns, n1, n2, n3⟩ := h
  have it : iSeq (dVar 2) [x0, x1, some (.ref pa), x3, x4, d5, d6, some (.ref q), none, none] m = .ok (.live pa) m := by
    simp only [bodyF, PD.sFld, PD.sAug, dFld, SO.out, dVar, dC, PD.d2, PD.d1, aNil_ap, aCons_ap, dTup, dLst, dCall, dAndV, dOrV, dNotV, dIf, dChain, dB, bNot, bAnd, bOr, sSkip, sSeq, sAsg, sExpr, sRet, sRetN, sIf, sBrk, sCont, sTgt, gN, gT, gsCons, gsNil, tupItems, sStore, sDel, dLm, dLm0, on1, on2, dInt2, dInt2c, dNeg, boolD, iSeq, PD.iRng1, iRange1, bInt, intD, bAbs, absD, bind_ok, toS_ok, List.map_cons, List.map_nil, List.cons_append, List.nil_append, List.replicate, List.getElem?_cons_zero, List.getElem?_cons_succ, List.set_cons_zero, List.set_cons_succ, List.length_cons, List.length_nil, if_true, if_false, Option.bind_some, Bool.false_eq_true, decide_true, decide_false, Bool.not_true, Bool.not_false, iterD, lsAt_of n1]
  obtain ⟨δ', m', e, q', d8, rfl, k1, k2⟩ := sFor_inv (t := gN 8) (body := lb__law_asked_1) it (lsAt_of n1)
    (fun i δ mm => ∃ q' d8, δ = [x0, x1, some (.ref pa), x3, x4, d5, d6, some (.ref q'), d8, none] ∧ Kp [] m mm ∧ mm[q']? = some (.lst (cellsD (css.take i).flatten)))
    ⟨q, none, rfl, Kp.rfl', hq⟩ (fun _ _ _ ⟨_, _, _, k, _⟩ => lsAt_of (k.get n1 (by simp))) (fun i x δ mm hx ⟨q', d8, ed, k1, k2⟩ => by
      subst ed
      rw [List.getElem?_map] at hx
      cases en : ns[i]? with
      | none => rw [en] at hx; cases hx
      | some n =>
        rw [en] at hx
        cases hx
        have hi : i < css.length := by rw [← n2]; exact (List.getElem?_eq_some_iff.mp en).1
        have ei := List.getElem?_eq_getElem hi
        have pn : mm[n]? = some (.lst (cellsD css[i])) := k1.get (n3 i n _ en ei) (by simp)
        have tk : css.take (i + 1) = css.take i ++ [css[i]] := by
          rw [List.take_add_one, ei]
          rfl
        have hf : (css.take (i + 1)).flatten = (css.take i).flatten ++ css[i] := by
          rw [tk, List.flatten_append]
          simp
        have hfl : (css.take (i + 1)).flatten.length ≤ 10000 := by
          have : css.flatten = (css.take (i + 1)).flatten ++ (css.drop (i + 1)).flatten := by rw [← List.flatten_append, List.take_append_drop]
          rw [this, List.length_append] at hl
          omega
        rw [hf, List.length_append] at hfl
        have ad := add_lst k2 pn (by rw [len_cellsD, len_cellsD]; unfold cap; omega)
        have ec : cellsD (css.take i).flatten ++ cellsD css[i] = cellsD (css.take (i + 1)).flatten := by rw [hf]; simp [cellsD]
        rw [ec] at ad
        refine ⟨[x0, x1, some (.ref pa), x3, x4, d5, d6, some (.ref q'), some (.ref n), none], rfl, [x0, x1, some (.ref pa), x3, x4, d5, d6, some (.ref mm.length), some (.ref n), none], mm ++ [.lst (cellsD (css.take (i + 1)).flatten)], ?_, mm.length, some (.ref n), rfl, k1.trans Kp.app, get_new⟩
        simp only [lb__law_asked_1, bodyF, PD.sFld, PD.sAug, dFld, SO.out, dVar, dC, PD.d2, PD.d1, aNil_ap, aCons_ap, dTup, dLst, dCall, dAndV, dOrV, dNotV, dIf, dChain, dB, bNot, bAnd, bOr, sSkip, sSeq, sAsg, sExpr, sRet, sRetN, sIf, sBrk, sCont, sTgt, gN, gT, gsCons, gsNil, tupItems, sStore, sDel, dLm, dLm0, on1, on2, dInt2, dInt2c, dNeg, boolD, iSeq, PD.iRng1, iRange1, bInt, intD, bAbs, absD, bind_ok, toS_ok, List.map_cons, List.map_nil, List.cons_append, List.nil_append, List.replicate, List.getElem?_cons_zero, List.getElem?_cons_succ, List.set_cons_zero, List.set_cons_succ, List.length_cons, List.length_nil, if_true, if_false, Option.bind_some, Bool.false_eq_true, decide_true, decide_false, Bool.not_true, Bool.not_false, ad])
  rw [List.length_map, n2, List.take_length] at k2
  exact ⟨q', d8, m', e, k1, k2⟩
end NP
end

section
set_option maxHeartbeats 400000
namespace NP
open PySem L2 PD
theorem Good.rest {S R : List Cell} (g : Good S) (hs : SS R) (h : ∀ x ∈ R, x ∈ S) : Good R :=
  ⟨hs, Nat.le_trans (List.Nodup.length_le_of_subset hs.nodup h) g.len, fun c hc => g.ok c (h c hc), fun c hc => g.pos c (h c hc)⟩
theorem asked_ok {m : M} {n fa pa : Nat} {S F : List Cell} {css : List (List Cell)} (g : Good S) (h5 : S.length ≤ 5000) (b : BankAt m n S) (hF : m[fa]? = some (.lst (cellsD F))) (sF : SS F) (mF : ∀ x, x ∈ F ↔ Fast S x) (hp : LL m pa css) (pp : Parts S css) :
    ∃ m', F__law_asked [.ref n, .ref fa, .ref pa] m = .ok (.bl true) m' ∧ Kp [] m m' := by
  obtain ⟨L1, L2, L3, L4⟩ := pp.lens
  have hFS : ∀ x ∈ F, x ∈ S := fun x hx => by obtain ⟨s, _, _, q⟩ := (mF x).mp hx; exact q.right
  have gF : Good F := g.rest sF hFS
  have z0 : (0 : Nat) ≤ cap := Nat.zero_le _
  have z1 : (0 + 1 : Nat) ≤ cap := by decide
  have z2 : (0 + 1 + 1 : Nat) ≤ cap := by decide
  -- told
  obtain ⟨r1, F1, m1, e1, k1, l1, l1', b1, f1, _⟩ := landfast_ok g b
  have : F1 = F := ss_uniq b1.ss sF fun x => (f1 x).trans (mF x).symm
  subst this
  -- isles
  obtain ⟨r2, css2, m2, e2, k2, l2, l2', i2, p2, n2⟩ := islands_ok g (b.keep k1 rfl)
  have : css2 = css := parts_uniq p2 pp
  subst this
  have b2 := b1.keep k2 rfl
  have hF2 : m2[fa]? = some (.lst (cellsD F1)) := (k1.trans k2).get hF (by simp)
  have hp2 : LL m2 pa css2 := hp.keep (k1.trans k2)
  have t2 := bTuple_cells hF2
  have f2 := fld_of (fo := dVar 3) (δ := [some (.ref n), some (.ref fa), some (.ref pa), some (.ref r1), some (.ref r2), none, none, none, none, none]) (m := m2) rfl b2
  have s2 : F__law_same [.tup (cellsD F1), .tup (cellsD F1)] m2 = .ok (.bl true) m2 := same_tcells (z := 3) (by have := gF.len; omega)
  have s3 : F__law_same [.ref r2, .ref pa] m2 = .ok (.bl true) m2 := same_LL (z := 2) (LL.lists i2) hp2 (by omega) (fun cs h => by have := L3 cs h; omega)
  -- the isles are spoilt
  obtain ⟨d5, d6, m3, e3, k3, l3, xs, x1, x2⟩ := spoil_ok (x0 := .ref n) (x1 := .ref fa) (x2 := .ref pa) (x3 := .ref r1) i2 (by omega) (fun cs h => by have := L3 cs h; omega) (by omega) (by have := k2.len; omega)
  have kk3 : Kp [] m1 m3 := ⟨by have := k2.len; omega, fun i hi _ => (k3 i hi).trans (k2.at_ i hi (by simp))⟩
  have c3 : (m3 ++ [MO.lst [.tup [.int 9, .int 9]]])[r2]? = some (.lst xs) := get_old x1
  have kc : Kp [] m3 (m3 ++ [MO.lst [.tup [.int 9, .int 9]]]) := Kp.app
  have ec : ∃ z, z = m3 ++ [MO.lst [.tup [.int 9, .int 9]]] := ⟨_, rfl⟩
  obtain ⟨m4, ec⟩ := ec
  rw [← ec] at c3 kc
  have ap := app_ok (y := D.ref m3.length) c3 (by unfold cap; omega)
  have c4 : (m4.set r2 (.lst (xs ++ [D.ref m3.length])))[r2]? = some (.lst (xs ++ [D.ref m3.length])) := get_set c3
  have rv : revD (.ref r2) (m4.set r2 (.lst (xs ++ [D.ref m3.length]))) = .ok .non ((m4.set r2 (.lst (xs ++ [D.ref m3.length]))).set r2 (.lst (xs ++ [D.ref m3.length]).reverse)) := by
    unfold revD
    simp only [lsAt_of c4]
  have k5 : Kp [] m1 ((m4.set r2 (.lst (xs ++ [D.ref m3.length]))).set r2 (.lst (xs ++ [D.ref m3.length]).reverse)) :=
    (kk3.trans kc).trans_new (T := [r2]) ((Kp.set (by simp)).trans (Kp.set (by simp))) (fun x hx => by rw [List.mem_singleton] at hx; omega)
  have lc4 := lsAt_of c4
  generalize (m4.set r2 (.lst (xs ++ [D.ref m3.length]))).set r2 (.lst (xs ++ [D.ref m3.length]).reverse) = m5 at rv k5
  -- asked again
  obtain ⟨r6, css6, m6, e6, k6, l6, l6', i6, p6, n6⟩ := islands_ok g (b.keep (k1.trans k5) rfl)
  have : css6 = css2 := parts_uniq p6 pp
  subst this
  have hp6 : LL m6 pa css6 := hp.keep (k1.trans (k5.trans k6))
  have s6 : F__law_same [.ref r6, .ref pa] m6 = .ok (.bl true) m6 := same_LL (z := 2) (LL.lists i6) hp6 (by omega) (fun cs h => by have := L3 cs h; omega)
  -- islands(told)
  have b6 := b1.keep (k5.trans k6) rfl
  obtain ⟨r7, css7, m7, e7, k7, l7, l7', i7, p7, n7⟩ := islands_ok gF b6
  have hfF : ∀ x ∈ F1, Fast F1 x := fun x hx => (fast_fast mF x).mpr ((mF x).mp hx)
  have : css7 = [] := parts_nil p7 hfF
  subst this
  have k8 : Kp [] m7 (m7 ++ [MO.lst []]) := Kp.app
  have c8 : LL (m7 ++ [MO.lst []]) m7.length [] := ⟨[], get_new, rfl, by simp⟩
  have i8 : LL (m7 ++ [MO.lst []]) r7 [] := (LL.lists i7).keep k8
  have ec : ∃ z, z = m7 ++ [MO.lst []] := ⟨_, rfl⟩
  obtain ⟨m8, ec8⟩ := ec
  rw [← ec8] at k8 c8 i8
  have s8 : F__law_same [.ref r7, .ref m7.length] m8 = .ok (.bl true) m8 := same_LL (z := 2) i8 c8 (by simp) (by simp)
  -- landfast(told) == told
  have b8 := b6.keep (k7.trans k8) rfl
  obtain ⟨r9, F9, m9, e9, k9, l9, l9', b9, f9, _⟩ := landfast_ok gF b8
  have : F9 = F1 := ss_uniq b9.ss sF fun x => (f9 x).trans ((fast_fast mF x).trans (mF x).symm)
  subst this
  have q9 := eq_ok b9 (b8.keep k9 rfl)
  rw [decide_eq_true (rfl : F9 = F9)] at q9
  have s9 : F__law_same [.bl true, .bl true] m9 = .ok (.bl true) m9 := same_true (z := 5)
  -- rest
  have c10 : (m9 ++ [MO.lst []])[m9.length]? = some (.lst (cellsD [])) := get_new
  have k10 : Kp [] m9 (m9 ++ [MO.lst []]) := Kp.app
  have ec : ∃ z, z = m9 ++ [MO.lst []] := ⟨_, rfl⟩
  obtain ⟨m10, ec10⟩ := ec
  rw [← ec10] at c10 k10
  have ka : Kp [] m m10 := k1.trans (k5.trans (k6.trans (k7.trans (k8.trans (k9.trans k10)))))
  obtain ⟨q, d8, m11, e11, k11, c11⟩ := rest_ok (x0 := some (.ref n)) (x1 := some (.ref fa)) (x3 := some (.ref r1)) (x4 := some (.ref r2)) (d5 := d5) (d6 := d6) (hp.keep ka) c10 (by omega)
  have hRS : ∀ c ∈ css6.flatten, c ∈ S := fun c hc => ((L4 c).mp hc).1
  obtain ⟨R, m12, e12, k12, b12, w12, _, g12⟩ := make_ok (Walks.lst c11) (by omega) (fun c hc => g.ok c (hRS c hc)) (fun c hc => g.pos c (hRS c hc))
  have hR : ∀ x, x ∈ R ↔ x ∈ S ∧ ¬ Fast S x := fun x => (w12 x).trans (L4 x)
  have gR : Good R := g.rest b12.ss fun x hx => ((hR x).mp hx).1
  have mk12 := dMake_ok (F := F_Bank___init__) (fs := aCons (dVar 7) aNil) (δ := [some (.ref n), some (.ref fa), some (.ref pa), some (.ref r1), some (.ref r2), d5, d6, some (.ref q), d8, none]) (m := m11) (args1 rfl) e12
  have b12' := b8.keep (k9.trans (k10.trans (k11.trans k12))) rfl
  have h5R := List.Nodup.length_le_of_subset b12.ss.nodup (fun x hx => ((hR x).mp hx).1 : R ⊆ S)
  have h5F := List.Nodup.length_le_of_subset sF.nodup (fun x hx => hFS x hx : F9 ⊆ S)
  obtain ⟨r13, W, m13, e13, k13, b13, w13⟩ := or_ok b12' b12 gF gR (by omega)
  have hW : W = S := ss_uniq b13.ss g.ss fun x => by
    rw [w13, hR, mF]
    constructor
    · rintro (h | h)
      · exact hFS x ((mF x).mpr h)
      · exact h.1
    · intro h
      exact (Classical.em (Fast S x)).imp id fun z => ⟨h, z⟩
  subst hW
  have bW := b.keep (ka.trans (k11.trans (k12.trans k13))) rfl
  have q13 := eq_ok b13 bW
  rw [decide_eq_true (rfl : W = W)] at q13
  have s13 : F__law_same [.bl true, .bl true] m13 = .ok (.bl true) m13 := same_true (z := 5)
  -- landfast(Bank(rest))
  have c13 : m13[q]? = some (.lst (cellsD css6.flatten)) := (k12.trans k13).get c11 (by simp)
  obtain ⟨R2, m14, e14, k14, b14, w14, _, g14⟩ := make_ok (Walks.lst c13) (by omega) (fun c hc => g.ok c (hRS c hc)) (fun c hc => g.pos c (hRS c hc))
  have : R2 = R := ss_uniq b14.ss b12.ss fun x => (w14 x).trans (w12 x).symm
  subst this
  have mk14 := dMake_ok (F := F_Bank___init__) (fs := aCons (dVar 7) aNil) (δ := [some (.ref n), some (.ref fa), some (.ref pa), some (.ref r1), some (.ref r2), d5, d6, some (.ref q), d8, some (.ref r13)]) (m := m13) (args1 rfl) e14
  obtain ⟨r15, F15, m15, e15, k15, l15, l15', b15, f15, _⟩ := landfast_ok gR b14
  have : F15 = [] := List.eq_nil_iff_forall_not_mem.mpr fun x hx => rest_fast hR x ((f15 x).mp hx)
  subst this
  have f15' := fld_of (fo := dCall F_landfast (aCons (dMake "Bank" F_Bank___init__ (aCons (dVar 7) aNil)) aNil)) (δ := [some (.ref n), some (.ref fa), some (.ref pa), some (.ref r1), some (.ref r2), d5, d6, some (.ref q), d8, some (.ref r13)]) (m := m13) (by rw [call_of (args1 mk14), e15]) b15
  have s15 : F__law_same [.tup (cellsD []), .tup []] m15 = .ok (.bl true) m15 := same_tcells (z := 3) (cs := []) (by simp)
  -- islands(Bank(rest))
  have c15 : m15[q]? = some (.lst (cellsD css6.flatten)) := (k14.trans k15).get c13 (by simp)
  obtain ⟨R3, m16, e16, k16, b16, w16, _, g16⟩ := make_ok (Walks.lst c15) (by omega) (fun c hc => g.ok c (hRS c hc)) (fun c hc => g.pos c (hRS c hc))
  have : R3 = R2 := ss_uniq b16.ss b12.ss fun x => (w16 x).trans (w12 x).symm
  subst this
  have mk16 := dMake_ok (F := F_Bank___init__) (fs := aCons (dVar 7) aNil) (δ := [some (.ref n), some (.ref fa), some (.ref pa), some (.ref r1), some (.ref r2), d5, d6, some (.ref q), d8, some (.ref r13)]) (m := m15) (args1 rfl) e16
  obtain ⟨r17, css17, m17, e17, k17, l17, l17', i17, p17, n17⟩ := islands_ok gR b16
  have : css17 = css6 := parts_uniq p17 (rest_parts pp hR)
  subst this
  have kz : Kp [] m m17 := ka.trans (k11.trans (k12.trans (k13.trans (k14.trans (k15.trans (k16.trans k17))))))
  have s17 : F__law_same [.ref r17, .ref pa] m17 = .ok (.bl true) m17 := same_LL (z := 2) (LL.lists i17) (hp.keep kz) (by omega) (fun cs h => by have := L3 cs h; omega)
  refine ⟨m17, ?_, kz⟩
  simp only [F__law_asked, den__law_asked, bodyF, SO.out, dVar, dC, PD.d2, PD.d1, aNil_ap, aCons_ap, dTup, dLst, dCall, dAndV, dOrV, dNotV, dIf, dChain, dB, bNot, bAnd, bOr, sSkip, sSeq, sAsg, sExpr, sRet, sRetN, sIf, sBrk, sCont, sTgt, gN, gT, gsCons, gsNil, tupItems, sStore, sDel, dLm, dLm0, on1, on2, dInt2, dInt2c, dNeg, boolD, iSeq, PD.iRng1, iRange1, bInt, intD, bAbs, absD, bind_ok, toS_ok, List.map_cons, List.map_nil, List.cons_append, List.nil_append, List.replicate, List.getElem?_cons_zero, List.getElem?_cons_succ, List.set_cons_zero, List.set_cons_succ, List.length_cons, List.length_nil, if_true, if_false, Option.bind_some, Bool.false_eq_true, decide_true, decide_false, Bool.not_true, Bool.not_false, e1, e2, isC_ok b2, f2, t2, s2, s3, e3, if_pos z0, if_pos z1, if_pos z2, ← ec, lsAt_of x1, lsAt_of c3, ap, lc4, rv, e6, s6, e7, ← ec8, s8, e9, q9, s9, ← ec10, e11, mk12, e13, q13, s13, f15', s15, mk16, e17, s17]
end NP
end

section
set_option maxHeartbeats 400000
namespace NP
open PySem L2 PD
/-! ### blocks -/
def blk (x y : Int) (N : Nat) : List Cell := (List.range N).map fun (k : Nat) => (x + (k : Int) / 50, y + (k : Int) % 50)
def In (x y : Int) (c : Cell) : Prop := x ≤ c.1 ∧ c.1 < x + 24 ∧ y ≤ c.2 ∧ c.2 < y + 50
theorem blk_ss (x y : Int) (N : Nat) : SS (blk x y N) := by
  unfold SS blk
  rw [List.pairwise_map]
  refine List.pairwise_lt_range.imp fun {i j} h => ?_
  rw [lexB_true]
  simp only []
  omega
theorem blk_mem {x y : Int} {N : Nat} (hN : N = 1200) (c : Cell) : c ∈ blk x y N ↔ In x y c := by
  unfold blk In
  rw [List.mem_map]
  constructor
  · rintro ⟨k, hk, rfl⟩
    rw [List.mem_range] at hk
    simp only []
    omega
  · rintro ⟨h1, h2, h3, h4⟩
    refine ⟨((c.1 - x) * 50 + (c.2 - y)).toNat, ?_, ?_⟩
    · rw [List.mem_range]
      omega
    · have e : ((((c.1 - x) * 50 + (c.2 - y)).toNat : Nat) : Int) = (c.1 - x) * 50 + (c.2 - y) := Int.toNat_of_nonneg (by omega)
      rw [e]
      refine Prod.ext ?_ ?_
      · simp only []
        omega
      · simp only []
        omega
theorem blk_hd {x y : Int} {N : Nat} (hN : 0 < N) : hd (blk x y N) = (x, y) := by
  cases N with
  | zero => omega
  | succ N =>
    unfold hd blk
    rw [List.range_succ_eq_map]
    simp
theorem conn_up {L : Cell → Prop} {x y : Int} (h : ∀ c, In x y c → L c) : ∀ n : Nat, n < 50 → Conn L (x, y) (x, y + n)
  | 0, _ => by
    have : (x, y + ((0 : Nat) : Int)) = (x, y) := by simp
    rw [this]
    exact .refl (h _ (by unfold In; simp only []; omega))
  | n + 1, hn => by
    refine .step (conn_up h n (by omega)) ?_ (h _ (by unfold In; simp only []; omega))
    unfold nearC
    have : (x, y + ((n + 1 : Nat) : Int)) = (x, y + (n : Int) + 1) := by
      rw [Prod.mk.injEq]
      omega
    rw [this]
    simp
theorem conn_right {L : Cell → Prop} {x y : Int} (h : ∀ c, In x y c → L c) {n : Nat} (hn : n < 50) : ∀ k : Nat, k < 24 → Conn L (x, y) (x + k, y + n)
  | 0, _ => by
    have : (x + ((0 : Nat) : Int), y + (n : Int)) = (x, y + (n : Int)) := by simp
    rw [this]
    exact conn_up h n hn
  | k + 1, hk => by
    refine .step (conn_right h hn k (by omega)) ?_ (h _ (by unfold In; simp only []; omega))
    unfold nearC
    have : (x + ((k + 1 : Nat) : Int), y + (n : Int)) = (x + (k : Int) + 1, y + (n : Int)) := by
      rw [Prod.mk.injEq]
      omega
    rw [this]
    simp
theorem conn_blk {L : Cell → Prop} {x y : Int} (h : ∀ c, In x y c → L c) {a b : Cell} (ha : In x y a) (hb : In x y b) : Conn L a b := by
  have one : ∀ c, In x y c → Conn L (x, y) c := fun c hc => by
    obtain ⟨h1, h2, h3, h4⟩ := hc
    have := conn_right h (n := (c.2 - y).toNat) (by omega) (c.1 - x).toNat (by omega)
    rw [Int.toNat_of_nonneg (by omega), Int.toNat_of_nonneg (by omega)] at this
    have e : (x + (c.1 - x), y + (c.2 - y)) = c := Prod.ext (by simp only []; omega) (by simp only []; omega)
    rw [e] at this
    exact this
  exact (one a ha).symm.trans (one b hb)
section
variable {S : List Cell} {x y : Int} (hS : ∀ c, c ∈ S ↔ In x y c ∨ In (x + 25) y c)
include hS
theorem blk_conn {a : Cell} {z : Int} (hz : z = x ∨ z = x + 25) (ha : In z y a) (b : Cell) : Conn (· ∈ S) a b ↔ In z y b := by
  have hsub : ∀ c, In z y c → c ∈ S := fun c hc => (hS c).mpr (by rcases hz with rfl | rfl; exact .inl hc; exact .inr hc)
  constructor
  · intro h
    refine h.closed (P := In z y) ha fun u v hu hv hL => ?_
    have h2 := (hS v).mp hL
    unfold nearC at hv
    simp only [List.mem_cons, List.not_mem_nil, or_false, Prod.ext_iff] at hv
    unfold In at *
    omega
  · intro h
    exact conn_blk hsub ha h
theorem blk_part (hx : 0 ≤ x) {z : Int} (hz : z = x ∨ z = x + 25) (h0 : 0 < z) {N : Nat} (hN : N = 1200) : Part S (blk z y N) := by
  have hm := fun c => blk_mem (x := z) (y := y) hN c
  refine ⟨fun e => ?_, blk_ss z y N, fun a ha => ?_⟩
  · have : (z, y) ∈ blk z y N := (hm _).mpr (by unfold In; simp only []; omega)
    rw [e] at this
    cases this
  · have ha' := (hm a).mp ha
    refine ⟨(hS a).mpr (by rcases hz with rfl | rfl; exact .inl ha'; exact .inr ha'), ?_, fun b => by rw [hm, blk_conn hS hz ha']⟩
    rintro ⟨s, _, s0, hc⟩
    have := (blk_conn hS hz ha' s).mp hc.symm
    unfold In at this
    omega
theorem blk_fast0 (hx : x = 0) (c : Cell) : Fast S c ↔ In x y c := by
  constructor
  · rintro ⟨s, h1, h2, h3⟩
    have h4 : In x y s := by
      rcases (hS s).mp h1 with h | h
      · exact h
      · unfold In at h
        omega
    exact (blk_conn hS (.inl rfl) h4 c).mp h3
  · intro h
    have h4 : In x y (x, y) := by unfold In; simp only []; omega
    exact ⟨(x, y), (hS _).mpr (.inl h4), hx, (blk_conn hS (.inl rfl) h4 c).mpr h⟩
theorem blk_fast1 (hx : 0 < x) (c : Cell) : ¬ Fast S c := by
  rintro ⟨s, h1, h2, h3⟩
  rcases (hS s).mp h1 with h | h <;> (unfold In at h; omega)
theorem blk_parts0 (hx : x = 0) {N : Nat} (hN : N = 1200) : Parts S [blk (x + 25) y N] := by
  refine ⟨fun cs hcs => ?_, fun a ha hn => ?_, List.pairwise_singleton _ _⟩
  · rw [List.mem_singleton.mp hcs]
    exact blk_part hS (by omega) (.inr rfl) (by omega) hN
  · refine ⟨_, List.mem_singleton.mpr rfl, (blk_mem hN a).mpr ?_⟩
    rcases (hS a).mp ha with h | h
    · exact absurd ((blk_fast0 hS hx a).mpr h) hn
    · exact h
theorem blk_parts1 (hx : 0 < x) {N : Nat} (hN : N = 1200) : Parts S [blk x y N, blk (x + 25) y N] := by
  refine ⟨fun cs hcs => ?_, fun a ha hn => ?_, ?_⟩
  · rcases List.mem_cons.mp hcs with rfl | hcs
    · exact blk_part hS (by omega) (.inl rfl) hx hN
    · rw [List.mem_singleton.mp hcs]
      exact blk_part hS (by omega) (.inr rfl) (by omega) hN
  · rcases (hS a).mp ha with h | h
    · exact ⟨_, List.mem_cons_self, (blk_mem hN a).mpr h⟩
    · exact ⟨_, List.mem_cons_of_mem _ (List.mem_singleton.mpr rfl), (blk_mem hN a).mpr h⟩
  · refine List.pairwise_cons.mpr ⟨fun d hd' => ?_, List.pairwise_singleton _ _⟩
    rw [List.mem_singleton.mp hd', blk_hd (by omega), blk_hd (by omega), ltC_iff]
    simp only []
    omega
end
/-! ### == of lists of lists -/
theorem py_LL {m : M} {q : Nat} {css : List (List Cell)} (h : LL m q css) : py 8 (.ref q) m = some (.list (css.map encL)) := by
  obtain ⟨ns, n1, n2, n3⟩ := h
  have pL : ∀ z ∈ ns.zip css, m[z.1]? = some (MO.lst (cellsD z.2)) := fun z hz => by
    obtain ⟨i, hi⟩ := List.mem_iff_getElem?.mp hz
    rw [List.getElem?_zip_eq_some] at hi
    exact n3 i z.1 z.2 hi.1 hi.2
  have go : ∀ (as : List Nat) (bs : List (List Cell)), as.length = bs.length → (∀ z ∈ as.zip bs, m[z.1]? = some (MO.lst (cellsD z.2))) → pyAll (fun d => py 7 d m) (as.map D.ref) = some (bs.map encL) := by
    intro as
    induction as with
    | nil => intro bs hb _; cases bs with
      | nil => rfl
      | cons _ _ => simp at hb
    | cons a as ih => intro bs hb hz; cases bs with
      | nil => simp at hb
      | cons b bs =>
        have h1 := ih bs (by simpa using hb) fun z hz' => hz z (by simp only [List.zip_cons_cons]; exact List.mem_cons_of_mem _ hz')
        have h2 := hz (a, b) (by simp)
        simp only [List.map_cons, pyAll, h1]
        rw [py_cells h2]
        rfl
  show (match lsAt m q with
    | some xs => (pyAll (fun d => py 7 d m) xs).map PyData.list
    | none => none) = _
  rw [lsAt_of n1]
  show (pyAll (fun d => py 7 d m) (ns.map D.ref)).map PyData.list = _
  rw [go ns css n2 pL]
  rfl
theorem dEq_LL {m : M} {a b : Nat} {c : List (List Cell)} (h : LL m a c) (k : LL m b c) : dEq (.ref a) (.ref b) m = .ok (.bl true) m := by
  unfold dEq eqD pyN
  have e : PyData.eqv (.list (c.map encL)) (.list (c.map encL)) = true := by
    have h1 := eqvAll_map (p := encL) (fun a b => by unfold encL; exact eqv_cells a b) c c
    simp only [PyData.eqv, h1, decide_true]
  simp only [py_LL h, py_LL k, e]
/-! ### _law_blocks -/
theorem rng_blk (x y : Int) : ((rngD 0 1200).filter fun _ => true).map (fun d => match d with | .int k => D.tup [.int (x + k / 50), .int (y + k % 50)] | _ => .non) = cellsD (blk x y 1200) := by
  have e : ((1200 : Int) - 0).toNat = 1200 := rfl
  unfold rngD cellsD blk
  rw [e]
  generalize (1200 : Nat) = N
  rw [List.filter_eq_self.mpr (fun _ _ => rfl), List.map_map, List.map_map]
  apply List.map_congr_left
  intro k _
  simp [cellD]
theorem rng_mem {d : D} (h : d ∈ rngD 0 1200) : ∃ k : Int, d = .int k := by
  unfold rngD at h
  obtain ⟨i, _, rfl⟩ := List.mem_map.mp h
  exact ⟨_, rfl⟩
theorem rng_len : (rngD 0 1200).length ≤ cap := by
  unfold rngD
  rw [List.length_map, List.length_range]
  decide
theorem f50 : decide ((0 : Int) < 50 ∧ (50 : Int) < 1073741824) = true := by decide +kernel
theorem m50 : decide ((0 : Int) < 50) = true := by decide +kernel
theorem first_ok {x y : Int} {d0 d3 d4 d5 d6 : Option D} {m : M} :
    dLc (PD.iRng1 (aCons (dC (.int 1200)) aNil)) (gN 6) [6] bYes (dTup (aCons (PD.d2 dAdd (dVar 1) (PD.d2 dFdiv (dVar 6) (dC (.int 50)))) (aCons (PD.d2 dAdd (dVar 2) (PD.d2 dMod (dVar 6) (dC (.int 50)))) aNil))) [d0, some (.int x), some (.int y), d3, d4, d5, d6] m = .ok (.ref m.length) (m ++ [.lst (cellsD (blk x y 1200))]) := by
  have hr : rngOk 1200 = true := by decide +kernel
  have c2 : (0 + 1 + 1 : Nat) ≤ cap := by decide
  have it : PD.iRng1 (aCons (dC (.int 1200)) aNil) [d0, some (.int x), some (.int y), d3, d4, d5, d6] m = .ok (.items (rngD 0 1200)) m := by
    simp only [bodyF, PD.sFld, PD.sAug, dFld, SO.out, dVar, dC, PD.d2, PD.d1, aNil_ap, aCons_ap, dTup, dLst, dCall, dAndV, dOrV, dNotV, dIf, dChain, dB, bNot, bAnd, bOr, sSkip, sSeq, sAsg, sExpr, sRet, sRetN, sIf, sBrk, sCont, sTgt, gN, gT, gsCons, gsNil, tupItems, sStore, sDel, dLm, dLm0, on1, on2, dInt2, dInt2c, dNeg, boolD, iSeq, PD.iRng1, iRange1, bInt, intD, bAbs, absD, bind_ok, toS_ok, List.map_cons, List.map_nil, List.cons_append, List.nil_append, List.replicate, List.getElem?_cons_zero, List.getElem?_cons_succ, List.set_cons_zero, List.set_cons_succ, List.length_cons, List.length_nil, if_true, if_false, Option.bind_some, Bool.false_eq_true, decide_true, decide_false, Bool.not_true, Bool.not_false, hr]
  have e := dLc_pure (t := gN 6) (vs := [6]) (test := bYes) (elt := dTup (aCons (PD.d2 dAdd (dVar 1) (PD.d2 dFdiv (dVar 6) (dC (.int 50)))) (aCons (PD.d2 dAdd (dVar 2) (PD.d2 dMod (dVar 6) (dC (.int 50)))) aNil))) (fun _ => true) (fun d => match d with | .int k => D.tup [.int (x + k / 50), .int (y + k % 50)] | _ => .non) it rfl rng_len (fun d hd' => by
    obtain ⟨k, rfl⟩ := rng_mem hd'
    refine ⟨[d0, some (.int x), some (.int y), d3, d4, d5, some (.int k)], rfl, fun acc => ⟨rfl, fun _ => ?_⟩⟩
    simp only [bodyF, PD.sFld, PD.sAug, dFld, SO.out, dVar, dC, PD.d2, PD.d1, aNil_ap, aCons_ap, dTup, dLst, dCall, dAndV, dOrV, dNotV, dIf, dChain, dB, bNot, bAnd, bOr, sSkip, sSeq, sAsg, sExpr, sRet, sRetN, sIf, sBrk, sCont, sTgt, gN, gT, gsCons, gsNil, tupItems, sStore, sDel, dLm, dLm0, on1, on2, dInt2, dInt2c, dNeg, boolD, iSeq, PD.iRng1, iRange1, bInt, intD, bAbs, absD, bind_ok, toS_ok, List.map_cons, List.map_nil, List.cons_append, List.nil_append, List.replicate, List.getElem?_cons_zero, List.getElem?_cons_succ, List.set_cons_zero, List.set_cons_succ, List.length_cons, List.length_nil, if_true, if_false, Option.bind_some, Bool.false_eq_true, decide_true, decide_false, Bool.not_true, Bool.not_false, dAdd, dFdiv, dMod, f50, m50, if_pos c2])
  rw [rng_blk] at e
  exact e
theorem second_ok {x y : Int} {d0 d3 d4 d5 d6 : Option D} {m : M} :
    dLc (PD.iRng1 (aCons (dC (.int 1200)) aNil)) (gN 6) [6] bYes (dTup (aCons (PD.d2 dAdd (PD.d2 dAdd (dVar 1) (dC (.int 25))) (PD.d2 dFdiv (dVar 6) (dC (.int 50)))) (aCons (PD.d2 dAdd (dVar 2) (PD.d2 dMod (dVar 6) (dC (.int 50)))) aNil))) [d0, some (.int x), some (.int y), d3, d4, d5, d6] m = .ok (.ref m.length) (m ++ [.lst (cellsD (blk (x + 25) y 1200))]) := by
  have hr : rngOk 1200 = true := by decide +kernel
  have c2 : (0 + 1 + 1 : Nat) ≤ cap := by decide
  have it : PD.iRng1 (aCons (dC (.int 1200)) aNil) [d0, some (.int x), some (.int y), d3, d4, d5, d6] m = .ok (.items (rngD 0 1200)) m := by
    simp only [bodyF, PD.sFld, PD.sAug, dFld, SO.out, dVar, dC, PD.d2, PD.d1, aNil_ap, aCons_ap, dTup, dLst, dCall, dAndV, dOrV, dNotV, dIf, dChain, dB, bNot, bAnd, bOr, sSkip, sSeq, sAsg, sExpr, sRet, sRetN, sIf, sBrk, sCont, sTgt, gN, gT, gsCons, gsNil, tupItems, sStore, sDel, dLm, dLm0, on1, on2, dInt2, dInt2c, dNeg, boolD, iSeq, PD.iRng1, iRange1, bInt, intD, bAbs, absD, bind_ok, toS_ok, List.map_cons, List.map_nil, List.cons_append, List.nil_append, List.replicate, List.getElem?_cons_zero, List.getElem?_cons_succ, List.set_cons_zero, List.set_cons_succ, List.length_cons, List.length_nil, if_true, if_false, Option.bind_some, Bool.false_eq_true, decide_true, decide_false, Bool.not_true, Bool.not_false, hr]
  have e := dLc_pure (t := gN 6) (vs := [6]) (test := bYes) (elt := dTup (aCons (PD.d2 dAdd (PD.d2 dAdd (dVar 1) (dC (.int 25))) (PD.d2 dFdiv (dVar 6) (dC (.int 50)))) (aCons (PD.d2 dAdd (dVar 2) (PD.d2 dMod (dVar 6) (dC (.int 50)))) aNil))) (fun _ => true) (fun d => match d with | .int k => D.tup [.int (x + 25 + k / 50), .int (y + k % 50)] | _ => .non) it rfl rng_len (fun d hd' => by
    obtain ⟨k, rfl⟩ := rng_mem hd'
    refine ⟨[d0, some (.int x), some (.int y), d3, d4, d5, some (.int k)], rfl, fun acc => ⟨rfl, fun _ => ?_⟩⟩
    simp only [bodyF, PD.sFld, PD.sAug, dFld, SO.out, dVar, dC, PD.d2, PD.d1, aNil_ap, aCons_ap, dTup, dLst, dCall, dAndV, dOrV, dNotV, dIf, dChain, dB, bNot, bAnd, bOr, sSkip, sSeq, sAsg, sExpr, sRet, sRetN, sIf, sBrk, sCont, sTgt, gN, gT, gsCons, gsNil, tupItems, sStore, sDel, dLm, dLm0, on1, on2, dInt2, dInt2c, dNeg, boolD, iSeq, PD.iRng1, iRange1, bInt, intD, bAbs, absD, bind_ok, toS_ok, List.map_cons, List.map_nil, List.cons_append, List.nil_append, List.replicate, List.getElem?_cons_zero, List.getElem?_cons_succ, List.set_cons_zero, List.set_cons_succ, List.length_cons, List.length_nil, if_true, if_false, Option.bind_some, Bool.false_eq_true, decide_true, decide_false, Bool.not_true, Bool.not_false, dAdd, dFdiv, dMod, f50, m50, if_pos c2])
  rw [rng_blk] at e
  exact e
end NP
end

section
set_option maxHeartbeats 400000
namespace NP
open PySem L2 PD
theorem PoolAt.keep {m m' : M} {p : Nat} (h : PoolAt m p) (k : Kp [] m m') : PoolAt m' p := by
  obtain ⟨ns, h1, h2⟩ := h
  exact ⟨ns, k.get h1 (by simp), h2⟩
theorem pick_ok {m : M} {l : Nat} {d : Int} (e : m[l]? = some (.lst [.int 0, .int 1, .int 70])) (h0 : 0 ≤ d) (h1 : d < 3) : ∃ x : Int, ixD (.ref l) (.int d) m = .ok (.int x) m ∧ (x = 0 ∨ x = 1 ∨ x = 70) := by
  have h : d = ((0 : Nat) : Int) ∨ d = ((1 : Nat) : Int) ∨ d = ((2 : Nat) : Int) := by omega
  rcases h with rfl | rfl | rfl
  · exact ⟨0, ixD_nat (items_ref e) rfl, .inl rfl⟩
  · exact ⟨1, ixD_nat (items_ref e) rfl, .inr (.inl rfl)⟩
  · exact ⟨70, ixD_nat (items_ref e) rfl, .inr (.inr rfl)⟩
theorem blocks_ok {m : M} {p : Nat} (hp : PoolAt m p) : ∃ m', F__law_blocks [.ref p] m = .ok (.bl true) m' ∧ Kp [p] m m' ∧ PoolAt m' p := by
  have c0 : (0 : Nat) ≤ cap := Nat.zero_le _
  have c1 : (0 + 1 : Nat) ≤ cap := by decide
  have c2 : (0 + 1 + 1 : Nat) ≤ cap := by decide
  have c3 : (0 + 1 + 1 + 1 : Nat) ≤ cap := by decide
  have hpm : p < m.length := by obtain ⟨_, h, _⟩ := hp; exact lt_of_get h
  have a1 : (m ++ [MO.lst [.int 0, .int 1, .int 70]])[m.length]? = some (.lst [.int 0, .int 1, .int 70]) := get_new
  have k1 : Kp [] m (m ++ [MO.lst [.int 0, .int 1, .int 70]]) := Kp.app
  have p1 := hp.keep k1
  have em1 : ∃ z, z = m ++ [MO.lst [.int 0, .int 1, .int 70]] := ⟨_, rfl⟩
  obtain ⟨m1, em1⟩ := em1
  rw [← em1] at a1 k1 p1
  obtain ⟨d, m2, e2, d0, d1, p2, k2⟩ := draw_ok p1 (k := 3) (by decide) (by decide)
  have a2 : m2[m.length]? = some (.lst [.int 0, .int 1, .int 70]) := k2.get a1 (by simp; omega)
  obtain ⟨x, ix, hx⟩ := pick_ok a2 d0 d1
  obtain ⟨e, m3, e3, e0, e1, p3, k3⟩ := draw_ok p2 (k := 190) (by decide) (by decide)
  have ky : Kp [p] m m3 := (k1.mono (by simp)).trans (k2.trans k3)
  have hy0 : -119 ≤ 70 - e := by omega
  have hy1 : 70 - e ≤ 70 := by omega
  -- first, second
  have f1 := first_ok (x := x) (y := 70 - e) (d0 := some (.ref p)) (d3 := none) (d4 := none) (d5 := none) (d6 := none) (m := m3)
  have b1 : (m3 ++ [MO.lst (cellsD (blk x (70 - e) 1200))])[m3.length]? = some (.lst (cellsD (blk x (70 - e) 1200))) := get_new
  have k4 : Kp [] m3 (m3 ++ [MO.lst (cellsD (blk x (70 - e) 1200))]) := Kp.app
  have em4 : ∃ z, z = m3 ++ [MO.lst (cellsD (blk x (70 - e) 1200))] := ⟨_, rfl⟩
  obtain ⟨m4, em4⟩ := em4
  rw [← em4] at f1 b1 k4
  have f2 := second_ok (x := x) (y := 70 - e) (d0 := some (.ref p)) (d3 := some (.ref m3.length)) (d4 := none) (d5 := none) (d6 := none) (m := m4)
  have b2 : (m4 ++ [MO.lst (cellsD (blk (x + 25) (70 - e) 1200))])[m4.length]? = some (.lst (cellsD (blk (x + 25) (70 - e) 1200))) := get_new
  have k5 : Kp [] m4 (m4 ++ [MO.lst (cellsD (blk (x + 25) (70 - e) 1200))]) := Kp.app
  have em5 : ∃ z, z = m4 ++ [MO.lst (cellsD (blk (x + 25) (70 - e) 1200))] := ⟨_, rfl⟩
  obtain ⟨m5, em5⟩ := em5
  rw [← em5] at f2 b2 k5
  have b3 : m5[m3.length]? = some (.lst (cellsD (blk x (70 - e) 1200))) := k5.get b1 (by simp)
  have blen : ∀ u v : Int, (blk u v 1200).length = 1200 := fun u v => by unfold blk; rw [List.length_map, List.length_range]
  have ad := add_lst b2 b3 (by rw [len_cellsD, len_cellsD, blen, blen]; unfold cap; omega)
  have ec : cellsD (blk (x + 25) (70 - e) 1200) ++ cellsD (blk x (70 - e) 1200) = cellsD (blk (x + 25) (70 - e) 1200 ++ blk x (70 - e) 1200) := by simp [cellsD]
  rw [ec] at ad
  have b4 : (m5 ++ [MO.lst (cellsD (blk (x + 25) (70 - e) 1200 ++ blk x (70 - e) 1200))])[m5.length]? = some (.lst (cellsD (blk (x + 25) (70 - e) 1200 ++ blk x (70 - e) 1200))) := get_new
  have k6 : Kp [] m5 (m5 ++ [MO.lst (cellsD (blk (x + 25) (70 - e) 1200 ++ blk x (70 - e) 1200))]) := Kp.app
  have em6 : ∃ z, z = m5 ++ [MO.lst (cellsD (blk (x + 25) (70 - e) 1200 ++ blk x (70 - e) 1200))] := ⟨_, rfl⟩
  obtain ⟨m6, em6⟩ := em6
  rw [← em6] at ad b4 k6
  have hmem : ∀ c, c ∈ blk (x + 25) (70 - e) 1200 ++ blk x (70 - e) 1200 ↔ In x (70 - e) c ∨ In (x + 25) (70 - e) c := fun c => by
    rw [List.mem_append, blk_mem rfl, blk_mem rfl, Or.comm]
  have hok : ∀ c, In x (70 - e) c ∨ In (x + 25) (70 - e) c → okC c ∧ 0 ≤ c.1 := fun c h => by
    unfold In at h
    unfold okC
    omega
  obtain ⟨S, m7, e7, k7, b7, w7, n7, g7⟩ := make_ok (Walks.lst b4) (by rw [List.length_append, blen, blen]; omega) (fun c hc => (hok c ((hmem c).mp hc)).1) (fun c hc => (hok c ((hmem c).mp hc)).2)
  have hS : ∀ c, c ∈ S ↔ In x (70 - e) c ∨ In (x + 25) (70 - e) c := fun c => (w7 c).trans (hmem c)
  have gS : Good S := ⟨b7.ss, by rw [List.length_append, blen, blen] at n7; omega, fun c hc => (hok c ((hS c).mp hc)).1, fun c hc => (hok c ((hS c).mp hc)).2⟩
  have mk := dMake_ok (F := F_Bank___init__) (fs := aCons (PD.d2 dAdd (dVar 4) (dVar 3)) aNil) (δ := [some (.ref p), some (.int x), some (.int (70 - e)), some (.ref m3.length), some (.ref m4.length), none, none]) (m := m5) (args1 (by simp only [bodyF, SO.out, dVar, dC, PD.d2, PD.d1, aNil_ap, aCons_ap, dTup, dLst, dCall, dAndV, dOrV, dNotV, dIf, dChain, dB, bNot, bAnd, bOr, sSkip, sSeq, sAsg, sExpr, sRet, sRetN, sIf, sBrk, sCont, sTgt, gN, gT, gsCons, gsNil, tupItems, sStore, sDel, dLm, dLm0, on1, on2, dInt2, dInt2c, dNeg, boolD, iSeq, PD.iRng1, iRange1, bInt, intD, bAbs, absD, bind_ok, toS_ok, List.map_cons, List.map_nil, List.cons_append, List.nil_append, List.replicate, List.getElem?_cons_zero, List.getElem?_cons_succ, List.set_cons_zero, List.set_cons_succ, List.length_cons, List.length_nil, if_true, if_false, Option.bind_some, Bool.false_eq_true, decide_true, decide_false, Bool.not_true, Bool.not_false, ad])) e7
  -- landfast, islands
  obtain ⟨r8, F, m8, e8, k8, l8, l8', b8, f8, _⟩ := landfast_ok gS b7
  have fe := fld_of (fo := dCall F_landfast (aCons (dVar 5) aNil)) (δ := [some (.ref p), some (.int x), some (.int (70 - e)), some (.ref m3.length), some (.ref m4.length), some (.ref m6.length), none]) (m := m7) (by rw [call_of (args1 (f := dVar 5) rfl), e8]) b8
  obtain ⟨r9, css, m9, e9, k9, l9, l9', i9, p9, n9⟩ := islands_ok gS (b7.keep k8 rfl)
  have kb : Kp [] m3 m9 := k4.trans (k5.trans (k6.trans (k7.trans (k8.trans k9))))
  have c39 : m9[m3.length]? = some (.lst (cellsD (blk x (70 - e) 1200))) := (k5.trans (k6.trans (k7.trans (k8.trans k9)))).get b1 (by simp)
  have c49 : m9[m4.length]? = some (.lst (cellsD (blk (x + 25) (70 - e) 1200))) := (k6.trans (k7.trans (k8.trans k9))).get b2 (by simp)
  have c38 : m8[m3.length]? = some (.lst (cellsD (blk x (70 - e) 1200))) := (k5.trans (k6.trans (k7.trans k8))).get b1 (by simp)
  have dx := dEq_int (a := x) (b := 0) (m := m7)
  by_cases h0 : x = 0
  · have g0 := decide_eq_true h0
    rw [g0] at dx
    have hF : F = blk x (70 - e) 1200 := ss_uniq b8.ss (blk_ss _ _ _) fun c => by rw [f8, blk_fast0 hS h0, blk_mem rfl]
    have hc : css = [blk (x + 25) (70 - e) 1200] := parts_uniq p9 (blk_parts0 hS h0 rfl)
    subst hF hc
    have bt := bTuple_cells c38
    have q1 := dEq_tcells (as := blk x (70 - e) 1200) (bs := blk x (70 - e) 1200) (m := m8)
    rw [decide_eq_true (rfl : blk x (70 - e) 1200 = blk x (70 - e) 1200)] at q1
    have u1 : LL (m9 ++ [MO.lst [D.ref m4.length]]) m9.length [blk (x + 25) (70 - e) 1200] := ⟨[m4.length], get_new, rfl, fun i n cs h1 h2 => by
      cases i with
      | zero => cases h1; cases h2; exact get_old c49
      | succ i => simp at h1⟩
    have u2 := (LL.lists i9).keep (Kp.app (l := [MO.lst [D.ref m4.length]]))
    have q2 := dEq_LL u2 u1
    refine ⟨m9 ++ [.lst [.ref m4.length]], ?_, ky.trans ((kb.trans Kp.app).mono (by simp)), p3.keep (kb.trans Kp.app)⟩
    simp only [F__law_blocks, den__law_blocks, bodyF, SO.out, dVar, dC, PD.d2, PD.d1, aNil_ap, aCons_ap, dTup, dLst, dCall, dAndV, dOrV, dNotV, dIf, dChain, dB, bNot, bAnd, bOr, sSkip, sSeq, sAsg, sExpr, sRet, sRetN, sIf, sBrk, sCont, sTgt, gN, gT, gsCons, gsNil, tupItems, sStore, sDel, dLm, dLm0, on1, on2, dInt2, dInt2c, dNeg, boolD, iSeq, PD.iRng1, iRange1, bInt, intD, bAbs, absD, bind_ok, toS_ok, List.map_cons, List.map_nil, List.cons_append, List.nil_append, List.replicate, List.getElem?_cons_zero, List.getElem?_cons_succ, List.set_cons_zero, List.set_cons_succ, List.length_cons, List.length_nil, if_true, if_false, Option.bind_some, Bool.false_eq_true, decide_true, decide_false, Bool.not_true, Bool.not_false, if_pos c3, ← em1, e2, ix, e3, dSub, f1, f2, mk, dx, fe, bt, q1, e9, if_pos c1, q2]
  · have g0 := decide_eq_false h0
    rw [g0] at dx
    have hx1 : 0 < x := by omega
    have hF : F = [] := List.eq_nil_iff_forall_not_mem.mpr fun c hc => blk_fast1 hS hx1 c ((f8 c).mp hc)
    have hc : css = [blk x (70 - e) 1200, blk (x + 25) (70 - e) 1200] := parts_uniq p9 (blk_parts1 hS hx1 rfl)
    subst hF hc
    have q1 : dEq (.tup (cellsD [])) (.tup []) m8 = .ok (.bl true) m8 := dEq_tcells (as := []) (bs := [])
    have u1 : LL (m9 ++ [MO.lst [D.ref m3.length, D.ref m4.length]]) m9.length [blk x (70 - e) 1200, blk (x + 25) (70 - e) 1200] := ⟨[m3.length, m4.length], get_new, rfl, fun i n cs h1 h2 => by
      cases i with
      | zero => cases h1; cases h2; exact get_old c39
      | succ i => cases i with
        | zero => cases h1; cases h2; exact get_old c49
        | succ i => simp at h1⟩
    have u2 := (LL.lists i9).keep (Kp.app (l := [MO.lst [D.ref m3.length, D.ref m4.length]]))
    have q2 := dEq_LL u2 u1
    refine ⟨m9 ++ [.lst [.ref m3.length, .ref m4.length]], ?_, ky.trans ((kb.trans Kp.app).mono (by simp)), p3.keep (kb.trans Kp.app)⟩
    simp only [F__law_blocks, den__law_blocks, bodyF, SO.out, dVar, dC, PD.d2, PD.d1, aNil_ap, aCons_ap, dTup, dLst, dCall, dAndV, dOrV, dNotV, dIf, dChain, dB, bNot, bAnd, bOr, sSkip, sSeq, sAsg, sExpr, sRet, sRetN, sIf, sBrk, sCont, sTgt, gN, gT, gsCons, gsNil, tupItems, sStore, sDel, dLm, dLm0, on1, on2, dInt2, dInt2c, dNeg, boolD, iSeq, PD.iRng1, iRange1, bInt, intD, bAbs, absD, bind_ok, toS_ok, List.map_cons, List.map_nil, List.cons_append, List.nil_append, List.replicate, List.getElem?_cons_zero, List.getElem?_cons_succ, List.set_cons_zero, List.set_cons_succ, List.length_cons, List.length_nil, if_true, if_false, Option.bind_some, Bool.false_eq_true, decide_true, decide_false, Bool.not_true, Bool.not_false, if_pos c0, if_pos c3, ← em1, e2, ix, e3, dSub, f1, f2, mk, dx, fe, q1, e9, if_pos c2, q2]
/-! ### the law -/
theorem seq_nx {a b : DS} {δ δ' : DSt} {m m' : M} (h : a δ m = .nx δ' m') : sSeq a b δ m = b δ' m' := by
  unfold sSeq
  rw [h]
def absI (i : Int) : Int := if i < 0 then -i else i
theorem pool_ok {ns : List Int} (h : ns.length ≤ 63) (δ : DSt) (hδ : δ = [some (.wl (ns.map D.int)), none, none, none, none, none, none]) : ∃ m' q, dLc (iSeq (dSl (dVar 0) oNone (oSome (dC (.int 63))))) (gN 6) [6] bYes (dCall bAbs (aCons (dCall bInt (aCons (dVar 6) aNil)) aNil)) δ [] = .ok (.ref q) m' ∧ PoolAt m' q := by
  subst hδ
  have ec : cutD (ns.map D.int) none (some 63) = ((ns.drop (HT.sIx (ns.map D.int).length 0 none)).take (HT.sIx (ns.map D.int).length (ns.map D.int).length (some 63) - HT.sIx (ns.map D.int).length 0 none)).map D.int := by
    unfold cutD
    rw [← List.map_drop, ← List.map_take]
  have hle : ((ns.drop (HT.sIx (ns.map D.int).length 0 none)).take (HT.sIx (ns.map D.int).length (ns.map D.int).length (some 63) - HT.sIx (ns.map D.int).length 0 none)).length ≤ 63 := by
    rw [List.length_take, List.length_drop]
    omega
  generalize (ns.drop (HT.sIx (ns.map D.int).length 0 none)).take (HT.sIx (ns.map D.int).length (ns.map D.int).length (some 63) - HT.sIx (ns.map D.int).length 0 none) = ks at ec hle
  have sl : sliceD (.wl (ns.map D.int)) none (some 63) [] = .ok (.ref 0) [.lst (ks.map D.int)] := by
    show Out.ok _ _ = _
    rw [ec]
    rfl
  have l0 : lsAt [MO.lst (ks.map D.int)] 0 = some (ks.map D.int) := rfl
  have it : iSeq (dSl (dVar 0) oNone (oSome (dC (.int 63)))) [some (.wl (ns.map D.int)), none, none, none, none, none, none] [] = .ok (.live 0) [.lst (ks.map D.int)] := by
    simp only [dSl, oNone, oSome, bodyF, PD.sFld, PD.sAug, dFld, SO.out, dVar, dC, PD.d2, PD.d1, aNil_ap, aCons_ap, dTup, dLst, dCall, dAndV, dOrV, dNotV, dIf, dChain, dB, bNot, bAnd, bOr, sSkip, sSeq, sAsg, sExpr, sRet, sRetN, sIf, sBrk, sCont, sTgt, gN, gT, gsCons, gsNil, tupItems, sStore, sDel, dLm, dLm0, on1, on2, dInt2, dInt2c, dNeg, boolD, iSeq, PD.iRng1, iRange1, bInt, intD, bAbs, absD, bind_ok, toS_ok, List.map_cons, List.map_nil, List.cons_append, List.nil_append, List.replicate, List.getElem?_cons_zero, List.getElem?_cons_succ, List.set_cons_zero, List.set_cons_succ, List.length_cons, List.length_nil, if_true, if_false, Option.bind_some, Bool.false_eq_true, decide_true, decide_false, Bool.not_true, Bool.not_false, sl, iterD, l0]
  have e := dLc_pure (t := gN 6) (vs := [6]) (test := bYes) (elt := dCall bAbs (aCons (dCall bInt (aCons (dVar 6) aNil)) aNil)) (fun _ => true) (fun d => match d with | .int i => .int (absI i) | _ => .non) it l0 (by rw [List.length_map]; exact cap1 (by omega)) (fun d hd' => by
    obtain ⟨i, _, rfl⟩ := List.mem_map.mp hd'
    refine ⟨[some (.wl (ns.map D.int)), none, none, none, none, none, some (.int i)], rfl, fun acc => ⟨rfl, fun _ => ?_⟩⟩
    simp only [bodyF, PD.sFld, PD.sAug, dFld, SO.out, dVar, dC, PD.d2, PD.d1, aNil_ap, aCons_ap, dTup, dLst, dCall, dAndV, dOrV, dNotV, dIf, dChain, dB, bNot, bAnd, bOr, sSkip, sSeq, sAsg, sExpr, sRet, sRetN, sIf, sBrk, sCont, sTgt, gN, gT, gsCons, gsNil, tupItems, sStore, sDel, dLm, dLm0, on1, on2, dInt2, dInt2c, dNeg, boolD, iSeq, PD.iRng1, iRange1, bInt, intD, bAbs, absD, bind_ok, toS_ok, List.map_cons, List.map_nil, List.cons_append, List.nil_append, List.replicate, List.getElem?_cons_zero, List.getElem?_cons_succ, List.set_cons_zero, List.set_cons_succ, List.length_cons, List.length_nil, if_true, if_false, Option.bind_some, Bool.false_eq_true, decide_true, decide_false, Bool.not_true, Bool.not_false]
    rfl)
  refine ⟨_, _, e, ks.map absI, ?_, fun n hn => ?_, by rw [List.length_map]; omega⟩
  · rw [List.filter_eq_self.mpr (fun _ _ => rfl), List.map_map]
    have : (ks.map D.int).length = ks.length := by simp
    show some (MO.lst _) = _
    rw [List.map_map]
    rfl
  · obtain ⟨i, _, rfl⟩ := List.mem_map.mp hn
    unfold absI
    split <;> omega
theorem Good.nil : Good [] := ⟨List.Pairwise.nil, Nat.zero_le _, by simp, by simp⟩
theorem parts_empty : Parts [] [] := ⟨by simp, by simp, List.Pairwise.nil⟩
theorem law_true (ns : List Int) (h : ns.length ≤ 63) : ∃ m, F_law [.wl (ns.map D.int)] [] = .ok (.bl true) m := by
  obtain ⟨m1, q, e1, p1⟩ := pool_ok h _ rfl
  have z0 : (0 : Nat) ≤ cap := Nat.zero_le _
  obtain ⟨d, m2, e2, d0, d1, p2, k2⟩ := draw_ok p1 (k := 16) (by decide) (by decide)
  -- the rest, from the store behind the blocks
  have rest : ∀ m3, PoolAt m3 q → ∃ m', (sSeq (sAsg 2 (dCall F__law_lot (aCons (dVar 1) aNil))) (sSeq (sAsg 3 (dCall F__law_plain (aCons (dVar 2) aNil))) (sSeq (sAsg 4 (dCall F__law_parts (aCons (dVar 3) aNil))) (sSeq (sAsg 5 (dMake "Bank" F_Bank___init__ (aCons (dVar 2) aNil))) (sSeq (sIf (bNot (dB (dCall F__law_asked (aCons (dVar 5) (aCons (PD.d2 ixD (dVar 4) (dC (.int 0))) (aCons (PD.d2 ixD (dVar 4) (dC (.int 1))) aNil)))))) (sRet (dC (.bl false))) sSkip) (sSeq (sIf (bNot (dB (dCall F__law_asked (aCons (dMake "Bank" F_Bank___init___d1 aNil) (aCons (dLst aNil) (aCons (dLst aNil) aNil)))))) (sRet (dC (.bl false))) sSkip) (sRet (dAndV (dCall F__law_same (aCons (dFld "Bank" "extra" (dVar 5)) (aCons (dCall bTuple (aCons (dVar 3) aNil)) aNil))) (dCall F__law_asked (aCons (dVar 5) (aCons (PD.d2 ixD (dVar 4) (dC (.int 0))) (aCons (PD.d2 ixD (dVar 4) (dC (.int 1))) aNil))))))))))))
      [some (.wl (ns.map D.int)), some (.ref q), none, none, none, none, none] m3 = .rt (.bl true) m' := by
    intro m3 p3
    obtain ⟨l, cs, m4, e4, k4, c4, p4, n4, ok4, pos4⟩ := lot_ok p3
    obtain ⟨P, n5, m5, e5, k5, l5, c5, s5, w5, t5⟩ := plain_ok c4 (by omega)
    obtain ⟨fa, pa, F, css, m6, e6, k6, c6, s6, w6, ll6, pp6⟩ := parts_ok c5 s5 (by omega)
    have c46 : m6[l]? = some (.lst (cellsD cs)) := (k5.trans k6).get c4 (by simp)
    obtain ⟨S, m7, e7, k7, b7, w7, t7, g7⟩ := make_ok (Walks.lst c46) (by omega) ok4 pos4
    have hSP : S = P := ss_uniq b7.ss s5 fun x => (w7 x).trans (w5 x).symm
    subst hSP
    have gS : Good S := ⟨b7.ss, by omega, fun c hc => ok4 c ((w7 c).mp hc), fun c hc => pos4 c ((w7 c).mp hc)⟩
    have mk := dMake_ok (F := F_Bank___init__) (fs := aCons (dVar 2) aNil) (δ := [some (.wl (ns.map D.int)), some (.ref q), some (.ref l), some (.ref n5), some (.tup [.ref fa, .ref pa]), none, none]) (m := m6) (args1 rfl) e7
    have hfa := k7.get c6 (by simp)
    have ll7 := ll6.keep k7
    obtain ⟨m8, e8, k8⟩ := asked_ok gS (by omega) b7 hfa s6 w6 ll7 pp6
    have ix0 : ∀ mm : M, ixD (.tup [.ref fa, .ref pa]) (.int 0) mm = .ok (.ref fa) mm := fun mm => ixD_zero (xs := [.ref pa]) rfl
    have ix1 : ∀ mm : M, ixD (.tup [.ref fa, .ref pa]) (.int 1) mm = .ok (.ref pa) mm := fun mm => ixD_nat (j := 1) (xs := [.ref fa, .ref pa]) rfl rfl
    obtain ⟨m9, e9, k9, b9, g9⟩ := make0_ok (m := m8)
    have mk0 := dMake_ok (F := F_Bank___init___d1) (fs := aNil) (δ := [some (.wl (ns.map D.int)), some (.ref q), some (.ref l), some (.ref n5), some (.tup [.ref fa, .ref pa]), some (.ref m6.length), none]) (m := m8) aNil_ap e9
    have x1 : (m9 ++ [MO.lst []] ++ [MO.lst []])[m9.length]? = some (.lst (cellsD [])) := get_old get_new
    have x2 : LL (m9 ++ [MO.lst []] ++ [MO.lst []]) (m9 ++ [MO.lst []]).length [] := ⟨[], get_new, rfl, by simp⟩
    have kx : Kp [] m9 (m9 ++ [MO.lst []] ++ [MO.lst []]) := Kp.app.trans Kp.app
    have bx := b9.keep kx rfl
    obtain ⟨m10, e10, k10⟩ := asked_ok Good.nil (by decide) bx x1 List.Pairwise.nil (fun x => ⟨fun h => (by cases h), fun ⟨s, h, _⟩ => (by cases h)⟩) x2 parts_empty
    have ka : Kp [] m7 m10 := k8.trans (k9.trans (kx.trans k10))
    have b10 := b7.keep ka rfl
    have f10 := fld_of (fo := dVar 5) (δ := [some (.wl (ns.map D.int)), some (.ref q), some (.ref l), some (.ref n5), some (.tup [.ref fa, .ref pa]), some (.ref m6.length), none]) (m := m10) rfl b10
    have bt := bTuple_cells ((k6.trans (k7.trans ka)).get c5 (by simp))
    have sm : F__law_same [.tup (cellsD S), .tup (cellsD S)] m10 = .ok (.bl true) m10 := same_tcells (z := 3) (by omega)
    obtain ⟨m11, e11, k11⟩ := asked_ok gS (by omega) b10 (ka.get hfa (by simp)) s6 w6 (ll7.keep ka) pp6
    refine ⟨m11, ?_⟩
    simp only [bodyF, SO.out, dVar, dC, PD.d2, PD.d1, aNil_ap, aCons_ap, dTup, dLst, dCall, dAndV, dOrV, dNotV, dIf, dChain, dB, bNot, bAnd, bOr, sSkip, sSeq, sAsg, sExpr, sRet, sRetN, sIf, sBrk, sCont, sTgt, gN, gT, gsCons, gsNil, tupItems, sStore, sDel, dLm, dLm0, on1, on2, dInt2, dInt2c, dNeg, boolD, iSeq, PD.iRng1, iRange1, bInt, intD, bAbs, absD, bind_ok, toS_ok, List.map_cons, List.map_nil, List.cons_append, List.nil_append, List.replicate, List.getElem?_cons_zero, List.getElem?_cons_succ, List.set_cons_zero, List.set_cons_succ, List.length_cons, List.length_nil, if_true, if_false, Option.bind_some, Bool.false_eq_true, decide_true, decide_false, Bool.not_true, Bool.not_false, e4, e5, e6, mk, ix0, ix1, e8, mk0, if_pos z0, e10, f10, bt, sm, e11]
  by_cases h5 : d = 5
  · have g5 := decide_eq_true h5
    have dq := dEq_int (a := d) (b := 5) (m := m2)
    rw [g5] at dq
    obtain ⟨m3, e3, k3, p3⟩ := blocks_ok p2
    obtain ⟨m', e⟩ := rest m3 p3
    refine ⟨m', ?_⟩
    unfold F_law den_law bodyF
    simp only [List.length_cons, List.length_nil, if_true, List.map_cons, List.map_nil, List.replicate, List.cons_append, List.nil_append]
    have h1 : sAsg 1 (dLc (iSeq (dSl (dVar 0) oNone (oSome (dC (.int 63))))) (gN 6) [6] bYes (dCall bAbs (aCons (dCall bInt (aCons (dVar 6) aNil)) aNil))) [some (.wl (ns.map D.int)), none, none, none, none, none, none] [] = .nx [some (.wl (ns.map D.int)), some (.ref q), none, none, none, none, none] m1 := by
      unfold sAsg
      rw [e1, toS_ok]
      rfl
    have h2 : sIf (bAnd (dB (PD.d2 dEq (dCall F__law_draw (aCons (dVar 1) (aCons (dC (.int 16)) aNil))) (dC (.int 5)))) (bNot (dB (dCall F__law_blocks (aCons (dVar 1) aNil))))) (sRet (dC (.bl false))) sSkip [some (.wl (ns.map D.int)), some (.ref q), none, none, none, none, none] m1 = .nx [some (.wl (ns.map D.int)), some (.ref q), none, none, none, none, none] m3 := by
      simp only [bodyF, SO.out, dVar, dC, PD.d2, PD.d1, aNil_ap, aCons_ap, dTup, dLst, dCall, dAndV, dOrV, dNotV, dIf, dChain, dB, bNot, bAnd, bOr, sSkip, sSeq, sAsg, sExpr, sRet, sRetN, sIf, sBrk, sCont, sTgt, gN, gT, gsCons, gsNil, tupItems, sStore, sDel, dLm, dLm0, on1, on2, dInt2, dInt2c, dNeg, boolD, iSeq, PD.iRng1, iRange1, bInt, intD, bAbs, absD, bind_ok, toS_ok, List.map_cons, List.map_nil, List.cons_append, List.nil_append, List.replicate, List.getElem?_cons_zero, List.getElem?_cons_succ, List.set_cons_zero, List.set_cons_succ, List.length_cons, List.length_nil, if_true, if_false, Option.bind_some, Bool.false_eq_true, decide_true, decide_false, Bool.not_true, Bool.not_false, e2, dq, e3]
    rw [seq_nx h1, seq_nx h2, e]
    rfl
  · have g5 := decide_eq_false h5
    have dq := dEq_int (a := d) (b := 5) (m := m2)
    rw [g5] at dq
    obtain ⟨m', e⟩ := rest m2 p2
    refine ⟨m', ?_⟩
    unfold F_law den_law bodyF
    simp only [List.length_cons, List.length_nil, if_true, List.map_cons, List.map_nil, List.replicate, List.cons_append, List.nil_append]
    have h1 : sAsg 1 (dLc (iSeq (dSl (dVar 0) oNone (oSome (dC (.int 63))))) (gN 6) [6] bYes (dCall bAbs (aCons (dCall bInt (aCons (dVar 6) aNil)) aNil))) [some (.wl (ns.map D.int)), none, none, none, none, none, none] [] = .nx [some (.wl (ns.map D.int)), some (.ref q), none, none, none, none, none] m1 := by
      unfold sAsg
      rw [e1, toS_ok]
      rfl
    have h2 : sIf (bAnd (dB (PD.d2 dEq (dCall F__law_draw (aCons (dVar 1) (aCons (dC (.int 16)) aNil))) (dC (.int 5)))) (bNot (dB (dCall F__law_blocks (aCons (dVar 1) aNil))))) (sRet (dC (.bl false))) sSkip [some (.wl (ns.map D.int)), some (.ref q), none, none, none, none, none] m1 = .nx [some (.wl (ns.map D.int)), some (.ref q), none, none, none, none, none] m2 := by
      simp only [bodyF, SO.out, dVar, dC, PD.d2, PD.d1, aNil_ap, aCons_ap, dTup, dLst, dCall, dAndV, dOrV, dNotV, dIf, dChain, dB, bNot, bAnd, bOr, sSkip, sSeq, sAsg, sExpr, sRet, sRetN, sIf, sBrk, sCont, sTgt, gN, gT, gsCons, gsNil, tupItems, sStore, sDel, dLm, dLm0, on1, on2, dInt2, dInt2c, dNeg, boolD, iSeq, PD.iRng1, iRange1, bInt, intD, bAbs, absD, bind_ok, toS_ok, List.map_cons, List.map_nil, List.cons_append, List.nil_append, List.replicate, List.getElem?_cons_zero, List.getElem?_cons_succ, List.set_cons_zero, List.set_cons_succ, List.length_cons, List.length_nil, if_true, if_false, Option.bind_some, Bool.false_eq_true, decide_true, decide_false, Bool.not_true, Bool.not_false, e2, dq]
    rw [seq_nx h1, seq_nx h2, e]
    rfl
end NP
end

section
set_option maxHeartbeats 400000
namespace NP
open PySem PySem.Spec PyProof.Rows L2 PD
theorem law_sp {K : PySem.W.Frag} {H : Hp} {a : Addr} {ns : List Int} (hn : ns.length ≤ 63) (hO : Only H) (hS : SqL K H a (ns.map V.int)) : spD K 1 (bodyF 6 den_law) [.ref a] H (fun v _ => v = .bl true) fun _ _ _ => False := by
  obtain ⟨m, e⟩ := law_true ns hn
  have e' : bodyF 6 den_law [.wl (ns.map D.int)] [] = .ok (.bl true) m := e
  refine ⟨[], [.wl (ns.map D.int)], [], rfl, VRs.one ⟨a, ns.map V.int, rfl, ?_, ints_R ns⟩, ⟨rfl, List.nodup_nil, fun i a o e => by simp at e⟩, ?_⟩
  · rcases hS with (h | ⟨o, h⟩) | h
    · rcases hO a with z | ⟨o, xs, z⟩
      · rw [z] at h
        cases h
      · rw [z] at h
        cases h
    · exact .inr ⟨o, h⟩
    · exact .inl fun H' => .inr h
  · rw [e']
    intro ρ' b H' p hr r
    exact r
theorem fnok0 {P : Program} {w : World} {K : PySem.W.Frag} {mg : Str → Option Value} {base : Heap} {k : Nat} {f : Addr} {fd : FuncData} {ps : List Str} {n : Nat} {G : FD} (F : FnOk P w K mg base (L2.CX P w) k f fd ps (spD K n G)) :
    FnOk P w K mg base CX0 k f fd ps (fun vs H Q _ => spD K n G vs H Q fun _ _ _ => False) := by
  refine ⟨fun vs H Q E h => F.len vs H Q _ h, fun A outer s H args us vs Q E hr e0 hb hv hs => ?_⟩
  refine codeAny_mono (F.run A outer s H args us vs Q (fun _ _ _ => False) hr e0 hb hv hs) fun r s' h => ?_
  cases r with
  | ok fl => cases fl with
    | ret u => exact h
    | next => exact h
    | brk => exact h
    | cont => exact h
  | error e =>
    obtain ⟨_, _, _, _, _, _, _, _, _, _, _, _, z⟩ := h
    exact z.elim
theorem facts {P : Program} {w : World} {K : PySem.W.Frag} {mg : Str → Option Value} (T : Txt K mg) : ∃ fd : FuncData, (∀ (s : Shared) (v : Value), BindsTo s fd ⟨[v], []⟩ [("script", v)]) ∧
    ∀ base : Heap, FnOk P w K mg base CX0 8 (He.ga K "law") fd ["script"] (fun vs H Q _ => spD K 1 (bodyF 6 den_law) vs H Q fun _ _ _ => False) := by
  obtain ⟨fd, F⟩ := T.f_law
  have b := FunD.bindsA (ps := ["script"]) F fun _ _ _ _ _ _ us hl => match us, hl with | [_], _ => rfl
  exact ⟨fd, fun s v => b s [v] rfl, fun base => fnok0 (fnok_of (N := N_law) (ps := ["script"]) (n := 6) F fs_law rfl (bd_law T))⟩
end NP
open PySem PySem.W PySem.Calls PyProof.Rows
theorem PySem.Challenge.cw_neverpenned_k46_landfast_holds : PySem.Challenge.rw_neverpenned_k46_landfast.Holds := by
  w_on; o_law
  refine HandSHeadRun.head_any (r := OpenLaw.row PySem.Challenge.rw_neverpenned_k46_landfast) (q := view (OpenLaw.row PySem.Challenge.rw_neverpenned_k46_landfast).prog [33]) (H := NP.hk) (ob := NP.ob) (M := 8000) (loose := NP.names1) (d := HandSHeadRun.topDef (OpenLaw.row PySem.Challenge.rw_neverpenned_k46_landfast).prog 33) (kwd := []) NP.ob_eq
    (by kernel_rfl) (fun s => by kernel_rfl) NP.run (by kernel_rfl) (by kernel_rfl) (by kernel_rfl) (by rfl) (by first | assumption | decide +kernel) (by decide +kernel) ⟨rfl, rfl, rfl, rfl, rfl, by decide +kernel⟩ ?hw ?hc
  case hw => w_witness2
  case hc =>
    refine L2.walk_ofE (l := PySem.Challenge.rw_neverpenned_k46_landfast) (n := 63) (k := 8) (x := "script") (CX := L2.CX0) rfl (by decide) (by kernel_rfl) ⟨rfl, by decide, by decide⟩ ?F (fun _ _ _ _ z => z)
    intro w mg fa h Y G hmg0
    obtain ⟨K, KX, c, ce⟩ := Y
    have T := NP.txt_of KX G c ce
    have hmg : mg ("law" : PySem.Str) = some (.ref fa) := by
      have e : (HandSHeadRun.topDef (OpenLaw.row PySem.Challenge.rw_neverpenned_k46_landfast).prog 33).name = ("law" : PySem.Str) := by kernel_rfl
      rw [← e]
      exact hmg0
    have ea := hmg.symm.trans T.g_law
    cases ea
    obtain ⟨fd, hb, hF⟩ := NP.facts (P := (PySem.Challenge.rw_neverpenned_k46_landfast).prog) (w := w) T
    exact ⟨K, fd, (fun vs H Q _ => PD.spD K 1 (PD.bodyF 6 NP.den_law) vs H Q fun _ _ _ => False), KX, hb, fun H a ns hl hO hS => NP.law_sp hl hO hS, fun base _ _ => hF base⟩
end
